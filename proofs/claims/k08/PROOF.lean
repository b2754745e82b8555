import PyProof.Rows.All
import Wide.All
import OpenK.AllK
import Wide.FinOn
import HandS.ForMost
import HandS.Exc
import HandS.TryOnly
import HandS.TryMany
import HandS.ExcOwn
import HandS.ExcInit
import HandS.WordsExc
import HandS.CallSlots
import HandS.Flow
import HandS.Wide
import HandS.WideBits
import HandS.IsInst
import HandS.Defaults
import HandS.Star
import HandS.MakeKw
import HandS.MakeKwOnly
import HandS.Deep
import HandS.TupAny
import HandS.OwnEq
import HandS.ClsMeth
import HandS.FStr
import HandS.SlotsOwn
import KE.KStateDown
import HandS.Ends
import HandS.Head0
import HandS.Head1
import HandS.Head2
import HandS.HeadEnd
import HandS.HeadHook1
import HandS.HeadHook2
import HandS.EndBits
import KE.DataEq
import PySem.Challenge.RW_latewords_k08_states_of_great_lengths
set_option Elab.async false
set_option linter.all false
set_option maxRecDepth 100000
set_option maxHeartbeats 4000000
/-! Certified combinators over the hand layer: what a construct does is told as a plain function on trees. -/
namespace Ev
open PySem L2

inductive D where
  | non | bl (b : Bool) | int (i : Int) | str (s : Str)
  | tup (xs : List D) | lst (xs : List D) | rol (xs : List D) | obj (c : Nat) (fs : List D)
  | ref (n : Nat)
inductive O where
  | lst (xs : List D) | ins (c : Nat) (fs : List D)
abbrev Hs := List O
abbrev En := List (Option D)
inductive R (α : Type) where
  | ok (a : α) (h : Hs) | err (c : Nat) (fs : List D) (h : Hs) | bad
def R.bind {α β : Type} (r : R α) (k : α → Hs → R β) : R β := match r with
  | .ok a h => k a h
  | .err c fs h => .err c fs h
  | .bad => .bad
@[simp] theorem R.bind_ok {α β : Type} (a : α) (h : Hs) (k : α → Hs → R β) : (R.ok a h).bind k = k a h := rfl
@[simp] theorem R.bind_err {α β : Type} (c : Nat) (fs : List D) (h : Hs) (k : α → Hs → R β) : (R.err c fs h : R α).bind k = .err c fs h := rfl
@[simp] theorem R.bind_bad {α β : Type} (k : α → Hs → R β) : (R.bad : R α).bind k = .bad := rfl
theorem R.bind_assoc {α β γ : Type} (r : R α) (k : α → Hs → R β) (l : β → Hs → R γ) : (r.bind k).bind l = r.bind fun a h => (k a h).bind l := by
  cases r <;> rfl

structure G where
  K : PySem.W.Frag
  mg : Str → Option Value
  ci : Nat → String × List String

def KTup (K : PySem.W.Frag) (a : Addr) (xs : List V) : Prop :=
  ∃ (o : Obj) (its : Array Value) (n : Nat), K.lookup a = some o ∧ o.cls = .type "tuple" ∧ o.data = .seq its n ∧ its.size ≤ sizeLine ∧ Vals xs its.toList
def KLst (K : PySem.W.Frag) (a : Addr) (xs : List V) : Prop :=
  ∃ (o : Obj) (its : Array Value) (n : Nat), K.lookup a = some o ∧ o.cls = .type "list" ∧ o.dict = none ∧ o.data = .seq its n ∧ its.size ≤ sizeLine ∧ Vals xs its.toList
def TupAt (g : G) (bs : List Addr) (H : Hp) (a : Addr) (vs : List V) : Prop := (a ∉ bs ∧ Rd H a (.tup vs)) ∨ KTup g.K a vs
def RolAt (g : G) (bs : List Addr) (H : Hp) (a : Addr) (vs : List V) : Prop := (a ∉ bs ∧ Rd H a (.lst vs)) ∨ KLst g.K a vs
def IsCls (g : G) (c : Nat) (C : Addr) : Prop := g.mg (Str.ofString (g.ci c).1) = some (.ref C)
def flds (g : G) (c n : Nat) : List Str := ((g.ci c).2.take n).map Str.ofString

mutual
inductive Rep (g : G) (bs : List Addr) (H : Hp) : D → V → Prop
  | non : Rep g bs H .non .non
  | bl (b : Bool) : Rep g bs H (.bl b) (.bl b)
  | int (i : Int) : Rep g bs H (.int i) (.int i)
  | str {s : Str} : PySem.PyData.strOk s = true → Rep g bs H (.str s) (.str s)
  | tup {a : Addr} {vs : List V} {ds : List D} : TupAt g bs H a vs → Reps g bs H ds vs → Rep g bs H (.tup ds) (.ref a)
  | lst {a : Addr} {vs : List V} {ds : List D} : a ∉ bs → H a = some (.lst vs) → Reps g bs H ds vs → Rep g bs H (.lst ds) (.ref a)
  | rol {a : Addr} {vs : List V} {ds : List D} : RolAt g bs H a vs → Reps g bs H ds vs → Rep g bs H (.rol ds) (.ref a)
  | obj {c : Nat} {C a dx : Addr} {fvs : List (Str × V)} {ds : List D} : a ∉ bs → IsCls g c C → H a = some (.ins C dx fvs) → fvs.map (·.1) = flds g c ds.length → Reps g bs H ds (fvs.map (·.2)) → Rep g bs H (.obj c ds) (.ref a)
  | ref {n : Nat} {a : Addr} : bs[n]? = some a → Rep g bs H (.ref n) (.ref a)
inductive Reps (g : G) (bs : List Addr) (H : Hp) : List D → List V → Prop
  | nil : Reps g bs H [] []
  | cons {d : D} {v : V} {ds : List D} {vs : List V} : Rep g bs H d v → Reps g bs H ds vs → Reps g bs H (d :: ds) (v :: vs)
end

def RepO (g : G) (bs : List Addr) (H : Hp) (a : Addr) : O → Prop
  | .lst ds => ∃ vs, H a = some (.lst vs) ∧ Reps g bs H ds vs
  | .ins c ds => ∃ C dx fvs, IsCls g c C ∧ H a = some (.ins C dx fvs) ∧ fvs.map (·.1) = flds g c ds.length ∧ Reps g bs H ds (fvs.map (·.2))
structure HRel (g : G) (bs : List Addr) (h : Hs) (H : Hp) : Prop where
  len : bs.length = h.length
  nd : bs.Nodup
  at_ : ∀ (i : Nat) (o : O), h[i]? = some o → ∃ a, bs[i]? = some a ∧ RepO g bs H a o
structure ERel (g : G) (bs : List Addr) (H : Hp) (env : En) (σ : St) : Prop where
  len : env.length = σ.length
  at_ : ∀ (i : Nat) (d : D), env[i]? = some (some d) → ∃ v, σ[i]? = some (some v) ∧ Rep g bs H d v
/-- what is kept: all but the cells at bs; new cells are new -/
structure Ext (bs : List Addr) (H : Hp) (bs' : List Addr) (H' : Hp) : Prop where
  pre : ∃ more, bs' = bs ++ more ∧ ∀ b ∈ more, H b = none
  keep : ∀ b o, H b = some o → b ∉ bs → H' b = some o
  cel : ∀ b o, H b = some o → ∃ o', H' b = some o'

section
variable {g : G} {bs bs1 bs2 : List Addr} {H H1 H2 : Hp}
theorem Ext.refl : Ext bs H bs H := ⟨⟨[], by simp, fun _ h => nomatch h⟩, fun _ _ h _ => h, fun _ o h => ⟨o, h⟩⟩
theorem Ext.out (e : Ext bs H bs1 H1) {b : Addr} {o : HO} (h : H b = some o) (hb : b ∉ bs) : b ∉ bs1 := by
  obtain ⟨⟨more, rfl, hm⟩, _, _⟩ := e
  intro z
  rcases List.mem_append.mp z with z | z
  · exact hb z
  · rw [hm b z] at h; cases h
theorem Ext.trans (e : Ext bs H bs1 H1) (f : Ext bs1 H1 bs2 H2) : Ext bs H bs2 H2 := by
  refine ⟨?_, fun b o h hb => f.keep b o (e.keep b o h hb) (e.out h hb), fun b o h => ?_⟩
  · obtain ⟨⟨m1, rfl, h1⟩, k1, c1⟩ := e
    obtain ⟨⟨m2, rfl, h2⟩, k2, c2⟩ := f
    refine ⟨m1 ++ m2, by simp, fun b hb => ?_⟩
    rcases List.mem_append.mp hb with z | z
    · exact h1 b z
    · cases q : H b with
      | none => rfl
      | some o =>
        obtain ⟨o', q'⟩ := c1 b o q
        rw [h2 b z] at q'; cases q'
  · obtain ⟨o', h'⟩ := e.cel b o h
    exact f.cel b o' h'
theorem Ext.rd (e : Ext bs H bs1 H1) {a : Addr} {u : HO} (hb : a ∉ bs) (h : Rd H a u) : a ∉ bs1 ∧ Rd H1 a u := by
  rcases h with h | ⟨o, h⟩
  · exact ⟨e.out h hb, .inl (e.keep _ _ h hb)⟩
  · exact ⟨e.out h hb, .inr ⟨o, e.keep _ _ h hb⟩⟩
theorem TupAt.mono (e : Ext bs H bs1 H1) {a : Addr} {vs : List V} (h : TupAt g bs H a vs) : TupAt g bs1 H1 a vs := by
  rcases h with ⟨h1, h2⟩ | h
  · exact .inl (e.rd h1 h2)
  · exact .inr h
theorem RolAt.mono (e : Ext bs H bs1 H1) {a : Addr} {vs : List V} (h : RolAt g bs H a vs) : RolAt g bs1 H1 a vs := by
  rcases h with ⟨h1, h2⟩ | h
  · exact .inl (e.rd h1 h2)
  · exact .inr h
theorem TupAt.sq {a : Addr} {vs : List V} (h : TupAt g bs H a vs) : SqT g.K H a vs := by
  rcases h with ⟨_, h⟩ | h
  · exact .inl h
  · exact .inr h
theorem RolAt.sq {a : Addr} {vs : List V} (h : RolAt g bs H a vs) : SqL g.K H a vs := by
  rcases h with ⟨_, h⟩ | h
  · exact .inl h
  · exact .inr h
theorem Ext.get (e : Ext bs H bs1 H1) {n : Nat} {a : Addr} (h : bs[n]? = some a) : bs1[n]? = some a := by
  obtain ⟨⟨more, rfl, _⟩, _, _⟩ := e
  rw [List.getElem?_append_left (List.getElem?_eq_some_iff.mp h).1]; exact h
mutual
theorem Rep.mono (e : Ext bs H bs1 H1) : ∀ {d : D} {v : V}, Rep g bs H d v → Rep g bs1 H1 d v
  | _, _, .non => .non
  | _, _, .bl b => .bl b
  | _, _, .int i => .int i
  | _, _, .str h => .str h
  | _, _, .tup h r => .tup (h.mono e) (Reps.mono e r)
  | _, _, .lst n h r => .lst (e.out h n) (e.keep _ _ h n) (Reps.mono e r)
  | _, _, .rol h r => .rol (h.mono e) (Reps.mono e r)
  | _, _, .obj n c h f r => .obj (e.out h n) c (e.keep _ _ h n) f (Reps.mono e r)
  | _, _, .ref h => .ref (e.get h)
theorem Reps.mono (e : Ext bs H bs1 H1) : ∀ {ds : List D} {vs : List V}, Reps g bs H ds vs → Reps g bs1 H1 ds vs
  | _, _, .nil => .nil
  | _, _, .cons r t => .cons (Rep.mono e r) (Reps.mono e t)
end
theorem ERel.mono (e : Ext bs H bs1 H1) {env : En} {σ : St} (h : ERel g bs H env σ) : ERel g bs1 H1 env σ :=
  ⟨h.len, fun i d q => let ⟨v, q1, r⟩ := h.at_ i d q; ⟨v, q1, r.mono e⟩⟩
theorem Reps.length : ∀ {ds : List D} {vs : List V}, Reps g bs H ds vs → ds.length = vs.length
  | _, _, .nil => rfl
  | _, _, .cons _ t => by rw [List.length_cons, List.length_cons, Reps.length t]
theorem Reps.get : ∀ {ds : List D} {vs : List V} {i : Nat} {d : D}, Reps g bs H ds vs → ds[i]? = some d → ∃ v, vs[i]? = some v ∧ Rep g bs H d v
  | _, _, _, _, .nil, h => by simp at h
  | _, _, 0, _, .cons r _, h => by simp at h; subst h; exact ⟨_, rfl, r⟩
  | _, _, i + 1, _, .cons _ t, h => by
    obtain ⟨v, h1, h2⟩ := Reps.get (i := i) t (by simpa using h)
    exact ⟨v, by simpa using h1, h2⟩
theorem Reps.append : ∀ {ds es : List D} {vs us : List V}, Reps g bs H ds vs → Reps g bs H es us → Reps g bs H (ds ++ es) (vs ++ us)
  | _, _, _, _, .nil, s => s
  | _, _, _, _, .cons r t, s => .cons r (Reps.append t s)
theorem Reps.set {d : D} {v : V} (r : Rep g bs H d v) : ∀ {ds : List D} {vs : List V} (i : Nat), Reps g bs H ds vs → Reps g bs H (ds.set i d) (vs.set i v)
  | _, _, _, .nil => .nil
  | _, _, 0, .cons _ t => .cons r t
  | _, _, i + 1, .cons q t => .cons q (Reps.set r i t)
theorem Reps.take : ∀ {ds : List D} {vs : List V} (n : Nat), Reps g bs H ds vs → Reps g bs H (ds.take n) (vs.take n)
  | _, _, 0, _ => .nil
  | _, _, _ + 1, .nil => .nil
  | _, _, n + 1, .cons r t => .cons r (Reps.take n t)
theorem Reps.drop : ∀ {ds : List D} {vs : List V} (n : Nat), Reps g bs H ds vs → Reps g bs H (ds.drop n) (vs.drop n)
  | _, _, 0, r => r
  | _, _, _ + 1, .nil => .nil
  | _, _, n + 1, .cons _ t => Reps.drop n t
end

/-! ### what is wanted behind -/
/-- an exception of an own class: its class, its fields -/
def ErrAt (g : G) (bs : List Addr) (H : Hp) (c : Nat) (ds : List D) (C : Value) (dd : Option Addr) : Prop :=
  ∃ (Ca d : Addr) (fvs : List (Str × V)), IsCls g c Ca ∧ C = .ref Ca ∧ dd = some d ∧ d ∉ bs ∧ H d = some (.xd fvs) ∧ fvs.map (·.1) = flds g c ds.length ∧ Reps g bs H ds (fvs.map (·.2))
theorem ErrAt.mono {g : G} {bs bs1 : List Addr} {H H1 : Hp} {c : Nat} {ds : List D} {C : Value} {dd : Option Addr} (e : Ext bs H bs1 H1) (h : ErrAt g bs H c ds C dd) : ErrAt g bs1 H1 c ds C dd := by
  obtain ⟨Ca, d, fvs, h1, h2, h3, h4, h5, h6, h7⟩ := h
  exact ⟨Ca, d, fvs, h1, h2, h3, e.out h5 h4, e.keep _ _ h5 h4, h6, h7.mono e⟩
def Post {α β : Type} (rel : List Addr → Hp → α → β → Prop) (g : G) (W : Value → Option Addr → Hp → Prop) (bs : List Addr) (H : Hp) (r : R α) (Q : β → Hp → Prop) : Prop := match r with
  | .ok a h' => ∀ bs' H' v, Ext bs H bs' H' → HRel g bs' h' H' → rel bs' H' a v → Q v H'
  | .err c fs h' => ∀ C dd bs' H', Ext bs H bs' H' → HRel g bs' h' H' → ErrAt g bs' H' c fs C dd → W C dd H'
  | .bad => False
theorem Post.mono {α β : Type} {rel : List Addr → Hp → α → β → Prop} {g : G} {W : Value → Option Addr → Hp → Prop} {bs bs1 : List Addr} {H H1 : Hp} {r : R α} {Q : β → Hp → Prop} (e : Ext bs H bs1 H1) (h : Post rel g W bs H r Q) : Post rel g W bs1 H1 r Q := by
  cases r with
  | ok a h' => exact fun bs' H' v x y z => h bs' H' v (e.trans x) y z
  | err c fs h' => exact fun C dd bs' H' x y z => h C dd bs' H' (e.trans x) y z
  | bad => exact h
theorem Post.ok_ {α β : Type} {rel : List Addr → Hp → α → β → Prop} {g : G} {W : Value → Option Addr → Hp → Prop} {bs : List Addr} {H : Hp} {a : α} {v : β} {h : Hs} {Q : β → Hp → Prop} (p : Post rel g W bs H (.ok a h) Q) (hr : HRel g bs h H) (r : rel bs H a v) : Q v H :=
  p bs H v .refl hr r
end Ev
set_option Elab.async false
set_option linter.all false
set_option maxRecDepth 100000
set_option maxHeartbeats 4000000
namespace Ev
open PySem L2

abbrev _root_.L2.Cx.g (X : Cx) (ci : Nat → String × List String) : G := ⟨X.K, X.mg, ci⟩
abbrev relV (g : G) : List Addr → Hp → D → V → Prop := fun bs H d v => Rep g bs H d v
abbrev relVs (g : G) : List Addr → Hp → List D → List V → Prop := fun bs H d v => Reps g bs H d v
abbrev relB : List Addr → Hp → Bool → Bool → Prop := fun _ _ a b => b = a
def Sim {α β : Type} (rel : List Addr → Hp → α → β → Prop) (g : G) (W : WX) (t : St → Hp → (β → Hp → Prop) → Prop) (f : En → Hs → R α) : Prop :=
  ∀ (σ : St) (H : Hp) (env : En) (h : Hs) (bs : List Addr) (Q : β → Hp → Prop), ERel g bs H env σ → HRel g bs h H → Post rel g (fun C d H' => W C d σ H') bs H (f env h) Q → t σ H Q
structure EJ (ci : Nat → String × List String) (X : Cx) (W : WX) (e : Expr) (t : TE) (f : En → Hs → R D) : Prop where
  pe : PE X e t
  sim : Sim (relV (X.g ci)) (X.g ci) W t f
structure TJ (ci : Nat → String × List String) (X : Cx) (W : WX) (e : Expr) (t : TT) (f : En → Hs → R Bool) : Prop where
  pt : PT X e t
  sim : Sim relB (X.g ci) W t f
structure TWJ (ci : Nat → String × List String) (X : Cx) (W : WX) (e : Expr) (t : TT) (f : En → Hs → R Bool) : Prop where
  pw : PW X e t
  sim : Sim relB (X.g ci) W t f
structure AJ (ci : Nat → String × List String) (X : Cx) (W : WX) (es : List Expr) (t : TA) (f : En → Hs → R (List D)) : Prop where
  pa : PA X es t
  sim : Sim (relVs (X.g ci)) (X.g ci) W t f

theorem Post.step {α β γ δ : Type} {relA : List Addr → Hp → α → β → Prop} {relC : List Addr → Hp → γ → δ → Prop} {g : G} {W : Value → Option Addr → Hp → Prop} {bs : List Addr} {H : Hp} {r : R α} {k : α → Hs → R γ} {Q : δ → Hp → Prop} {Q' : β → Hp → Prop}
    {M : (β → Hp → Prop) → Prop} (hM : ∀ Q', Post relA g W bs H r Q' → M Q') (p : Post relC g W bs H (r.bind k) Q)
    (hk : ∀ a b bs1 H1 h1, Ext bs H bs1 H1 → HRel g bs1 h1 H1 → relA bs1 H1 a b → Post relC g W bs1 H1 (k a h1) Q → Q' b H1) : M Q' := by
  refine hM _ ?_
  cases r with
  | bad => exact p
  | err c fs h' => exact p
  | ok a h1 => exact fun bs1 H1 b e hr1 ra => hk a b bs1 H1 h1 e hr1 ra (Post.mono e p)
theorem Sim.step {α β γ δ : Type} {relA : List Addr → Hp → α → β → Prop} {relC : List Addr → Hp → γ → δ → Prop} {g : G} {W : WX} {t : St → Hp → (β → Hp → Prop) → Prop} {f : En → Hs → R α} {σ : St} {H : Hp} {env : En} {h : Hs} {bs : List Addr} {k : α → Hs → R γ} {Q : δ → Hp → Prop} {Q' : β → Hp → Prop}
    (ht : Sim relA g W t f) (er : ERel g bs H env σ) (hr : HRel g bs h H) (p : Post relC g (fun C d H' => W C d σ H') bs H ((f env h).bind k) Q)
    (hk : ∀ a b bs1 H1 h1, Ext bs H bs1 H1 → HRel g bs1 h1 H1 → ERel g bs1 H1 env σ → relA bs1 H1 a b → Post relC g (fun C d H' => W C d σ H') bs1 H1 (k a h1) Q → Q' b H1) : t σ H Q' :=
  Post.step (M := fun Q' => t σ H Q') (fun Q' p => ht σ H env h bs Q' er hr p) p fun a b bs1 H1 h1 e hr1 ra p1 => hk a b bs1 H1 h1 e hr1 (er.mono e) ra p1
theorem Sim.bind {α β γ δ : Type} {relA : List Addr → Hp → α → β → Prop} {relC : List Addr → Hp → γ → δ → Prop} {g : G} {W : WX} {t : St → Hp → (β → Hp → Prop) → Prop} {f : En → Hs → R α}
    {u : β → St → Hp → (δ → Hp → Prop) → Prop} {k : α → En → Hs → R γ} (ht : Sim relA g W t f)
    (hk : ∀ a b σ H env h bs (Q : δ → Hp → Prop), ERel g bs H env σ → HRel g bs h H → relA bs H a b → Post relC g (fun C d H' => W C d σ H') bs H (k a env h) Q → u b σ H Q) :
    Sim relC g W (fun σ H Q => t σ H fun b H1 => u b σ H1 Q) (fun env h => (f env h).bind fun a h1 => k a env h1) :=
  fun σ H env h bs Q er hr p => ht.step er hr p fun a b bs1 H1 h1 e hr1 er1 ra p1 => hk a b σ H1 env h1 bs1 Q er1 hr1 ra p1
theorem Sim.pure_ {α β : Type} {rel : List Addr → Hp → α → β → Prop} {g : G} {W : WX} {a : α} {b : β} (h : ∀ bs H, rel bs H a b) : Sim rel g W (fun _ H Q => Q b H) (fun _ h => .ok a h) :=
  fun σ H env h' bs Q er hr p => Post.ok_ p hr (h bs H)

/-! ### names, constants -/
def eVar (i : Nat) : En → Hs → R D := fun env h => match env[i]? with
  | some (some d) => .ok d h
  | _ => .bad
def eC (d : D) : En → Hs → R D := fun _ h => .ok d h
section
variable {ci : Nat → String × List String} {X : Cx} {W : WX} {pos : Pos}
theorem ej_var (i : Nat) {x : Str} (hN : X.N[i]? = some x := by rfl) (hv : Vis X.env.scope x := by first | exact Or.inl rfl | exact Or.inr (Or.inl rfl) | exact Or.inr (Or.inr rfl)) (hd : (x == ("__debug__" : Str)) = false := by decide)
    (hcd : (x == ("__classdict__" : Str)) = false := by decide) : EJ ci X W (.Name x pos) (tVar i) (eVar i) := by
  refine ⟨pe_var hN hv hd hcd, fun σ H env h bs Q er hr p => ?_⟩
  unfold eVar at p
  split at p
  · rename_i d hd
    obtain ⟨v, hv, r⟩ := er.at_ i d hd
    exact ⟨v, hv, Post.ok_ p hr r⟩
  · exact p.elim
theorem ej_int {i : Int} {j} : EJ ci X W (.Constant (.int i) j pos) (tC (.int i)) (eC (.int i)) := ⟨pe_int, Sim.pure_ fun _ _ => .int i⟩
theorem ej_bl {b : Bool} {j} : EJ ci X W (.Constant (.bool b) j pos) (tC (.bl b)) (eC (.bl b)) := ⟨pe_bl, Sim.pure_ fun _ _ => .bl b⟩
theorem ej_non {j} : EJ ci X W (.Constant .none j pos) (tC .non) (eC .non) := ⟨pe_non, Sim.pure_ fun _ _ => .non⟩
theorem ej_str {s : Str} {j} (h : PyData.strOk s = true := by decide +kernel) : EJ ci X W (.Constant (.str s) j pos) (tC (.str s)) (eC (.str s)) := ⟨pe_str, Sim.pure_ fun _ _ => .str h⟩
/-- a module's constant -/
theorem ej_glob {x : Str} {v : V} {u : Value} {d : D} (hg : Gl X x) (hm : X.mg x = some u) (r : RelV v u) (hr : ∀ bs H, Rep (X.g ci) bs H d v) (hd : (x == ("__debug__" : Str)) = false := by decide) : EJ ci X W (.Name x pos) (tC v) (eC d) :=
  ⟨pe_glob hg hm r hd, Sim.pure_ hr⟩
end

/-! ### two-place operations -/
structure OpJ (g : G) (r : R2) (f : D → D → Hs → R D) : Prop where
  run : ∀ (W : Value → Option Addr → Hp → Prop) (bs : List Addr) (h : Hs) (H : Hp) (x y : D) (vx vy : V) (Q : VK), HRel g bs h H → Rep g bs H x vx → Rep g bs H y vy → Post (relV g) g W bs H (f x y h) Q → r vx vy H Q
def eBin (op : D → D → Hs → R D) (fa fb : En → Hs → R D) : En → Hs → R D := fun env h => (fa env h).bind fun x h1 => (fb env h1).bind fun y h2 => op x y h2
theorem sim_bin {g : G} {W : WX} {r : R2} {op : D → D → Hs → R D} {ta tb : TE} {fa fb : En → Hs → R D} (ho : OpJ g r op) (ha : Sim (relV g) g W ta fa) (hb : Sim (relV g) g W tb fb) : Sim (relV g) g W (tOp r ta tb) (eBin op fa fb) :=
  fun σ H env h bs Q er hr p => ha.step er hr p fun x vx bs1 H1 h1 e1 hr1 er1 rx p1 => hb.step er1 hr1 p1 fun y vy bs2 H2 h2 e2 hr2 er2 ry p2 =>
    ho.run _ bs2 h2 H2 x y vx vy Q hr2 (rx.mono e2) ry p2
section
variable {ci : Nat → String × List String} {X : Cx} {W : WX} {pos : Pos} {a b c : Expr} {ta tb tc : TE} {fa fb fc : En → Hs → R D}
theorem ej_bin {op : Operator} {r : R2} {f : D → D → Hs → R D} (ho : OpR X (binaryOp op) r) (hj : OpJ (X.g ci) r f) (ha : EJ ci X W a ta fa) (hb : EJ ci X W b tb fb) : EJ ci X W (.BinOp a op b pos) (tOp r ta tb) (eBin f fa fb) :=
  ⟨pe_op ho ha.pe hb.pe, sim_bin hj ha.sim hb.sim⟩
/-- a comparison as a value -/
theorem ej_cmp {op : CmpOp} {r : R2} {f : D → D → Hs → R D} (ho : OpR X (compareOp op) r) (hj : OpJ (X.g ci) r f) (ha : EJ ci X W a ta fa) (hb : EJ ci X W b tb fb) (hm : behindInMarks op b = false) : EJ ci X W (.Compare a [op] [b] pos) (tOp r ta tb) (eBin f fa fb) :=
  ⟨pe_cmpR ho ha.pe hb.pe hm, sim_bin hj ha.sim hb.sim⟩
/-- a bool's value as a test -/
def toB (d : D) (h : Hs) : R Bool := match d with
  | .bl b => .ok b h
  | _ => .bad
def eTest (f : En → Hs → R D) : En → Hs → R Bool := fun env h => (f env h).bind toB
theorem sim_test {g : G} {t : TE} {f : En → Hs → R D} (ht : Sim (relV g) g W t f) : Sim relB g W (tTest t) (eTest f) := by
  refine Sim.bind (u := fun x σ H1 Q => ∃ k, x = .bl k ∧ Q k H1) (k := fun x _ h1 => toB x h1) ht ?_
  intro a b σ H env h bs Q er hr ra p
  cases ra <;> first | exact p.elim | exact ⟨_, rfl, Post.ok_ p hr rfl⟩
theorem tj_cmp {op : CmpOp} {r : R2} {f : D → D → Hs → R D} (ho : OpR X (compareOp op) r) (hj : OpJ (X.g ci) r f) (ha : EJ ci X W a ta fa) (hb : EJ ci X W b tb fb) (hm : behindInMarks op b = false) : TJ ci X W (.Compare a [op] [b] pos) (tTest (tOp r ta tb)) (eTest (eBin f fa fb)) :=
  ⟨pt_cmpR ho ha.pe hb.pe hm, sim_test (sim_bin hj ha.sim hb.sim)⟩
/-- a op1 b op2 c -/
def eChain (o o' : D → D → Hs → R D) (fa fb fc : En → Hs → R D) : En → Hs → R D := fun env h => (fa env h).bind fun x h1 => (fb env h1).bind fun y h2 => (o x y h2).bind fun z h3 =>
  (toB z h3).bind fun k h4 => if k = true then (fc env h4).bind fun w h5 => o' y w h5 else .ok (.bl false) h4
theorem sim_chain {g : G} {r r' : R2} {o o' : D → D → Hs → R D} (ho : OpJ g r o) (ho' : OpJ g r' o') (ha : Sim (relV g) g W ta fa) (hb : Sim (relV g) g W tb fb) (hc : Sim (relV g) g W tc fc) : Sim (relV g) g W (tChain r r' ta tb tc) (eChain o o' fa fb fc) :=
  fun σ H env h bs Q er hr p => ha.step er hr p fun x vx bs1 H1 h1 e1 hr1 er1 rx p1 => hb.step er1 hr1 p1 fun y vy bs2 H2 h2 e2 hr2 er2 ry p2 =>
    Post.step (M := fun Q' => r vx vy H2 Q') (fun Q' q => ho.run _ bs2 h2 H2 x y vx vy Q' hr2 (rx.mono e2) ry q) p2 fun z vz bs3 H3 h3 e3 hr3 rz p3 => by
      cases rz with
      | bl k =>
        refine ⟨k, rfl, ?_⟩
        cases k with
        | false =>
          rw [if_neg Bool.false_ne_true]
          exact Post.ok_ p3 hr3 (.bl false)
        | true =>
          rw [if_pos rfl]
          exact hc.step (er2.mono e3) hr3 p3 fun w vw bs4 H4 h4 e4 hr4 er4 rw_ p4 => ho'.run _ bs4 h4 H4 y w vy vw Q hr4 ((ry.mono e3).mono e4) rw_ p4
      | _ => exact p3.elim
theorem ej_chain {op op' : CmpOp} {r r' : R2} {f f' : D → D → Hs → R D} (ho : OpR X (compareOp op) r) (ho' : OpR X (compareOp op') r') (hj : OpJ (X.g ci) r f) (hj' : OpJ (X.g ci) r' f') (ha : EJ ci X W a ta fa) (hb : EJ ci X W b tb fb) (hc : EJ ci X W c tc fc)
    (hm : lastMarks [op, op'] [b, c] = false := by with_unfolding_all rfl) : EJ ci X W (.Compare a [op, op'] [b, c] pos) (tChain r r' ta tb tc) (eChain f f' fa fb fc) :=
  ⟨pe_chain ho ho' ha.pe hb.pe hc.pe hm, sim_chain hj hj' ha.sim hb.sim hc.sim⟩
theorem tj_chain {op op' : CmpOp} {r r' : R2} {f f' : D → D → Hs → R D} (ho : OpR X (compareOp op) r) (ho' : OpR X (compareOp op') r') (hj : OpJ (X.g ci) r f) (hj' : OpJ (X.g ci) r' f') (ha : EJ ci X W a ta fa) (hb : EJ ci X W b tb fb) (hc : EJ ci X W c tc fc)
    (hm : lastMarks [op, op'] [b, c] = false := by with_unfolding_all rfl) : TJ ci X W (.Compare a [op, op'] [b, c] pos) (tTest (tChain r r' ta tb tc)) (eTest (eChain f f' fa fb fc)) :=
  ⟨pt_chain ho ho' ha.pe hb.pe hc.pe hm, sim_test (sim_chain hj hj' ha.sim hb.sim hc.sim)⟩
end

/-! ### lists that are read -/
def cellL (h : Hs) (n : Nat) : Option (List D) := match h[n]? with
  | some (.lst xs) => some xs
  | _ => none
theorem cellL_ok {h : Hs} {n : Nat} {xs : List D} (e : cellL h n = some xs) : h[n]? = some (.lst xs) := by
  unfold cellL at e
  split at e
  · rename_i ys hy
    cases e
    exact hy
  · cases e
def rdL (h : Hs) : D → Option (List D)
  | .lst xs => some xs
  | .rol xs => some xs
  | .ref n => cellL h n
  | _ => none
/-- .. that stand by themselves -/
def ownL (h : Hs) : D → Option (List D)
  | .lst xs => some xs
  | .ref n => cellL h n
  | _ => none
section
variable {g : G} {bs : List Addr} {h : Hs} {H : Hp} {d : D} {v : V} {xs : List D}
theorem cell_ok (hr : HRel g bs h H) {n : Nat} {a : Addr} (hb : bs[n]? = some a) (e : cellL h n = some xs) : ∃ vs, H a = some (.lst vs) ∧ Reps g bs H xs vs := by
  obtain ⟨a', h1, vs, h2, h3⟩ := hr.at_ _ _ (cellL_ok e)
  rw [hb] at h1
  cases h1
  exact ⟨vs, h2, h3⟩
theorem ownL_ok (hr : HRel g bs h H) (r : Rep g bs H d v) (e : ownL h d = some xs) : ∃ a vs, v = .ref a ∧ H a = some (.lst vs) ∧ Reps g bs H xs vs := by
  cases r with
  | lst n hl rs => cases e; exact ⟨_, _, rfl, hl, rs⟩
  | ref hb => obtain ⟨vs, h1, h2⟩ := cell_ok hr hb (show cellL h _ = some xs from e); exact ⟨_, vs, rfl, h1, h2⟩
  | _ => cases e
theorem rdL_ok (hr : HRel g bs h H) (r : Rep g bs H d v) (e : rdL h d = some xs) : ∃ a vs, v = .ref a ∧ SqL g.K H a vs ∧ Reps g bs H xs vs := by
  cases r with
  | lst n hl rs => cases e; exact ⟨_, _, rfl, .of hl, rs⟩
  | rol hl rs => cases e; exact ⟨_, _, rfl, hl.sq, rs⟩
  | ref hb => obtain ⟨vs, h1, h2⟩ := cell_ok hr hb (show cellL h _ = some xs from e); exact ⟨_, vs, rfl, .of h1, h2⟩
  | _ => cases e
end
section
variable {g : G} {bs : List Addr} {h : Hs} {H : Hp} {d : D} {v : V} {xs : List D}
/-- a new frozen list (tuple) -/
theorem RepO.mono {bs1 : List Addr} {H1 : Hp} {a : Addr} {o : O} (e : Ext bs H bs1 H1) (ha : H1 a = H a) (h2 : RepO g bs H a o) : RepO g bs1 H1 a o := by
  cases o with
  | lst ds => obtain ⟨vs, q, r⟩ := h2; exact ⟨vs, ha.trans q, r.mono e⟩
  | ins c ds => obtain ⟨C, dx, fvs, q1, q2, q3, q4⟩ := h2; exact ⟨C, dx, fvs, q1, ha.trans q2, q3, q4.mono e⟩
theorem HRel.mono {H1 : Hp} (hr : HRel g bs h H) (e : Ext bs H bs H1) (k : ∀ b ∈ bs, H1 b = H b) : HRel g bs h H1 := by
  refine ⟨hr.len, hr.nd, fun i o hi => ?_⟩
  obtain ⟨a, h1, h2⟩ := hr.at_ i o hi
  exact ⟨a, h1, h2.mono e (k a (List.mem_of_getElem? h1))⟩
theorem HRel.some_ (hr : HRel g bs h H) {b : Addr} (hb : b ∈ bs) : ∃ o, H b = some o := by
  obtain ⟨i, hi⟩ := List.getElem?_of_mem hb
  have hl : i < h.length := by rw [← hr.len]; exact (List.getElem?_eq_some_iff.mp hi).1
  obtain ⟨a, h1, h2⟩ := hr.at_ i h[i] (List.getElem?_eq_getElem hl)
  rw [hi] at h1
  cases h1
  cases ho : h[i] with
  | lst ds => rw [ho] at h2; obtain ⟨vs, q, _⟩ := h2; exact ⟨_, q⟩
  | ins c ds => rw [ho] at h2; obtain ⟨C, dx, fvs, q1, q2, q3, q4⟩ := h2; exact ⟨_, q2⟩
theorem Ext.new {p : Addr} {o : HO} (hp : H p = none) : Ext bs H bs (upd H p o) :=
  ⟨⟨[], by simp, fun _ z => nomatch z⟩, fun b u hu _ => by rw [upd_ne (ne_of_none hu hp)]; exact hu, fun b u hu => ⟨u, by rw [upd_ne (ne_of_none hu hp)]; exact hu⟩⟩
theorem HRel.new (hr : HRel g bs h H) {p : Addr} {o : HO} (hp : H p = none) : HRel g bs h (upd H p o) :=
  HRel.mono hr (.new hp) fun b hb => by
    obtain ⟨u, hu⟩ := hr.some_ hb
    rw [upd_ne (ne_of_none hu hp)]
theorem HRel.out (hr : HRel g bs h H) {p : Addr} (hp : H p = none) : p ∉ bs := fun z => by
  obtain ⟨u, hu⟩ := hr.some_ z
  rw [hp] at hu; cases hu
/-- behind a new tuple -/
theorem post_tup {W : Value → Option Addr → Hp → Prop} {Q : VK} {ds : List D} {vs : List V} (hr : HRel g bs h H) (rs : Reps g bs H ds vs) (p : Post (relV g) g W bs H (.ok (.tup ds) h) Q) : ∀ q, H q = none → Q (.ref q) (upd H q (.tup vs)) := fun q hq => by
  refine p bs _ _ (.new hq) (hr.new hq) (.tup (.inl ⟨hr.out hq, .inl upd_same⟩) (rs.mono (.new hq)))
theorem post_lst {W : Value → Option Addr → Hp → Prop} {Q : VK} {ds : List D} {vs : List V} (hr : HRel g bs h H) (rs : Reps g bs H ds vs) (p : Post (relV g) g W bs H (.ok (.lst ds) h) Q) : ∀ q, H q = none → Q (.ref q) (upd H q (.lst vs)) := fun q hq => by
  refine p bs _ _ (.new hq) (hr.new hq) (.lst (hr.out hq) upd_same (rs.mono (.new hq)))
/-- behind a new list that may be changed -/
theorem Ext.newM {p : Addr} {o : HO} (hp : H p = none) : Ext bs H (bs ++ [p]) (upd H p o) :=
  ⟨⟨[p], rfl, fun b hb => by have e : b = p := by simpa using hb
                             rw [e]; exact hp⟩, fun b u hu _ => by rw [upd_ne (ne_of_none hu hp)]; exact hu, fun b u hu => ⟨u, by rw [upd_ne (ne_of_none hu hp)]; exact hu⟩⟩
theorem HRel.newM (hr : HRel g bs h H) {p : Addr} {ho : HO} {o : O} (hp : H p = none) (ro : RepO g (bs ++ [p]) (upd H p ho) p o) : HRel g (bs ++ [p]) (h ++ [o]) (upd H p ho) := by
  have np := hr.out hp
  refine ⟨by simp [hr.len], ?_, fun i o' hi => ?_⟩
  · rw [List.nodup_append]
    refine ⟨hr.nd, by simp, fun a ha b hb => ?_⟩
    have e : b = p := by simpa using hb
    subst e
    rintro rfl
    exact np ha
  · by_cases hlt : i < h.length
    · rw [List.getElem?_append_left hlt] at hi
      obtain ⟨a, h1, h2⟩ := hr.at_ i o' hi
      have hb := List.mem_of_getElem? h1
      obtain ⟨u, hu⟩ := hr.some_ hb
      exact ⟨a, by rw [List.getElem?_append_left (by rw [hr.len]; exact hlt)]; exact h1, h2.mono (.newM hp) (upd_ne (ne_of_none hu hp))⟩
    · rw [List.getElem?_append_right (by omega)] at hi
      have hi0 : i - h.length = 0 := by
        have := (List.getElem?_eq_some_iff.mp hi).1
        simp at this
        omega
      rw [hi0] at hi
      cases hi
      exact ⟨p, by rw [List.getElem?_append_right (by rw [hr.len]; omega), hr.len, hi0]; rfl, ro⟩
theorem post_lstM {W : Value → Option Addr → Hp → Prop} {Q : VK} {ds : List D} {vs : List V} (hr : HRel g bs h H) (rs : Reps g bs H ds vs) (p : Post (relV g) g W bs H (.ok (.ref h.length) (h ++ [.lst ds])) Q) : ∀ q, H q = none → Q (.ref q) (upd H q (.lst vs)) := fun q hq => by
  refine p (bs ++ [q]) _ _ (.newM hq) (hr.newM hq ⟨vs, upd_same, rs.mono (.newM hq)⟩) (.ref ?_)
  rw [List.getElem?_append_right (by rw [hr.len]; exact Nat.le_refl _), hr.len, Nat.sub_self]; rfl
end
end Ev
set_option Elab.async false
set_option linter.all false
set_option maxRecDepth 100000
set_option maxHeartbeats 4000000
namespace Ev
open PySem L2

/-! ### arithmetic -/
abbrev big : Nat := 16777216
theorem big_eq : sizeLine = big := sizeLine_eq
def addD (x y : D) (h : Hs) : R D := match x, y with
  | .int i, .int j => .ok (.int (i + j)) h
  | .str a, .str b => if a.length + b.length ≤ big then .ok (.str (a ++ b)) h else .bad
  | .tup a, .tup b => if a.length + b.length ≤ big then .ok (.tup (a ++ b)) h else .bad
  | x, y => match ownL h x, ownL h y with
    | some a, some b => if a.length + b.length ≤ big then .ok (.lst (a ++ b)) h else .bad
    | _, _ => .bad
def rAddX (K : PySem.W.Frag) : R2 := fun x y H Q => rI0 (fun i j => V.int (i + j)) x y H Q ∨ (∃ i j, x = .str i ∧ y = .str j ∧ i.length + j.length ≤ sizeLine ∧ Q (.str (i ++ j)) H) ∨ rCatA K x y H Q ∨ rCat x y H Q
theorem opr_add {X : Cx} : OpR X (binaryOp .Add) (rAddX X.K) := op_add.or (op_add_str.or (op_catA.or op_cat))
theorem strOk_append {a b : Str} (ha : PyData.strOk a = true) (hb : PyData.strOk b = true) : PyData.strOk (a ++ b) = true := by
  unfold PyData.strOk at *
  show (a.cps ++ b.cps).all _ = true
  rw [Array.all_append, ha, hb]; rfl
theorem opj_add {g : G} : OpJ g (rAddX g.K) addD := by
  refine ⟨fun W bs h H x y vx vy Q hr rx ry p => ?_⟩
  have lists : ∀ {a b : List D}, ownL h x = some a → ownL h y = some b → a.length + b.length ≤ big → Post (relV g) g W bs H (.ok (.lst (a ++ b)) h) Q → rAddX g.K vx vy H Q := fun {a b} h1 h2 hl p => by
    obtain ⟨p1, v1, rfl, e1, r1⟩ := ownL_ok hr rx h1
    obtain ⟨p2, v2, rfl, e2, r2⟩ := ownL_ok hr ry h2
    exact .inr (.inr (.inr ⟨p1, p2, v1, v2, rfl, rfl, e1, e2, by rw [← r1.length, ← r2.length, big_eq]; exact hl, post_lst hr (r1.append r2) p⟩))
  unfold addD at p
  split at p
  · cases rx; cases ry
    exact .inl ⟨_, _, rfl, rfl, Post.ok_ p hr (.int _)⟩
  · split at p
    · rename_i hl
      cases rx with | str h1 => cases ry with | str h2 => exact .inr (.inl ⟨_, _, rfl, rfl, by rw [big_eq]; exact hl, Post.ok_ p hr (.str (strOk_append h1 h2))⟩)
    · exact p.elim
  · rename_i a b
    split at p
    · rename_i hl
      cases rx with
      | @tup p1 v1 _ t1 r1 =>
        cases ry with
        | @tup p2 v2 _ t2 r2 =>
          refine .inr (.inr (.inl ⟨p1, p2, v1, v2, rfl, rfl, t1.sq, t2.sq, by rw [← r1.length, ← r2.length, big_eq]; exact hl, fun e => ?_, fun e1 e2 => ?_, fun e1 e2 => post_tup hr (r1.append r2) p⟩))
          · subst e
            have e' : a = [] := List.eq_nil_of_length_eq_zero r1.length
            subst e'
            exact Post.ok_ p hr (.tup t2 r2)
          · subst e2
            have e' : b = [] := List.eq_nil_of_length_eq_zero r2.length
            subst e'
            rw [List.append_nil] at p
            exact Post.ok_ p hr (.tup t1 r1)
    · exact p.elim
  · split at p
    · rename_i h1 h2
      split at p
      · rename_i hl
        exact lists h1 h2 hl p
      · exact p.elim
    · exact p.elim
/-- two ints -/
def intD (f : Int → Int → Option D) (x y : D) (h : Hs) : R D := match x, y with
  | .int i, .int j => match f i j with
    | some d => .ok d h
    | none => .bad
  | _, _ => .bad
theorem opj_int {g : G} {C : Int → Int → Prop} {k : Int → Int → V} {f : Int → Int → Option D} (hf : ∀ i j d, f i j = some d → C i j ∧ ∀ bs H, Rep g bs H d (k i j)) : OpJ g (rI C k) (intD f) := by
  refine ⟨fun W bs h H x y vx vy Q hr rx ry p => ?_⟩
  unfold intD at p
  split at p
  · split at p
    · rename_i hd
      cases rx; cases ry
      obtain ⟨c, r⟩ := hf _ _ _ hd
      exact ⟨_, _, rfl, rfl, c, Post.ok_ p hr (r bs H)⟩
    · exact p.elim
  · exact p.elim
theorem opj_int0 {g : G} {k : Int → Int → V} {f : Int → Int → Option D} (hf : ∀ i j d, f i j = some d → ∀ bs H, Rep g bs H d (k i j)) : OpJ g (rI0 k) (intD f) := by
  refine ⟨fun W bs h H x y vx vy Q hr rx ry p => ?_⟩
  unfold intD at p
  split at p
  · split at p
    · rename_i hd
      cases rx; cases ry
      exact ⟨_, _, rfl, rfl, Post.ok_ p hr (hf _ _ _ hd bs H)⟩
    · exact p.elim
  · exact p.elim
def subD : D → D → Hs → R D := intD fun i j => some (.int (i - j))
theorem opj_sub {g : G} : OpJ g (rI0 fun i j => V.int (i - j)) subD := opj_int0 fun i j d e bs H => by cases e; exact .int _
/-- a factor below 2 ^ 64, or both below 2 ^ 400 -/
def smallI (i : Int) : Bool := decide (-(2 ^ 64) < i) && decide (i < 2 ^ 64)
def midI (i : Int) : Bool := decide (i.natAbs < 2 ^ 400)
def mulI (i j : Int) : Option D := if (smallI i || smallI j || (midI i && midI j)) = true then some (.int (i * j)) else none
def repI (i j : Int) : Prop := CMul i j ∨ CMulW i j
def mulD (x y : D) (h : Hs) : R D := match x, y with
  | .int i, .int j => match mulI i j with
    | some d => .ok d h
    | none => .bad
  | x, .int k => match ownL h x with
    | some a => if -(2 ^ 63) ≤ k ∧ k < 2 ^ 63 ∧ a.length * k.toNat ≤ big then .ok (.lst (List.replicate k.toNat a).flatten) h else .bad
    | _ => .bad
  | _, _ => .bad
theorem opr_mulI {X : Cx} : OpR X (binaryOp .Mult) (rI repI fun i j => V.int (i * j)) := by
  intro pins s σ H x y v u Q I rx ry h
  obtain ⟨i, j, e1, e2, c, q⟩ := h
  rcases c with c | c
  · exact op_mul pins s σ H x y v u Q I rx ry ⟨i, j, e1, e2, c, q⟩
  · exact op_mulW pins s σ H x y v u Q I rx ry ⟨i, j, e1, e2, c, q⟩

def rMulX : R2 := fun x y H Q => rI repI (fun i j => V.int (i * j)) x y H Q ∨ rRep x y H Q
theorem opr_mul {X : Cx} : OpR X (binaryOp .Mult) rMulX := opr_mulI.or op_rep
theorem smallI_ok {i : Int} (h : smallI i = true) : -(2 ^ 64) < i ∧ i < 2 ^ 64 := by
  unfold smallI at h
  simp only [Bool.and_eq_true, decide_eq_true_eq] at h
  exact h
theorem midI_ok {i : Int} (h : midI i = true) : i.natAbs < 2 ^ 400 := by
  unfold midI at h
  exact of_decide_eq_true h
theorem mulI_ok {i j : Int} {d : D} (h : mulI i j = some d) : repI i j ∧ d = .int (i * j) := by
  unfold mulI at h
  split at h
  · rename_i hc
    cases h
    refine ⟨?_, rfl⟩
    simp only [Bool.or_eq_true, Bool.and_eq_true] at hc
    rcases hc with (hc | hc) | ⟨h1, h2⟩
    · exact .inl (.inl (smallI_ok hc))
    · exact .inl (.inr (smallI_ok hc))
    · exact .inr (wide_mul (a := 400) (b := 400) (midI_ok h1) (midI_ok h2) (by decide) (by decide) (by decide))
  · cases h
theorem Reps.flatten_replicate {g : G} {bs : List Addr} {H : Hp} {ds : List D} {vs : List V} (r : Reps g bs H ds vs) : ∀ n : Nat, Reps g bs H (List.replicate n ds).flatten (List.replicate n vs).flatten
  | 0 => .nil
  | n + 1 => by
    rw [List.replicate_succ, List.replicate_succ, List.flatten_cons, List.flatten_cons]
    exact r.append (Reps.flatten_replicate r n)
theorem opj_mul {g : G} : OpJ g rMulX mulD := by
  refine ⟨fun W bs h H x y vx vy Q hr rx ry p => ?_⟩
  unfold mulD at p
  split at p
  · split at p
    · rename_i hd
      obtain ⟨c, rfl⟩ := mulI_ok hd
      cases rx; cases ry
      exact .inl ⟨_, _, rfl, rfl, c, Post.ok_ p hr (.int _)⟩
    · exact p.elim
  · split at p
    · rename_i h1
      split at p
      · rename_i hc
        obtain ⟨p1, v1, rfl, e1, r1⟩ := ownL_ok hr rx h1
        cases ry
        exact .inr ⟨p1, _, v1, rfl, rfl, e1, hc.1, hc.2.1, by rw [← r1.length, big_eq]; exact hc.2.2, post_lst hr (r1.flatten_replicate _) p⟩
      · exact p.elim
    · exact p.elim
  · exact p.elim
def rFdiv : R2 := rI CDivW fun i j => V.int (i / j)
def fdivD : D → D → Hs → R D := intD fun i j => if 0 < j ∧ j.natAbs < 2 ^ 400 then some (.int (i / j)) else none
theorem opj_fdiv {g : G} : OpJ g rFdiv fdivD := opj_int fun i j d e => by
  split at e
  · rename_i hc
    cases e
    exact ⟨wide_div hc.1 hc.2 (by decide) (by decide), fun _ _ => .int _⟩
  · cases e
def rMod : R2 := rI (fun _ j => 0 < j) fun i j => V.int (i % j)
def modD : D → D → Hs → R D := intD fun i j => if 0 < j then some (.int (i % j)) else none
theorem opj_mod {g : G} : OpJ g rMod modD := opj_int fun i j d e => by
  split at e
  · rename_i hc
    cases e
    exact ⟨hc, fun _ _ => .int _⟩
  · cases e
def rPow : R2 := rI CPow fun i j => V.int (i ^ j.toNat)
def powD : D → D → Hs → R D := intD fun i j => if 0 ≤ j ∧ j ≤ 1000000 ∧ i.natAbs < 2 ^ 64 then some (.int (i ^ j.toNat)) else none
theorem opj_pow {g : G} : OpJ g rPow powD := opj_int fun i j d e => by
  split at e
  · rename_i hc
    cases e
    exact ⟨hc, fun _ _ => .int _⟩
  · cases e

/-! ### comparisons -/
def ltD : D → D → Hs → R D := intD fun i j => some (.bl (decide (i < j)))
def leD : D → D → Hs → R D := intD fun i j => some (.bl (decide (i ≤ j)))
def gtD : D → D → Hs → R D := intD fun i j => some (.bl (decide (j < i)))
def geD : D → D → Hs → R D := intD fun i j => some (.bl (decide (j ≤ i)))
theorem opj_lt {g : G} : OpJ g (rI0 fun i j => V.bl (decide (i < j))) ltD := opj_int0 fun i j d e bs H => by cases e; exact .bl _
theorem opj_le {g : G} : OpJ g (rI0 fun i j => V.bl (decide (i ≤ j))) leD := opj_int0 fun i j d e bs H => by cases e; exact .bl _
theorem opj_gt {g : G} : OpJ g (rI0 fun i j => V.bl (decide (j < i))) gtD := opj_int0 fun i j d e bs H => by cases e; exact .bl _
theorem opj_ge {g : G} : OpJ g (rI0 fun i j => V.bl (decide (j ≤ i))) geD := opj_int0 fun i j d e bs H => by cases e; exact .bl _
/-- data: no objects, at most so deep -/
def datAll (f : D → Option PyData) : List D → Option (List PyData)
  | [] => some []
  | x :: xs => match f x, datAll f xs with
    | some y, some ys => some (y :: ys)
    | _, _ => none
def dat : Nat → Hs → D → Option PyData
  | 0, _, _ => none
  | k + 1, h, d => match d with
    | .non => some .none
    | .bl b => some (.bool b)
    | .int i => some (.int i)
    | .str s => some (.str s)
    | .tup xs => (datAll (dat k h) xs).map .tuple
    | .lst xs => (datAll (dat k h) xs).map .list
    | .rol xs => (datAll (dat k h) xs).map .list
    | .ref n => match cellL h n with
      | some xs => (datAll (dat k h) xs).map .list
      | none => none
    | .obj _ _ => none
theorem dat_ok {g : G} {bs : List Addr} {h : Hs} {H : Hp} (hr : HRel g bs h H) : ∀ (k : Nat) {d : D} {v : V} {p : PyData}, dat k h d = some p → Rep g bs H d v → Dp g.K H v p ∧ p.canLay0 = true ∧ p.depth ≤ k
  | 0, _, _, _, e, _ => by cases e
  | k + 1, d, v, p, e, r => by
    have all : ∀ {ds : List D} {vs : List V} {ps : List PyData}, datAll (dat k h) ds = some ps → Reps g bs H ds vs → DpAll g.K H vs ps ∧ PyData.canLayAll0 ps = true ∧ PyData.depthAll ps ≤ k := by
      intro ds
      induction ds with
      | nil =>
        intro vs ps e r
        cases e
        cases r
        exact ⟨.nil, rfl, Nat.zero_le _⟩
      | cons x xs ih =>
        intro vs ps e r
        cases r with
        | cons r1 r2 =>
          unfold datAll at e
          split at e
          · rename_i y ys h1 h2
            cases e
            obtain ⟨a1, a2, a3⟩ := dat_ok hr k h1 r1
            obtain ⟨b1, b2, b3⟩ := ih h2 r2
            refine ⟨.cons a1 b1, by show (_ && _) = true; rw [a2, b2]; rfl, ?_⟩
            show max (PyData.depth y) (PyData.depthAll ys) ≤ k
            omega
          · cases e
    have lists : ∀ {ds : List D} {vs : List V} {a : Addr}, SqL g.K H a vs → Reps g bs H ds vs → (datAll (dat k h) ds).map PyData.list = some p → v = .ref a → Dp g.K H v p ∧ p.canLay0 = true ∧ p.depth ≤ k + 1 := by
      intro ds vs a hs r e hv
      cases hd : datAll (dat k h) ds with
      | none => rw [hd] at e; cases e
      | some ps =>
        rw [hd] at e
        cases e
        obtain ⟨a1, a2, a3⟩ := all hd r
        subst hv
        exact ⟨.lst hs a1, a2, Nat.succ_le_succ a3⟩
    cases r with
    | non => cases e; exact ⟨.non, rfl, Nat.zero_le _⟩
    | bl b => cases e; exact ⟨.bl b, rfl, Nat.zero_le _⟩
    | int i => cases e; exact ⟨.int i, rfl, Nat.zero_le _⟩
    | str hs => cases e; exact ⟨.str _, hs, Nat.zero_le _⟩
    | @tup a vs ds t rs =>
      have e' : (datAll (dat k h) ds).map PyData.tuple = some p := e
      cases hd : datAll (dat k h) ds with
      | none => rw [hd] at e'; cases e'
      | some ps =>
        rw [hd] at e'
        cases e'
        obtain ⟨a1, a2, a3⟩ := all hd rs
        exact ⟨.tup t.sq a1, a2, Nat.succ_le_succ a3⟩
    | lst n hl rs => exact lists (.of hl) rs e rfl
    | rol hl rs => exact lists hl.sq rs e rfl
    | obj => cases e
    | @ref n a hb =>
      have e' : (match cellL h n with
        | some xs => (datAll (dat k h) xs).map PyData.list
        | none => none) = some p := e
      cases hc : cellL h n with
      | none => rw [hc] at e'; cases e'
      | some xs =>
        rw [hc] at e'
        obtain ⟨vs, h1, h2⟩ := cell_ok hr hb hc
        exact lists (.of h1) h2 e' rfl
theorem dat_shaped {k : Nat} {p : PyData} (h1 : p.canLay0 = true) (h2 : p.depth ≤ k) (hk : k ≤ 60) : SeqAt.shaped p = true := by
  unfold SeqAt.shaped
  rw [h1, Bool.true_and]
  exact decide_eq_true (by omega)
def eqD (x y : D) (h : Hs) : R D := match dat 20 h x, dat 20 h y with
  | some a, some b => .ok (.bl (PyData.eqv a b)) h
  | _, _ => .bad
def neD (x y : D) (h : Hs) : R D := match dat 20 h x, dat 20 h y with
  | some a, some b => .ok (.bl (!PyData.eqv a b)) h
  | _, _ => .bad
theorem opj_eq {g : G} : OpJ g (rEqD g.K) eqD := by
  refine ⟨fun W bs h H x y vx vy Q hr rx ry p => ?_⟩
  unfold eqD at p
  split at p
  · rename_i h1 h2
    obtain ⟨a1, a2, a3⟩ := dat_ok hr 20 h1 rx
    obtain ⟨b1, b2, b3⟩ := dat_ok hr 20 h2 ry
    exact ⟨_, _, a1, b1, dat_shaped a2 a3 (by decide), dat_shaped b2 b3 (by decide), Post.ok_ p hr (.bl _)⟩
  · exact p.elim
theorem opj_ne {g : G} : OpJ g (rNeD g.K) neD := by
  refine ⟨fun W bs h H x y vx vy Q hr rx ry p => ?_⟩
  unfold neD at p
  split at p
  · rename_i h1 h2
    obtain ⟨a1, a2, a3⟩ := dat_ok hr 20 h1 rx
    obtain ⟨b1, b2, b3⟩ := dat_ok hr 20 h2 ry
    exact ⟨_, _, a1, b1, dat_shaped a2 a3 (by decide), dat_shaped b2 b3 (by decide), Post.ok_ p hr (.bl _)⟩
  · exact p.elim
/-- x is None -/
def isN : D → Bool
  | .non => true
  | _ => false
def isND (x y : D) (h : Hs) : R D := match y with
  | .non => .ok (.bl (isN x)) h
  | _ => .bad
def notND (x y : D) (h : Hs) : R D := match y with
  | .non => .ok (.bl (!isN x)) h
  | _ => .bad
theorem isN_ok {g : G} {bs : List Addr} {H : Hp} {x : D} {v : V} (r : Rep g bs H x v) : decide (v = .non) = isN x := by
  cases r <;> rfl
abbrev rIsN : R2 := fun x y H Q => y = .non ∧ Q (.bl (decide (x = .non))) H
abbrev rNotN : R2 := fun x y H Q => y = .non ∧ Q (.bl (!decide (x = .non))) H
theorem opj_isN {g : G} : OpJ g rIsN isND := by
  refine ⟨fun W bs h H x y vx vy Q hr rx ry p => ?_⟩
  unfold isND at p
  split at p
  · cases ry
    exact ⟨rfl, by rw [isN_ok rx]; exact Post.ok_ p hr (.bl _)⟩
  · exact p.elim
theorem opj_notN {g : G} : OpJ g rNotN notND := by
  refine ⟨fun W bs h H x y vx vy Q hr rx ry p => ?_⟩
  unfold notND at p
  split at p
  · cases ry
    exact ⟨rfl, by rw [isN_ok rx]; exact Post.ok_ p hr (.bl _)⟩
  · exact p.elim
/-- x in a list of data, in a tuple of flat things -/
def flatD : D → Bool
  | .non => true
  | .bl _ => true
  | .int _ => true
  | .str _ => true
  | _ => false
def eqF : D → D → Bool
  | .non, .non => true
  | .bl a, .bl b => a == b
  | .bl a, .int b => (if a then 1 else 0) == b
  | .int a, .bl b => a == (if b then 1 else 0)
  | .int a, .int b => a == b
  | .str a, .str b => a == b
  | _, _ => false
def inB (x y : D) (h : Hs) : Option Bool := match y with
  | .tup ys => if (flatD x && ys.all flatD) = true then some (ys.any fun z => eqF z x) else none
  | y => match rdL h y with
    | some ys => match dat 20 h x, datAll (dat 19 h) ys with
      | some p, some ps => some (ps.any fun z => PyData.eqv z p)
      | _, _ => none
    | none => none
def inD (x y : D) (h : Hs) : R D := match inB x y h with
  | some b => .ok (.bl b) h
  | none => .bad
def notInD (x y : D) (h : Hs) : R D := match inB x y h with
  | some b => .ok (.bl (!b)) h
  | none => .bad
def rInX (K : PySem.W.Frag) : R2 := fun x y H Q => rIn K false x y H Q ∨ rInD K x y H Q
def rNotInX (K : PySem.W.Frag) : R2 := fun x y H Q => rIn K true x y H Q ∨ rNotInD K x y H Q
theorem flat_ok {g : G} {bs : List Addr} {H : Hp} {x : D} {v : V} (r : Rep g bs H x v) (h : flatD x = true) : flatV v = true := by
  cases r <;> first | rfl | cases h
theorem eqF_ok {g : G} {bs : List Addr} {H : Hp} {x y : D} {v u : V} (r : Rep g bs H x v) (q : Rep g bs H y u) (h : flatD x = true) (h2 : flatD y = true) : eqV v u = eqF x y := by
  cases r <;> cases q <;> first | rfl | cases h | cases h2
theorem flats_ok {g : G} {bs : List Addr} {H : Hp} {x : D} {v : V} (rx : Rep g bs H x v) (hx : flatD x = true) : ∀ {ds : List D} {vs : List V}, Reps g bs H ds vs → ds.all flatD = true → vs.all flatV = true ∧ inV v vs = ds.any (fun z => eqF z x)
  | _, _, .nil, _ => ⟨rfl, rfl⟩
  | _, _, .cons r t, h => by
    rw [List.all_cons, Bool.and_eq_true] at h
    obtain ⟨a, b⟩ := flats_ok rx hx t h.2
    unfold inV at b ⊢
    refine ⟨by rw [List.all_cons, flat_ok r h.1, a]; rfl, by rw [List.any_cons, List.any_cons, b, eqF_ok r rx h.1 hx]⟩
theorem in_core {g : G} {bs : List Addr} {h : Hs} {H : Hp} {x y : D} {vx vy : V} {b : Bool} (hr : HRel g bs h H) (rx : Rep g bs H x vx) (ry : Rep g bs H y vy) (e : inB x y h = some b) :
    (∃ p xs, vy = .ref p ∧ (SqL g.K H p xs ∨ SqT g.K H p xs) ∧ flatV vx = true ∧ xs.all flatV = true ∧ inV vx xs = b) ∨
    ∃ d ds, Dp g.K H vx d ∧ Dp g.K H vy (.list ds) ∧ SeqAt.shaped d = true ∧ SeqAt.shaped (.list ds) = true ∧ ds.any (fun z => PyData.eqv z d) = b := by
  unfold inB at e
  split at e
  · split at e
    · rename_i hc
      rw [Bool.and_eq_true] at hc
      cases e
      cases ry with
      | @tup a vs _ t rs =>
        obtain ⟨h1, h2⟩ := flats_ok rx hc.1 rs hc.2
        exact .inl ⟨a, vs, rfl, .inr t.sq, flat_ok rx hc.1, h1, h2⟩
    · cases e
  · split at e
    · rename_i ys hy
      split at e
      · rename_i p ps h1 h2
        cases e
        obtain ⟨a1, a2, a3⟩ := dat_ok hr 20 h1 rx
        have hl : dat 20 h y = some (.list ps) := by
          have hh : (datAll (dat 19 h) ys).map PyData.list = some (.list ps) := by rw [h2]; rfl
          cases y with
          | lst zs => cases hy; exact hh
          | rol zs => cases hy; exact hh
          | ref n =>
            have hy' : cellL h n = some ys := hy
            show (match cellL h n with
              | some xs => (datAll (dat 19 h) xs).map PyData.list
              | none => none) = _
            rw [hy']
            exact hh
          | _ => cases hy
        obtain ⟨b1, b2, b3⟩ := dat_ok hr 20 hl ry
        exact .inr ⟨p, ps, a1, b1, dat_shaped a2 a3 (by decide), dat_shaped b2 b3 (by decide), rfl⟩
      · cases e
    · cases e
theorem opj_in {g : G} : OpJ g (rInX g.K) inD := by
  refine ⟨fun W bs h H x y vx vy Q hr rx ry p => ?_⟩
  unfold inD at p
  split at p
  · rename_i b hb
    have q := Post.ok_ p hr (.bl _)
    rcases in_core hr rx ry hb with ⟨a, xs, e1, e2, e3, e4, e5⟩ | ⟨d, ds, e1, e2, e3, e4, e5⟩
    · exact .inl ⟨a, xs, e1, e2, e3, e4, by rw [if_neg Bool.false_ne_true, e5]; exact q⟩
    · exact .inr ⟨d, ds, e1, e2, e3, e4, by rw [e5]; exact q⟩
  · exact p.elim
theorem opj_notIn {g : G} : OpJ g (rNotInX g.K) notInD := by
  refine ⟨fun W bs h H x y vx vy Q hr rx ry p => ?_⟩
  unfold notInD at p
  split at p
  · rename_i b hb
    have q := Post.ok_ p hr (.bl _)
    rcases in_core hr rx ry hb with ⟨a, xs, e1, e2, e3, e4, e5⟩ | ⟨d, ds, e1, e2, e3, e4, e5⟩
    · exact .inl ⟨a, xs, e1, e2, e3, e4, by rw [if_pos rfl, e5]; exact q⟩
    · exact .inr ⟨d, ds, e1, e2, e3, e4, by rw [e5]; exact q⟩
  · exact p.elim
theorem opr_in {X : Cx} (hu : X.A.units + 65 < cLine) : OpR X (compareOp .In) (rInX X.K) := op_in_seq.or (op_inD hu)
theorem opr_notIn {X : Cx} (hu : X.A.units + 65 < cLine) : OpR X (compareOp .NotIn) (rNotInX X.K) := op_notIn_seq.or (op_notInD hu)
end Ev
set_option Elab.async false
set_option linter.all false
set_option maxRecDepth 100000
set_option maxHeartbeats 4000000
namespace Ev
open PySem L2

/-! ### one-place operations, truth -/
def negD (x : D) (h : Hs) : R D := match x with
  | .int i => .ok (.int (-i)) h
  | _ => .bad
def truD (x : D) (h : Hs) : Option Bool := match x with
  | .non => some false
  | .bl b => some b
  | .int i => some (i != 0)
  | .str s => if s.length ≤ big then some ((s.length : Int) != 0) else none
  | .tup xs => some (!xs.isEmpty)
  | x => match rdL h x with
    | some xs => some (!xs.isEmpty)
    | none => none
def truR (x : D) (h : Hs) : R Bool := match truD x h with
  | some b => .ok b h
  | none => .bad
theorem tru_ok' {g : G} {bs : List Addr} {h : Hs} {H : Hp} {x : D} {v : V} {b : Bool} (hr : HRel g bs h H) (r : Rep g bs H x v) (e : truD x h = some b) : TruV g.K v H b := by
  have emp : ∀ {ds : List D} {vs : List V}, Reps g bs H ds vs → (!ds.isEmpty) = !vs.isEmpty := fun {ds vs} r => by cases r <;> rfl
  have lists : ∀ {xs : List D}, rdL h x = some xs → TruV g.K v H (!xs.isEmpty) := fun {xs} e => by
    obtain ⟨a, vs, rfl, hs, rs⟩ := rdL_ok hr r e
    exact .inl ⟨vs, hs, emp rs⟩
  cases r with
  | non => cases e; exact rfl
  | bl b => cases e; exact rfl
  | int i => cases e; exact rfl
  | str hs =>
    have e' : (if _ then some _ else none) = some b := e
    split at e'
    · rename_i hl
      cases e'
      exact ⟨by rw [big_eq]; exact hl, rfl⟩
    · cases e'
  | tup t rs => cases e; exact .inr (.inl ⟨_, t.sq, emp rs⟩)
  | lst n hl rs => cases e; exact lists rfl
  | rol hl rs => cases e; exact lists rfl
  | obj => cases e
  | @ref n a hb =>
    have e' : (match cellL h n with
      | some xs => some (!xs.isEmpty)
      | none => none) = some b := e
    cases hc : cellL h n with
    | none => rw [hc] at e'; cases e'
    | some xs =>
      rw [hc] at e'
      cases e'
      exact lists hc
section
variable {ci : Nat → String × List String} {X : Cx} {W : WX} {pos : Pos} {a b c : Expr} {ta tb tc : TE} {fa fb fc : En → Hs → R D} {tA tB' : TT} {gA gB : En → Hs → R Bool} {rest : List Expr}
def eUn (op : D → Hs → R D) (fa : En → Hs → R D) : En → Hs → R D := fun env h => (fa env h).bind op
theorem ej_neg (ha : EJ ci X W a ta fa) : EJ ci X W (.UnaryOp .USub a pos) (tUn (rU fun i => .int (-i)) ta) (eUn negD fa) :=
  ⟨pe_un un_neg ha.pe, fun σ H env h bs Q er hr p => ha.sim.step er hr p fun x vx bs1 H1 h1 e1 hr1 er1 rx p1 => by
    unfold negD at p1
    split at p1
    · cases rx; exact ⟨_, rfl, Post.ok_ p1 hr1 (.int _)⟩
    · exact p1.elim⟩
def eTru (fa : En → Hs → R D) : En → Hs → R Bool := fun env h => (fa env h).bind truR
theorem sim_tru (ha : Sim (relV (X.g ci)) (X.g ci) W ta fa) : Sim relB (X.g ci) W (fun σ H Q => ta σ H fun x H' => ∃ k, TruV X.K x H' k ∧ Q k H') (eTru fa) :=
  fun σ H env h bs Q er hr p => ha.step er hr p fun x vx bs1 H1 h1 e1 hr1 er1 rx p1 => by
    unfold truR at p1
    split at p1
    · rename_i b hb
      exact ⟨b, tru_ok' hr1 rx hb, Post.ok_ p1 hr1 rfl⟩
    · exact p1.elim
/-- any expression as a test -/
theorem tj_tru (ha : EJ ci X W a ta fa) (he : ∀ whole, isTrue a X.env whole = (do let v ← whole; standAt a.pos; holding [v] (truthy v)) := by intro _; rfl) : TJ ci X W a (fun σ H Q => ta σ H fun x H' => ∃ k, TruV X.K x H' k ∧ Q k H') (eTru fa) :=
  ⟨pt_truth ha.pe he, sim_tru ha.sim⟩
def eNotB (f : En → Hs → R Bool) : En → Hs → R Bool := fun env h => (f env h).bind fun b h1 => .ok (!b) h1
theorem tj_not (ha : TJ ci X W a tA gA) : TJ ci X W (.UnaryOp .Not a pos) (tNot tA) (eNotB gA) :=
  ⟨pt_not ha.pt, fun σ H env h bs Q er hr p => ha.sim.step er hr p fun x vx bs1 H1 h1 e1 hr1 er1 rx p1 => Post.ok_ p1 hr1 (by rw [show vx = x from rx])⟩
def eAndB (f k : En → Hs → R Bool) : En → Hs → R Bool := fun env h => (f env h).bind fun b h1 => if b = true then k env h1 else .ok false h1
def eOrB (f k : En → Hs → R Bool) : En → Hs → R Bool := fun env h => (f env h).bind fun b h1 => if b = true then .ok true h1 else k env h1
theorem twj_and1 (ha : TJ ci X W a tA gA) : TWJ ci X W (.BoolOp .And [a] pos) tA gA := ⟨pw_and1 ha.pt, ha.sim⟩
theorem twj_or1 (ha : TJ ci X W a tA gA) : TWJ ci X W (.BoolOp .Or [a] pos) tA gA := ⟨pw_or1 ha.pt, ha.sim⟩
theorem twj_and (ha : TJ ci X W a tA gA) (hb : TWJ ci X W (.BoolOp .And (b :: rest) pos) tB' gB) : TWJ ci X W (.BoolOp .And (a :: b :: rest) pos) (tAnd tA tB') (eAndB gA gB) :=
  ⟨pw_and ha.pt hb.pw, fun σ H env h bs Q er hr p => ha.sim.step er hr p fun x vx bs1 H1 h1 e1 hr1 er1 rx p1 => by
    cases (show vx = x from rx)
    cases x with
    | true => rw [if_pos rfl] at p1 ⊢; exact hb.sim _ _ _ _ _ _ er1 hr1 p1
    | false => rw [if_neg Bool.false_ne_true] at p1 ⊢; exact Post.ok_ p1 hr1 rfl⟩
theorem twj_or (ha : TJ ci X W a tA gA) (hb : TWJ ci X W (.BoolOp .Or (b :: rest) pos) tB' gB) : TWJ ci X W (.BoolOp .Or (a :: b :: rest) pos) (tOr tA tB') (eOrB gA gB) :=
  ⟨pw_or ha.pt hb.pw, fun σ H env h bs Q er hr p => ha.sim.step er hr p fun x vx bs1 H1 h1 e1 hr1 er1 rx p1 => by
    cases (show vx = x from rx)
    cases x with
    | true => rw [if_pos rfl] at p1 ⊢; exact Post.ok_ p1 hr1 rfl
    | false => rw [if_neg Bool.false_ne_true] at p1 ⊢; exact hb.sim _ _ _ _ _ _ er1 hr1 p1⟩
theorem tj_w (h : TWJ ci X W a tA gA) : TJ ci X W a tA gA := ⟨h.pw.pt, h.sim⟩
/-- and, or, not as values -/
def eAnd (fa fb : En → Hs → R D) : En → Hs → R D := fun env h => (fa env h).bind fun x h1 => (truR x h1).bind fun b h2 => if b = true then fb env h2 else .ok x h2
def eOr (fa fb : En → Hs → R D) : En → Hs → R D := fun env h => (fa env h).bind fun x h1 => (truR x h1).bind fun b h2 => if b = true then .ok x h2 else fb env h2
def eNot (fa : En → Hs → R D) : En → Hs → R D := fun env h => (fa env h).bind fun x h1 => (truR x h1).bind fun b h2 => .ok (.bl (!b)) h2
theorem ej_one {op} (ha : EJ ci X W a ta fa) : EJ ci X W (.BoolOp op [a] pos) ta fa := ⟨pe_one ha.pe, ha.sim⟩
theorem truR_post {γ δ : Type} {relC : List Addr → Hp → γ → δ → Prop} {g : G} {W : Value → Option Addr → Hp → Prop} {bs : List Addr} {h : Hs} {H : Hp} {x : D} {k : Bool → Hs → R γ} {Q : δ → Hp → Prop} (p : Post relC g W bs H ((truR x h).bind k) Q) : ∃ b, truD x h = some b ∧ Post relC g W bs H (k b h) Q := by
  unfold truR at p
  split at p
  · rename_i b hb
    exact ⟨b, hb, p⟩
  · exact p.elim
theorem ej_and (ha : EJ ci X W a ta fa) (hb : EJ ci X W (.BoolOp .And (b :: rest) pos) tb fb) : EJ ci X W (.BoolOp .And (a :: b :: rest) pos) (tAndT X.K ta tb) (eAnd fa fb) :=
  ⟨pe_andT ha.pe hb.pe, fun σ H env h bs Q er hr p => ha.sim.step er hr p fun x vx bs1 H1 h1 e1 hr1 er1 rx p1 => by
    obtain ⟨b, hb1, p2⟩ := truR_post p1
    refine ⟨b, tru_ok' hr1 rx hb1, ?_⟩
    cases b with
    | true => rw [if_pos rfl] at p2 ⊢; exact hb.sim _ _ _ _ _ _ er1 hr1 p2
    | false => rw [if_neg Bool.false_ne_true] at p2 ⊢; exact Post.ok_ p2 hr1 rx⟩
theorem ej_or (ha : EJ ci X W a ta fa) (hb : EJ ci X W (.BoolOp .Or (b :: rest) pos) tb fb) : EJ ci X W (.BoolOp .Or (a :: b :: rest) pos) (tOrT X.K ta tb) (eOr fa fb) :=
  ⟨pe_orT ha.pe hb.pe, fun σ H env h bs Q er hr p => ha.sim.step er hr p fun x vx bs1 H1 h1 e1 hr1 er1 rx p1 => by
    obtain ⟨b, hb1, p2⟩ := truR_post p1
    refine ⟨b, tru_ok' hr1 rx hb1, ?_⟩
    cases b with
    | true => rw [if_pos rfl] at p2 ⊢; exact Post.ok_ p2 hr1 rx
    | false => rw [if_neg Bool.false_ne_true] at p2 ⊢; exact hb.sim _ _ _ _ _ _ er1 hr1 p2⟩
theorem ej_not (ha : EJ ci X W a ta fa) : EJ ci X W (.UnaryOp .Not a pos) (tNotT X.K ta) (eNot fa) :=
  ⟨pe_notT ha.pe, fun σ H env h bs Q er hr p => ha.sim.step er hr p fun x vx bs1 H1 h1 e1 hr1 er1 rx p1 => by
    obtain ⟨b, hb1, p2⟩ := truR_post p1
    exact ⟨b, tru_ok' hr1 rx hb1, Post.ok_ p2 hr1 (.bl _)⟩⟩
def eIf (c : En → Hs → R Bool) (fa fb : En → Hs → R D) : En → Hs → R D := fun env h => (c env h).bind fun b h1 => if b = true then fa env h1 else fb env h1
theorem ej_if (hc : TJ ci X W c tA gA) (ha : EJ ci X W a ta fa) (hb : EJ ci X W b tb fb) : EJ ci X W (.IfExp c a b pos) (tIf tA ta tb) (eIf gA fa fb) :=
  ⟨pe_ifExp hc.pt ha.pe hb.pe, fun σ H env h bs Q er hr p => hc.sim.step er hr p fun x vx bs1 H1 h1 e1 hr1 er1 rx p1 => by
    cases (show vx = x from rx)
    cases x with
    | true => rw [if_pos rfl] at p1 ⊢; exact ha.sim _ _ _ _ _ _ er1 hr1 p1
    | false => rw [if_neg Bool.false_ne_true] at p1 ⊢; exact hb.sim _ _ _ _ _ _ er1 hr1 p1⟩
/-! ### argument lists, displays -/
def aNil : En → Hs → R (List D) := fun _ h => .ok [] h
def aCons (f : En → Hs → R D) (fr : En → Hs → R (List D)) : En → Hs → R (List D) := fun env h => (f env h).bind fun x h1 => (fr env h1).bind fun xs h2 => .ok (x :: xs) h2
variable {e : Expr} {es : List Expr} {te : TE} {t : TA} {fe : En → Hs → R D} {fr : En → Hs → R (List D)}
theorem aj_nil : AJ ci X W [] tNil aNil := ⟨pa_nil, fun σ H env h bs Q er hr p => Post.ok_ p hr .nil⟩
theorem aj_cons (ha : EJ ci X W e te fe) (hr : AJ ci X W es t fr) (hs : starEach (e :: es) X.env = (false, eval e X.env) :: starEach es X.env := by rfl) : AJ ci X W (e :: es) (tCons te t) (aCons fe fr) :=
  ⟨pa_cons ha.pe hr.pa hs, fun σ H env h bs Q er hr' p => ha.sim.step er hr' p fun x vx bs1 H1 h1 e1 hr1 er1 rx p1 => hr.sim.step er1 hr1 p1 fun xs vs bs2 H2 h2 e2 hr2 er2 rs p2 => Post.ok_ p2 hr2 (.cons (rx.mono e2) rs)⟩
def eTup (f : En → Hs → R (List D)) : En → Hs → R D := fun env h => (f env h).bind fun xs h1 => if xs.length ≤ big then .ok (.tup xs) h1 else .bad
/-- a list that is never changed; one that may be -/
def eLst (f : En → Hs → R (List D)) : En → Hs → R D := fun env h => (f env h).bind fun xs h1 => if xs.length ≤ big then .ok (.lst xs) h1 else .bad
def eLstM (f : En → Hs → R (List D)) : En → Hs → R D := fun env h => (f env h).bind fun xs h1 => if xs.length ≤ big then .ok (.ref h1.length) (h1 ++ [.lst xs]) else .bad
theorem ej_tup {x1} (ha : AJ ci X W es t fr) : EJ ci X W (.Tuple es x1 pos) (tTup t) (eTup fr) :=
  ⟨pe_tup ha.pa, fun σ H env h bs Q er hr p => ha.sim.step er hr p fun xs vs bs1 H1 h1 e1 hr1 er1 rs p1 => by
    split at p1
    · rename_i hl
      exact ⟨by rw [← rs.length, big_eq]; exact hl, post_tup hr1 rs p1⟩
    · exact p1.elim⟩
theorem ej_lst (ha : AJ ci X W es t fr) : EJ ci X W (.List es pos) (tLst t) (eLst fr) :=
  ⟨pe_lst ha.pa, fun σ H env h bs Q er hr p => ha.sim.step er hr p fun xs vs bs1 H1 h1 e1 hr1 er1 rs p1 => by
    split at p1
    · rename_i hl
      exact ⟨by rw [← rs.length, big_eq]; exact hl, post_lst hr1 rs p1⟩
    · exact p1.elim⟩
theorem ej_lstM (ha : AJ ci X W es t fr) : EJ ci X W (.List es pos) (tLst t) (eLstM fr) :=
  ⟨pe_lst ha.pa, fun σ H env h bs Q er hr p => ha.sim.step er hr p fun xs vs bs1 H1 h1 e1 hr1 er1 rs p1 => by
    split at p1
    · rename_i hl
      exact ⟨by rw [← rs.length, big_eq]; exact hl, post_lstM hr1 rs p1⟩
    · exact p1.elim⟩
/-! ### subscripts -/
def ixD (x y : D) (h : Hs) : R D := match y with
  | .int i => match x with
    | .tup xs => match atI xs i with
      | some d => .ok d h
      | none => .bad
    | .str s => if s.length ≤ big then match atI s.cps.toList i with
      | some c => .ok (.str ⟨#[c]⟩) h
      | none => .bad
      else .bad
    | x => match rdL h x with
      | some xs => match atI xs i with
        | some d => .ok d h
        | none => .bad
      | none => .bad
  | _ => .bad
theorem atI_rep {g : G} {bs : List Addr} {H : Hp} {ds : List D} {vs : List V} {i : Int} {d : D} (r : Reps g bs H ds vs) (h : atI ds i = some d) : ∃ v, atI vs i = some v ∧ Rep g bs H d v := by
  unfold atI at h ⊢
  rw [← r.length]
  cases e : ixN ds.length i with
  | none => rw [e] at h; cases h
  | some j =>
    rw [e] at h
    exact r.get h
theorem strOk_at {s : Str} {i : Int} {c : Nat} (hs : PyData.strOk s = true) (h : atI s.cps.toList i = some c) : PyData.strOk (⟨#[c]⟩ : Str) = true := by
  obtain ⟨j, _, h1, _⟩ := atI_get h
  unfold PyData.strOk at hs ⊢
  have hm : c ∈ s.cps := by
    have := List.mem_of_getElem? h1
    simpa using this
  have := Array.all_eq_true'.mp hs c hm
  simpa using this
theorem opj_ix {g : G} : OpJ g (rIx g.K) ixD := by
  refine ⟨fun W bs h H x y vx vy Q hr rx ry p => ?_⟩
  unfold ixD at p
  split at p
  · cases ry
    split at p
    · split at p
      · rename_i hd
        cases rx with
        | @tup a vs ds t rs =>
          obtain ⟨v, h1, h2⟩ := atI_rep rs hd
          exact .inr (.inl ⟨a, vs, _, v, rfl, rfl, t.sq, h1, Post.ok_ p hr h2⟩)
      · exact p.elim
    · split at p
      · rename_i hl
        split at p
        · rename_i c hc
          cases rx with
          | str hs => exact .inr (.inr ⟨_, _, c, rfl, rfl, by rw [big_eq]; exact hl, hc, Post.ok_ p hr (.str (strOk_at hs hc))⟩)
        · exact p.elim
      · exact p.elim
    · split at p
      · rename_i xs hx
        split at p
        · rename_i d hd
          obtain ⟨a, vs, rfl, hs, rs⟩ := rdL_ok hr rx hx
          obtain ⟨v, h1, h2⟩ := atI_rep rs hd
          exact .inl ⟨a, vs, _, v, rfl, rfl, hs, h1, Post.ok_ p hr h2⟩
        · exact p.elim
      · exact p.elim
  · exact p.elim
theorem ej_ix (ha : EJ ci X W a ta fa) (hb : EJ ci X W b tb fb) (hs : PlainIx b := by exact fun _ _ => rfl) : EJ ci X W (.Subscript a b pos) (tOp (rIx X.K) ta tb) (eBin ixD fa fb) :=
  ⟨pe_ix ix_seq ha.pe hb.pe hs, sim_bin opj_ix ha.sim hb.sim⟩
end
/-! ### slices -/
abbrev relO : List Addr → Hp → Option Int → Option Int → Prop := fun _ _ a b => b = a
structure OJ (ci : Nat → String × List String) (X : Cx) (W : WX) (o : Option Expr) (t : TO) (f : En → Hs → R (Option Int)) : Prop where
  po : PO X o t
  sim : Sim relO (X.g ci) W t f
def oNo : En → Hs → R (Option Int) := fun _ h => .ok none h
def oSome (f : En → Hs → R D) : En → Hs → R (Option Int) := fun env h => (f env h).bind fun x h1 => match x with
  | .int i => .ok (some i) h1
  | _ => .bad
def cutD (xs : List D) (lo hi : Option Int) : List D := (xs.drop (HT.sIx xs.length 0 lo)).take (HT.sIx xs.length xs.length hi - HT.sIx xs.length 0 lo)
theorem Reps.cut {g : G} {bs : List Addr} {H : Hp} {ds : List D} {vs : List V} (r : Reps g bs H ds vs) (lo hi : Option Int) : Reps g bs H (cutD ds lo hi) (cutV vs lo hi) := by
  unfold cutD cutV
  rw [← r.length]
  exact (r.drop _).take _
def slD (x : D) (lo hi : Option Int) (h : Hs) : R D := match x with
  | .tup xs => .ok (.tup (cutD xs lo hi)) h
  | x => match rdL h x with
    | some xs => .ok (.lst (cutD xs lo hi)) h
    | none => .bad
def slDM (x : D) (lo hi : Option Int) (h : Hs) : R D := match rdL h x with
    | some xs => .ok (.ref h.length) (h ++ [.lst (cutD xs lo hi)])
    | none => .bad
def rSlX' (K : PySem.W.Frag) : V → Option Int → Option Int → Hp → VK → Prop := fun x lo hi H Q => rSlL K x lo hi H Q ∨ rSlA K x lo hi H Q
theorem slr_x {X : Cx} : SlR X (rSlX' X.K) := sl_list.or sl_tupA
def eSl (op : D → Option Int → Option Int → Hs → R D) (fa : En → Hs → R D) (fl fh : En → Hs → R (Option Int)) : En → Hs → R D := fun env h => (fa env h).bind fun x h1 => (fl env h1).bind fun lo h2 => (fh env h2).bind fun hi h3 => op x lo hi h3
theorem cut_all {ds : List D} {lo hi : Option Int} (h : HT.sIx ds.length 0 lo = 0 ∧ HT.sIx ds.length ds.length hi = ds.length) : cutD ds lo hi = ds := by
  unfold cutD
  rw [h.1, h.2]
  simp
section
variable {ci : Nat → String × List String} {X : Cx} {W : WX} {pos p2 : Pos} {a e : Expr} {lo hi : Option Expr} {ta te : TE} {fa fe : En → Hs → R D} {tl th : TO} {fl fh : En → Hs → R (Option Int)}
theorem oj_no : OJ ci X W none tNoPart oNo := ⟨po_none, fun σ H env h bs Q er hr p => Post.ok_ p hr rfl⟩
theorem oj_some (he : EJ ci X W e te fe) : OJ ci X W (some e) (tPart te) (oSome fe) :=
  ⟨po_some he.pe, fun σ H env h bs Q er hr p => he.sim.step er hr p fun x vx bs1 H1 h1 e1 hr1 er1 rx p1 => by
    split at p1
    · cases rx; exact ⟨_, rfl, Post.ok_ p1 hr1 rfl⟩
    · exact p1.elim⟩
theorem ej_sl (ha : EJ ci X W a ta fa) (hl : OJ ci X W lo tl fl) (hh : OJ ci X W hi th fh) : EJ ci X W (.Subscript a (.Slice lo hi none p2) pos) (tSl (rSlX' X.K) ta tl th) (eSl slD fa fl fh) :=
  ⟨pe_slice slr_x ha.pe hl.po hh.po, fun σ H env h bs Q er hr p => ha.sim.step er hr p fun x vx bs1 H1 h1 e1 hr1 er1 rx p1 => hl.sim.step er1 hr1 p1 fun l l' bs2 H2 h2 e2 hr2 er2 rl p2 => hh.sim.step er2 hr2 p2 fun u u' bs3 H3 h3 e3 hr3 er3 ru p3 => by
    obtain rfl : l' = l := rl
    obtain rfl : u' = u := ru
    have rx3 := (rx.mono e2).mono e3
    unfold slD at p3
    split at p3
    · cases rx3 with
      | @tup a vs ds t rs =>
        refine .inr ⟨a, vs, rfl, t.sq, fun hw => ?_, fun _ => post_tup hr3 (rs.cut _ _) p3⟩
        rw [← rs.length] at hw
        rw [cut_all hw] at p3
        exact Post.ok_ p3 hr3 (.tup t rs)
    · split at p3
      · rename_i xs hx
        obtain ⟨a, vs, rfl, hs, rs⟩ := rdL_ok hr3 rx3 hx
        exact .inl ⟨a, vs, rfl, hs, post_lst hr3 (rs.cut _ _) p3⟩
      · exact p3.elim⟩
theorem ej_slM (ha : EJ ci X W a ta fa) (hl : OJ ci X W lo tl fl) (hh : OJ ci X W hi th fh) : EJ ci X W (.Subscript a (.Slice lo hi none p2) pos) (tSl (rSlL X.K) ta tl th) (eSl slDM fa fl fh) :=
  ⟨pe_slice sl_list ha.pe hl.po hh.po, fun σ H env h bs Q er hr p => ha.sim.step er hr p fun x vx bs1 H1 h1 e1 hr1 er1 rx p1 => hl.sim.step er1 hr1 p1 fun l l' bs2 H2 h2 e2 hr2 er2 rl p2 => hh.sim.step er2 hr2 p2 fun u u' bs3 H3 h3 e3 hr3 er3 ru p3 => by
    obtain rfl : l' = l := rl
    obtain rfl : u' = u := ru
    have rx3 := (rx.mono e2).mono e3
    unfold slDM at p3
    split at p3
    · rename_i xs hx
      obtain ⟨a, vs, rfl, hs, rs⟩ := rdL_ok hr3 rx3 hx
      exact ⟨a, vs, rfl, hs, post_lstM hr3 (rs.cut _ _) p3⟩
    · exact p3.elim⟩
end
/-! ### calls of built-ins -/
structure CaJ (g : G) (r : List V → Hp → VK → Prop) (f : List D → Hs → R D) : Prop where
  run : ∀ (W : Value → Option Addr → Hp → Prop) (bs : List Addr) (h : Hs) (H : Hp) (xs : List D) (vs : List V) (Q : VK), HRel g bs h H → Reps g bs H xs vs → Post (relV g) g W bs H (f xs h) Q → r vs H Q
def eCall (f : List D → Hs → R D) (fa : En → Hs → R (List D)) : En → Hs → R D := fun env h => (fa env h).bind f
section
variable {ci : Nat → String × List String} {X : Cx} {W : WX} {x : Str} {p pos : Pos} {e : Expr} {es : List Expr} {t : TA} {id T : String} {r : List V → Hp → VK → Prop} {f : List D → Hs → R D} {fa : En → Hs → R (List D)}
theorem sim_cb {g : G} (hj : CaJ g r f) (ha : Sim (relVs g) g W t fa) : Sim (relV g) g W (tCB r t) (eCall f fa) :=
  fun σ H env h bs Q er hr p => ha.step er hr p fun xs vs bs1 H1 h1 e1 hr1 er1 rs p1 => hj.run _ bs1 h1 H1 xs vs Q hr1 rs p1
theorem ej_callB (hc : CallR X (.builtin id) r) (hj : CaJ (X.g ci) r f) (hg : Gl X x) (hm : X.mg x = none) (hv : bootBuiltins x = some (.builtin id)) (ha : AJ ci X W (e :: es) t fa) (hn : x ≠ "__name__" := by decide) (hdb : (x == ("__debug__" : Str)) = false := by decide)
    (he : starEach (e :: es) X.env = (false, eval e X.env) :: starEach es X.env := by rfl) (hpl : (backTo pos (starEach es X.env)).any (·.1) = false := by rfl) : EJ ci X W (.Call (.Name x p) (e :: es) [] pos) (tCB r t) (eCall f fa) :=
  ⟨pe_callB hc hg hm hv ha.pa hn hdb he hpl, sim_cb hj ha.sim⟩
theorem ej_callTy (hc : CallR X (.type T) r) (hj : CaJ (X.g ci) r f) (hg : Gl X x) (hm : X.mg x = none) (hv : bootBuiltins x = some (.type T)) (ha : AJ ci X W (e :: es) t fa) (hn : x ≠ "__name__" := by decide) (hdb : (x == ("__debug__" : Str)) = false := by decide)
    (he : starEach (e :: es) X.env = (false, eval e X.env) :: starEach es X.env := by rfl) (hpl : (backTo pos (starEach es X.env)).any (·.1) = false := by rfl) : EJ ci X W (.Call (.Name x p) (e :: es) [] pos) (tCB r t) (eCall f fa) :=
  ⟨pe_callTy hc hg hm hv ha.pa hn hdb he hpl, sim_cb hj ha.sim⟩
end
def lenD (xs : List D) (h : Hs) : R D := match xs with
  | [.str s] => if s.length ≤ big then .ok (.int s.length) h else .bad
  | [.tup ys] => .ok (.int ys.length) h
  | [x] => match rdL h x with
    | some ys => .ok (.int ys.length) h
    | none => .bad
  | _ => .bad
abbrev rLenX (K : PySem.W.Frag) : List V → Hp → VK → Prop := fun xs H Q => ∃ x n, xs = [x] ∧ LenV K x H n ∧ Q (.int n) H
theorem caj_len {g : G} : CaJ g (rLenX g.K) lenD := by
  refine ⟨fun W bs h H xs vs Q hr rs p => ?_⟩
  unfold lenD at p
  split at p
  · split at p
    · rename_i hl
      cases rs with | cons r t => cases t; cases r; exact ⟨_, _, rfl, ⟨by rw [big_eq]; exact hl, rfl⟩, Post.ok_ p hr (.int _)⟩
    · exact p.elim
  · cases rs with | cons r t => cases t; cases r with | tup t rs => exact ⟨_, _, rfl, .inr ⟨_, t.sq, rfl⟩, by rw [← rs.length]; exact Post.ok_ p hr (.int _)⟩
  · split at p
    · rename_i ys hy
      cases rs with
      | cons r t =>
        cases t
        obtain ⟨a, vs, rfl, hs, rs⟩ := rdL_ok hr r hy
        exact ⟨_, _, rfl, .inl ⟨_, hs, rfl⟩, by rw [← rs.length]; exact Post.ok_ p hr (.int _)⟩
    · exact p.elim
  · exact p.elim
def absD (xs : List D) (h : Hs) : R D := match xs with
  | [.int i] => .ok (.int (if i < 0 then -i else i)) h
  | _ => .bad
theorem caj_abs {g : G} : CaJ g (fun xs H Q => ∃ i, xs = [.int i] ∧ Q (.int (if i < 0 then -i else i)) H) absD := by
  refine ⟨fun W bs h H xs vs Q hr rs p => ?_⟩
  unfold absD at p
  split at p
  · cases rs with | cons r t => cases t; cases r; exact ⟨_, rfl, Post.ok_ p hr (.int _)⟩
  · exact p.elim
def maxD (xs : List D) (h : Hs) : R D := match xs with
  | [.int i, .int j] => .ok (.int (if j > i then j else i)) h
  | _ => .bad
def minD (xs : List D) (h : Hs) : R D := match xs with
  | [.int i, .int j] => .ok (.int (if j < i then j else i)) h
  | _ => .bad
theorem caj_max {g : G} : CaJ g (fun xs H Q => ∃ i j, xs = [.int i, .int j] ∧ Q (.int (if j > i then j else i)) H) maxD := by
  refine ⟨fun W bs h H xs vs Q hr rs p => ?_⟩
  unfold maxD at p
  split at p
  · cases rs with | cons r t => cases t with | cons r2 t => cases t; cases r; cases r2; exact ⟨_, _, rfl, Post.ok_ p hr (.int _)⟩
  · exact p.elim
theorem caj_min {g : G} : CaJ g (fun xs H Q => ∃ i j, xs = [.int i, .int j] ∧ Q (.int (if j < i then j else i)) H) minD := by
  refine ⟨fun W bs h H xs vs Q hr rs p => ?_⟩
  unfold minD at p
  split at p
  · cases rs with | cons r t => cases t with | cons r2 t => cases t; cases r; cases r2; exact ⟨_, _, rfl, Post.ok_ p hr (.int _)⟩
  · exact p.elim
def intTD (xs : List D) (h : Hs) : R D := match xs with
  | [.int i] => .ok (.int i) h
  | [.bl b] => .ok (.int (if b = true then 1 else 0)) h
  | _ => .bad
theorem caj_int {g : G} : CaJ g (fun xs H Q => (∃ i, xs = [.int i] ∧ Q (.int i) H) ∨ ∃ k, xs = [.bl k] ∧ Q (.int (if k then 1 else 0)) H) intTD := by
  refine ⟨fun W bs h H xs vs Q hr rs p => ?_⟩
  unfold intTD at p
  split at p
  · cases rs with | cons r t => cases t; cases r; exact .inl ⟨_, rfl, Post.ok_ p hr (.int _)⟩
  · cases rs with | cons r t => cases t; cases r; exact .inr ⟨_, rfl, Post.ok_ p hr (.int _)⟩
  · exact p.elim
def boolTD (xs : List D) (h : Hs) : R D := match xs with
  | [.int i] => .ok (.bl (i != 0)) h
  | [.bl b] => .ok (.bl b) h
  | _ => .bad
theorem caj_bool {g : G} : CaJ g (fun xs H Q => (∃ i, xs = [.int i] ∧ Q (.bl (i != 0)) H) ∨ ∃ k, xs = [.bl k] ∧ Q (.bl k) H) boolTD := by
  refine ⟨fun W bs h H xs vs Q hr rs p => ?_⟩
  unfold boolTD at p
  split at p
  · cases rs with | cons r t => cases t; cases r; exact .inl ⟨_, rfl, Post.ok_ p hr (.bl _)⟩
  · cases rs with | cons r t => cases t; cases r; exact .inr ⟨_, rfl, Post.ok_ p hr (.bl _)⟩
  · exact p.elim
/-- list(x): never changed; may be changed. tuple(x) -/
def seqOf (h : Hs) : D → Option (List D)
  | .tup xs => some xs
  | x => rdL h x
theorem seqOf_ok {g : G} {bs : List Addr} {h : Hs} {H : Hp} {d : D} {v : V} {xs : List D} (hr : HRel g bs h H) (r : Rep g bs H d v) (e : seqOf h d = some xs) : ∃ a vs, v = .ref a ∧ (SqL g.K H a vs ∨ SqT g.K H a vs) ∧ Reps g bs H xs vs := by
  have lists : rdL h d = some xs → ∃ a vs, v = .ref a ∧ (SqL g.K H a vs ∨ SqT g.K H a vs) ∧ Reps g bs H xs vs := fun e => by
    obtain ⟨a, vs, h1, h2, h3⟩ := rdL_ok hr r e
    exact ⟨a, vs, h1, .inl h2, h3⟩
  cases r with
  | tup t rs => cases e; exact ⟨_, _, rfl, .inr t.sq, rs⟩
  | _ => exact lists e
def listTD (xs : List D) (h : Hs) : R D := match xs with
  | [x] => match seqOf h x with
    | some ys => .ok (.lst ys) h
    | none => .bad
  | _ => .bad
def listTDM (xs : List D) (h : Hs) : R D := match xs with
  | [x] => match seqOf h x with
    | some ys => .ok (.ref h.length) (h ++ [.lst ys])
    | none => .bad
  | _ => .bad
abbrev rListOf (K : PySem.W.Frag) : List V → Hp → VK → Prop := fun xs H Q => ∃ p ys, xs = [.ref p] ∧ (SqL K H p ys ∨ SqT K H p ys) ∧ ∀ l, H l = none → Q (.ref l) (upd H l (.lst ys))
theorem caj_list {g : G} : CaJ g (rListOf g.K) listTD := by
  refine ⟨fun W bs h H xs vs Q hr rs p => ?_⟩
  unfold listTD at p
  split at p
  · split at p
    · rename_i ys hy
      cases rs with
      | cons r t =>
        cases t
        obtain ⟨a, vs, rfl, hs, rs⟩ := seqOf_ok hr r hy
        exact ⟨a, vs, rfl, hs, post_lst hr rs p⟩
    · exact p.elim
  · exact p.elim
theorem caj_listM {g : G} : CaJ g (rListOf g.K) listTDM := by
  refine ⟨fun W bs h H xs vs Q hr rs p => ?_⟩
  unfold listTDM at p
  split at p
  · split at p
    · rename_i ys hy
      cases rs with
      | cons r t =>
        cases t
        obtain ⟨a, vs, rfl, hs, rs⟩ := seqOf_ok hr r hy
        exact ⟨a, vs, rfl, hs, post_lstM hr rs p⟩
    · exact p.elim
  · exact p.elim
def tupTD (xs : List D) (h : Hs) : R D := match xs with
  | [.tup ys] => .ok (.tup ys) h
  | [x] => match rdL h x with
    | some ys => .ok (.tup ys) h
    | none => .bad
  | _ => .bad
abbrev rTupOf (K : PySem.W.Frag) : List V → Hp → VK → Prop := fun xs H Q => ∃ p ys, xs = [.ref p] ∧ ((SqL K H p ys ∧ ∀ l, H l = none → Q (.ref l) (upd H l (.tup ys))) ∨ (SqT K H p ys ∧ Q (.ref p) H))
theorem caj_tuple {g : G} : CaJ g (rTupOf g.K) tupTD := by
  refine ⟨fun W bs h H xs vs Q hr rs p => ?_⟩
  unfold tupTD at p
  split at p
  · cases rs with | cons r t => cases t; cases r with | tup t rs => exact ⟨_, _, rfl, .inr ⟨t.sq, Post.ok_ p hr (.tup t rs)⟩⟩
  · split at p
    · rename_i ys hy
      cases rs with
      | cons r t =>
        cases t
        obtain ⟨a, vs, rfl, hs, rs⟩ := rdL_ok hr r hy
        exact ⟨a, vs, rfl, .inl ⟨hs, post_tup hr rs p⟩⟩
    · exact p.elim
  · exact p.elim
def divmodD (xs : List D) (h : Hs) : R D := match xs with
  | [.int i, .int j] => if 0 < j ∧ j.natAbs < 2 ^ 400 then .ok (.tup [.int (i / j), .int (i % j)]) h else .bad
  | _ => .bad
abbrev rDivmod : List V → Hp → VK → Prop := fun xs H Q => ∃ i j, xs = [.int i, .int j] ∧ CDivP i j ∧ ∀ p, H p = none → Q (.ref p) (upd H p (.tup [.int (i / j), .int (i % j)]))
theorem caj_divmod {g : G} : CaJ g rDivmod divmodD := by
  refine ⟨fun W bs h H xs vs Q hr rs p => ?_⟩
  unfold divmodD at p
  split at p
  · split at p
    · rename_i hc
      cases rs with
      | cons r t =>
        cases t with
        | cons r2 t =>
          cases t; cases r; cases r2
          exact ⟨_, _, rfl, ⟨hc.1, PyProof.noPylong_of_log2 (wide_div (i := 0) hc.1 hc.2 (by decide) (by decide)).2⟩, post_tup hr (.cons (.int _) (.cons (.int _) .nil)) p⟩
    · exact p.elim
  · exact p.elim
end Ev
set_option Elab.async false
set_option linter.all false
set_option maxRecDepth 100000
set_option maxHeartbeats 4000000
namespace Ev
open PySem L2

/-! ### statements -/
inductive S where
  | nx (env : En) (h : Hs) | ret (d : D) (h : Hs) | brk (env : En) (h : Hs) | ct (env : En) (h : Hs) | err (c : Nat) (fs : List D) (env : En) (h : Hs) | bad
def R.toS {α : Type} (r : R α) (env : En) (k : α → Hs → S) : S := match r with
  | .ok a h => k a h
  | .err c fs h => .err c fs env h
  | .bad => .bad
@[simp] theorem R.toS_ok {α : Type} (a : α) (h : Hs) (env : En) (k : α → Hs → S) : (R.ok a h).toS env k = k a h := rfl
@[simp] theorem R.toS_err {α : Type} (c : Nat) (fs : List D) (h : Hs) (env : En) (k : α → Hs → S) : (R.err c fs h : R α).toS env k = .err c fs env h := rfl
@[simp] theorem R.toS_bad {α : Type} (env : En) (k : α → Hs → S) : (R.bad : R α).toS env k = .bad := rfl
def PostS (g : G) (W : WX) (bs : List Addr) (H : Hp) (r : S) (E : Ends) : Prop := match r with
  | .nx env h => ∀ bs' H' σ', Ext bs H bs' H' → HRel g bs' h H' → ERel g bs' H' env σ' → E.nx σ' H'
  | .ret d h => ∀ bs' H' v, Ext bs H bs' H' → HRel g bs' h H' → Rep g bs' H' d v → E.rt v H'
  | .brk env h => ∀ bs' H' σ', Ext bs H bs' H' → HRel g bs' h H' → ERel g bs' H' env σ' → E.bk σ' H'
  | .ct env h => ∀ bs' H' σ', Ext bs H bs' H' → HRel g bs' h H' → ERel g bs' H' env σ' → E.ct σ' H'
  | .err c fs env h => ∀ C dd bs' H' σ', Ext bs H bs' H' → HRel g bs' h H' → ERel g bs' H' env σ' → ErrAt g bs' H' c fs C dd → W C dd σ' H'
  | .bad => False
theorem PostS.mono {g : G} {W : WX} {bs bs1 : List Addr} {H H1 : Hp} {r : S} {E : Ends} (e : Ext bs H bs1 H1) (h : PostS g W bs H r E) : PostS g W bs1 H1 r E := by
  cases r with
  | nx env h' => exact fun bs' H' σ' x y z => h bs' H' σ' (e.trans x) y z
  | ret d h' => exact fun bs' H' σ' x y z => h bs' H' σ' (e.trans x) y z
  | brk env h' => exact fun bs' H' σ' x y z => h bs' H' σ' (e.trans x) y z
  | ct env h' => exact fun bs' H' σ' x y z => h bs' H' σ' (e.trans x) y z
  | err c fs env h' => exact fun C dd bs' H' σ' x y z => h C dd bs' H' σ' (e.trans x) y z
  | bad => exact h
def SimS (g : G) (W : WX) (t : TS) (f : En → Hs → S) : Prop :=
  ∀ (σ : St) (H : Hp) (env : En) (h : Hs) (bs : List Addr) (E : Ends), ERel g bs H env σ → HRel g bs h H → PostS g W bs H (f env h) E → t E σ H
structure SJ (ci : Nat → String × List String) (X : Cx) (W : WX) (st : Stmt) (t : TS) (f : En → Hs → S) : Prop where
  ps : PS X st t
  sim : SimS (X.g ci) W t f
structure SsJ (ci : Nat → String × List String) (X : Cx) (W : WX) (st : List Stmt) (t : TS) (f : En → Hs → S) : Prop where
  pss : PSs X st t
  sim : SimS (X.g ci) W t f
/-- an expression ahead in a statement -/
theorem Sim.stepS {α β : Type} {rel : List Addr → Hp → α → β → Prop} {g : G} {W : WX} {t : St → Hp → (β → Hp → Prop) → Prop} {f : En → Hs → R α} {σ : St} {H : Hp} {env : En} {h : Hs} {bs : List Addr} {k : α → Hs → S} {E : Ends} {Q' : β → Hp → Prop}
    (ht : Sim rel g W t f) (er : ERel g bs H env σ) (hr : HRel g bs h H) (p : PostS g W bs H ((f env h).toS env k) E)
    (hk : ∀ a b bs1 H1 h1, Ext bs H bs1 H1 → HRel g bs1 h1 H1 → ERel g bs1 H1 env σ → rel bs1 H1 a b → PostS g W bs1 H1 (k a h1) E → Q' b H1) : t σ H Q' := by
  refine ht σ H env h bs Q' er hr ?_
  cases hf : f env h with
  | bad => rw [hf] at p; exact p
  | err c fs h' => rw [hf] at p; exact fun C dd bs' H' e r z => p C dd bs' H' σ e r (er.mono e) z
  | ok a h1 => rw [hf] at p; exact fun bs1 H1 b e hr1 ra => hk a b bs1 H1 h1 e hr1 (er.mono e) ra (PostS.mono e p)
def sNil : En → Hs → S := fun env h => .nx env h
def S.seq (r : S) (k : En → Hs → S) : S := match r with
  | .nx env h => k env h
  | r => r
@[simp] theorem S.seq_nx (env : En) (h : Hs) (k : En → Hs → S) : (S.nx env h).seq k = k env h := rfl
@[simp] theorem S.seq_ret (d : D) (h : Hs) (k : En → Hs → S) : (S.ret d h).seq k = .ret d h := rfl
@[simp] theorem S.seq_brk (env : En) (h : Hs) (k : En → Hs → S) : (S.brk env h).seq k = .brk env h := rfl
@[simp] theorem S.seq_ct (env : En) (h : Hs) (k : En → Hs → S) : (S.ct env h).seq k = .ct env h := rfl
@[simp] theorem S.seq_err (c : Nat) (fs : List D) (env : En) (h : Hs) (k : En → Hs → S) : (S.err c fs env h).seq k = .err c fs env h := rfl
@[simp] theorem S.seq_bad (k : En → Hs → S) : S.bad.seq k = .bad := rfl
def sCons (f k : En → Hs → S) : En → Hs → S := fun env h => (f env h).seq k
section
variable {ci : Nat → String × List String} {X : Cx} {W : WX} {pos : Pos} {st : Stmt} {rest sa sb : List Stmt} {t u : TS} {f k : En → Hs → S} {e c : Expr} {te : TE} {fe : En → Hs → R D} {tc : TT} {fc : En → Hs → R Bool}
theorem ssj_nil : SsJ ci X W [] tNext sNil := ⟨pss_nil, fun σ H env h bs E er hr p => p bs H σ .refl hr er⟩
theorem sim_seq {g : G} (hf : SimS g W t f) (hk : SimS g W u k) : SimS g W (tSeq t u) (sCons f k) := by
  intro σ H env h bs E er hr p
  refine hf σ H env h bs _ er hr ?_
  have p' : PostS g W bs H ((f env h).seq k) E := p
  cases hfe : f env h with
  | nx env1 h1 =>
    rw [hfe] at p'
    exact fun bs' H' σ' e hr1 er1 => hk σ' H' env1 h1 bs' E er1 hr1 (PostS.mono e p')
  | ret d h1 => rw [hfe] at p'; exact p'
  | brk env1 h1 => rw [hfe] at p'; exact p'
  | ct env1 h1 => rw [hfe] at p'; exact p'
  | err c fs env1 h1 => rw [hfe] at p'; exact p'
  | bad => rw [hfe] at p'; exact p'
theorem ssj_cons (h1 : SJ ci X W st t f) (h2 : SsJ ci X W rest u k) : SsJ ci X W (st :: rest) (tSeq t u) (sCons f k) := ⟨pss_cons h1.ps h2.pss, sim_seq h1.sim h2.sim⟩
theorem ssj_one (h1 : SJ ci X W st t f) : SsJ ci X W [st] t f := ⟨pss_one h1.ps, h1.sim⟩
theorem sj_pass : SJ ci X W (.Pass pos) tNext sNil := ⟨ps_pass, fun σ H env h bs E er hr p => p bs H σ .refl hr er⟩
def sBrk : En → Hs → S := fun env h => .brk env h
def sCt : En → Hs → S := fun env h => .ct env h
theorem sj_break : SJ ci X W (.Break pos) tBreak sBrk := ⟨ps_break, fun σ H env h bs E er hr p => p bs H σ .refl hr er⟩
theorem sj_continue : SJ ci X W (.Continue pos) tCont sCt := ⟨ps_continue, fun σ H env h bs E er hr p => p bs H σ .refl hr er⟩
def sExpr (f : En → Hs → R D) : En → Hs → S := fun env h => (f env h).toS env fun _ h1 => .nx env h1
theorem sj_expr (he : EJ ci X W e te fe) (hs : swapsWith e none pos.line X.env = pure false := by rfl) : SJ ci X W (.Expr e pos) (tDrop te) (sExpr fe) :=
  ⟨ps_expr he.pe hs, fun σ H env h bs E er hr p => he.sim.stepS er hr p fun a b bs1 H1 h1 e1 hr1 er1 ra p1 => p1 bs1 H1 σ .refl hr1 er1⟩
def sRet (f : En → Hs → R D) : En → Hs → S := fun env h => (f env h).toS env fun d h1 => .ret d h1
theorem sj_ret (he : EJ ci X W e te fe) : SJ ci X W (.Return (some e) pos) (tRet te) (sRet fe) :=
  ⟨ps_ret he.pe, fun σ H env h bs E er hr p => he.sim.stepS er hr p fun a b bs1 H1 h1 e1 hr1 er1 ra p1 => p1 bs1 H1 b .refl hr1 ra⟩
def sRetN : En → Hs → S := fun _ h => .ret .non h
theorem sj_retN : SJ ci X W (.Return none pos) tRetN sRetN := ⟨ps_retN, fun σ H env h bs E er hr p => p bs H .non .refl hr .non⟩
def sIf (c : En → Hs → R Bool) (f k : En → Hs → S) : En → Hs → S := fun env h => (c env h).toS env fun b h1 => if b = true then f env h1 else k env h1
theorem sj_if (hc : TJ ci X W c tc fc) (ha : SsJ ci X W sa t f) (hb : SsJ ci X W sb u k) : SJ ci X W (.If c sa sb pos) (tIfS tc t u) (sIf fc f k) :=
  ⟨ps_if hc.pt ha.pss hb.pss, fun σ H env h bs E er hr p => hc.sim.stepS er hr p fun x vx bs1 H1 h1 e1 hr1 er1 rx p1 => by
    cases (show vx = x from rx)
    cases x with
    | true => rw [if_pos rfl] at p1 ⊢; exact ha.sim _ _ _ _ _ _ er1 hr1 p1
    | false => rw [if_neg Bool.false_ne_true] at p1 ⊢; exact hb.sim _ _ _ _ _ _ er1 hr1 p1⟩
end
/-! ### targets -/
def SimG (g : G) (t : TG) (f : D → En → Option En) (js : List Nat) : Prop :=
  ∀ (v : V) (d : D) (σ : St) (H : Hp) (env env' : En) (h : Hs) (bs : List Addr) (Q : St → Hp → Prop), Rep g bs H d v → ERel g bs H env σ → HRel g bs h H → f d env = some env' →
    (∀ σ', ERel g bs H env' σ' → (∀ vs, (∀ j ∈ js, j ∈ vs) → wipe σ' vs = wipe σ vs) → Q σ' H) → t v σ H Q
def SimGs (g : G) (t : TGs) (f : List D → En → Option En) (js : List Nat) : Prop :=
  ∀ (vs : List V) (ds : List D) (σ : St) (H : Hp) (env env' : En) (h : Hs) (bs : List Addr) (Q : St → Hp → Prop), Reps g bs H ds vs → ERel g bs H env σ → HRel g bs h H → f ds env = some env' →
    (∀ σ', ERel g bs H env' σ' → (∀ vs, (∀ j ∈ js, j ∈ vs) → wipe σ' vs = wipe σ vs) → Q σ' H) → t vs σ H Q
structure GJ (ci : Nat → String × List String) (X : Cx) (e : Expr) (t : TG) (f : D → En → Option En) (js : List Nat) : Prop where
  pg : PG X e t
  sim : SimG (X.g ci) t f js
structure GsJ (ci : Nat → String × List String) (X : Cx) (es : List Expr) (t : TGs) (f : List D → En → Option En) (js : List Nat) : Prop where
  pgs : PGs X es t
  sim : SimGs (X.g ci) t f js
def kName (i : Nat) : D → En → Option En := fun d env => some (env.set i (some d))
def ksNil : List D → En → Option En := fun ds env => match ds with
  | [] => some env
  | _ => none
def ksCons (f : D → En → Option En) (k : List D → En → Option En) : List D → En → Option En := fun ds env => match ds with
  | d :: ds => match f d env with
    | some env1 => k ds env1
    | none => none
  | [] => none
def kTup (n : Nat) (k : List D → En → Option En) : D → En → Option En := fun d env => match d with
  | .tup ds => if ds.length = n then k ds env else none
  | _ => none
theorem ERel.set {g : G} {bs : List Addr} {H : Hp} {env : En} {σ : St} {d : D} {v : V} (er : ERel g bs H env σ) (r : Rep g bs H d v) (i : Nat) : ERel g bs H (env.set i (some d)) (σ.set i (some v)) := by
  refine ⟨by rw [List.length_set, List.length_set]; exact er.len, fun j d' e => ?_⟩
  by_cases hj : i = j
  · subst hj
    by_cases hi : i < env.length
    · rw [List.getElem?_set_self hi] at e
      cases e
      exact ⟨v, by rw [List.getElem?_set_self (by rw [← er.len]; exact hi)], r⟩
    · rw [List.getElem?_eq_none (by rw [List.length_set]; omega)] at e; cases e
  · rw [List.getElem?_set_ne hj] at e ⊢
    exact er.at_ j d' e
theorem wipe_set {σ : St} {i : Nat} {v : Option V} : ∀ {vs : List Nat}, i ∈ vs → wipe (σ.set i v) vs = wipe σ vs
  | w :: vs, h => by
    unfold wipe
    by_cases hi : i ∈ vs
    · rw [wipe_set hi]
    · have e : i = w := by
        rcases List.mem_cons.mp h with z | z
        · exact z
        · exact absurd z hi
      subst e
      have key : ∀ (us : List Nat), i ∉ us → wipe (σ.set i v) us = (wipe σ us).set i v := by
        intro us
        induction us with
        | nil => intro _; rfl
        | cons u us ih =>
          intro hu
          have h1 : i ≠ u := fun z => hu (by rw [z]; exact List.mem_cons_self)
          unfold wipe
          rw [ih (fun z => hu (List.mem_cons_of_mem _ z)), List.set_comm _ _ h1]
      rw [key vs hi, List.set_set]
section
variable {ci : Nat → String × List String} {X : Cx} {W : WX} {pos : Pos}
theorem gj_name (i : Nat) {x : Str} (hN : X.N.Nodup) (hi : X.N[i]? = some x := by rfl) (hx : Loc X.env.scope x := by first | exact Or.inl rfl | exact Or.inr rfl) (hf : X.fn x = true ∨ X.env.scope.names.lookup x = some .local := by first | exact .inl rfl | exact .inr rfl | assumption) : GJ ci X (.Name x pos) (gName i) (kName i) [i] :=
  ⟨pg_name hN hi hx hf, fun v d σ H env env' h bs Q r er hr e k => by
    cases e
    exact k _ (er.set r i) fun vs hv => wipe_set (hv i (by simp))⟩
theorem gsj_nil : GsJ ci X [] gNil ksNil [] :=
  ⟨pgs_nil, fun vs ds σ H env env' h bs Q r er hr e k => by
    cases r with
    | nil => cases e; exact ⟨rfl, k _ er fun _ _ => rfl⟩
    | cons => cases e⟩
theorem gsj_cons {e : Expr} {es : List Expr} {t : TG} {u : TGs} {f : D → En → Option En} {k : List D → En → Option En} {js ks : List Nat} (h1 : GJ ci X e t f js) (h2 : GsJ ci X es u k ks)
    (hs : (assignEach (e :: es) X.env).map (·.2) = assign e X.env :: (assignEach es X.env).map (·.2) := by rfl) : GsJ ci X (e :: es) (gCons t u) (ksCons f k) (js ++ ks) :=
  ⟨pgs_cons h1.pg h2.pgs hs, fun vs ds σ H env env' h bs Q r er hr e kk => by
    cases r with
    | nil => cases e
    | cons r1 r2 =>
      unfold ksCons at e
      dsimp only at e
      split at e
      · rename_i env1 he1
        refine ⟨_, _, rfl, h1.sim _ _ σ H env env1 h bs _ r1 er hr he1 fun σ1 er1 hw1 => ?_⟩
        exact h2.sim _ _ σ1 H env1 env' h bs _ r2 er1 hr e fun σ2 er2 hw2 => kk σ2 er2 fun vs hv => (hw2 vs fun j hj => hv j (List.mem_append_right _ hj)).trans (hw1 vs fun j hj => hv j (List.mem_append_left _ hj))
      · cases e⟩
theorem gj_tup {es : List Expr} {k : Nat} {t : TGs} {n : Nat} {f : List D → En → Option En} {js : List Nat} (hc : X.calm = true) (h : GsJ ci X es t f js)
    (hn : (assignEach es X.env).length = n := by rfl) (hst : (assignEach es X.env).findIdx? (·.1) = none := by rfl) : GJ ci X (.Tuple es k pos) (gTup X.K n t) (kTup n f) js :=
  ⟨pg_tup hc h.pgs hn hst, fun v d σ H env env' hh bs Q r er hr e kk => by
    unfold kTup at e
    split at e
    · split at e
      · rename_i hl
        cases r with
        | @tup a vs ds t rs => exact ⟨a, vs, rfl, t.sq, by rw [← rs.length]; exact hl, h.sim _ _ σ H env env' hh bs _ rs er hr e kk⟩
      · cases e
    · cases e⟩
/-- target = e -/
def sAsg (fe : En → Hs → R D) (k : D → En → Option En) : En → Hs → S := fun env h => (fe env h).toS env fun d h1 => match k d env with
  | some env1 => .nx env1 h1
  | none => .bad
variable {e tg : Expr} {te : TE} {fe : En → Hs → R D} {t : TG} {k : D → En → Option En} {js : List Nat}
theorem sim_asg {g : G} (he : Sim (relV g) g W te fe) (hg : SimG g t k js) : SimS g W (tAsg te t) (sAsg fe k) :=
  fun σ H env h bs E er hr p => he.stepS er hr p fun a b bs1 H1 h1 e1 hr1 er1 ra p1 => by
    split at p1
    · rename_i env1 hk
      exact hg b a σ H1 env env1 h1 bs1 _ ra er1 hr1 hk fun σ' er' _ => p1 bs1 H1 σ' .refl hr1 er'
    · exact p1.elim
theorem sj_asg (he : EJ ci X W e te fe) (hg : GJ ci X tg t k js) (hs : swapsWithSole [tg] e pos.line X.env = pure false := by rfl) (hw : swappedStores [tg] e X.env = pure none := by rfl)
    (h1 : (assignEach [tg] X.env).map (·.2) = [assign tg X.env] := by rfl) : SJ ci X W (.Assign [tg] e pos) (tAsg te t) (sAsg fe k) := ⟨ps_asg he.pe hg.pg hs hw h1, sim_asg he.sim hg.sim⟩
/-- name = e -/
theorem sj_set (i : Nat) {x : Str} {pos' : Pos} (hN : X.N.Nodup) (he : EJ ci X W e te fe) (hi : X.N[i]? = some x := by rfl) (hx : Loc X.env.scope x := by first | exact Or.inl rfl | exact Or.inr rfl) (hs : swapsWith e (some (.Name x pos')) pos.line X.env = pure false := by rfl)
    (hf : X.fn x = true ∨ X.env.scope.names.lookup x = some .local := by first | exact .inl rfl | exact .inr rfl | assumption) : SJ ci X W (.Assign [.Name x pos'] e pos) (tAsg te (gName i)) (sAsg fe (kName i)) :=
  ⟨ps_set hN hi hx he.pe hs hf, sim_asg he.sim (gj_name (X := X) (pos := pos') i hN hi hx hf).sim⟩
/-- a, b = e1, e2 -/
def sPar (i j : Nat) (fa : En → Hs → R (List D)) : En → Hs → S := fun env h => (fa env h).toS env fun xs h1 => match xs with
  | [x, y] => .nx ((env.set i (some x)).set j (some y)) h1
  | _ => .bad
theorem sj_par {i j : Nat} {x y : Str} {a b : Expr} {ta : TA} {fa : En → Hs → R (List D)} {px py pt : Pos} {kt k2 pt2} (hc : X.calm = true) (hN : X.N.Nodup) (ha : AJ ci X W [a, b] ta fa)
    (hi : X.N[i]? = some x := by rfl) (hj : X.N[j]? = some y := by rfl) (hij : i ≠ j := by decide)
    (hx : X.env.scope.names.lookup x = some .local := by rfl) (hy : X.env.scope.names.lookup y = some .local := by rfl)
    (hw : swappedStores [.Tuple [.Name x px, .Name y py] kt pt] (.Tuple [a, b] k2 pt2) X.env = pure (some [x, y]) := by rfl)
    (hs : swapsWithSole [.Tuple [.Name x px, .Name y py] kt pt] (.Tuple [a, b] k2 pt2) pos.line X.env = pure false := by rfl) :
    SJ ci X W (.Assign [.Tuple [.Name x px, .Name y py] kt pt] (.Tuple [a, b] k2 pt2) pos) (tPar i j ta) (sPar i j fa) :=
  ⟨ps_par hc hN hi hj hij hx hy ha.pa hw hs, fun σ H env h bs E er hr p => ha.sim.stepS er hr p fun xs vs bs1 H1 h1 e1 hr1 er1 rs p1 => by
    split at p1
    · cases rs with
      | cons r1 t =>
        cases t with
        | cons r2 t =>
          cases t
          exact ⟨_, _, rfl, p1 bs1 H1 _ .refl hr1 ((er1.set r1 i).set r2 j)⟩
    · exact p1.elim⟩
/-- x op= e of whole numbers -/
def sAugI (i : Nat) (op : Int → Int → Int) (fe : En → Hs → R D) : En → Hs → S := fun env h => match env[i]? with
  | some (some (.int a)) => (fe env h).toS env fun y h1 => match y with
    | .int b => .nx (env.set i (some (.int (op a b)))) h1
    | _ => .bad
  | _ => .bad
theorem sj_aug (i : Nat) {x : Str} {op : Operator} {f : Int → Int → Int} {pos' : Pos} (hN : X.N.Nodup) (ho : PIp X op (ipI f)) (he : EJ ci X W e te fe) (hi : X.N[i]? = some x := by rfl) (hx : Loc X.env.scope x := by first | exact Or.inl rfl | exact Or.inr rfl)
    (hf : X.fn x = true ∨ X.env.scope.names.lookup x = some .local := by first | exact .inl rfl | exact .inr rfl | assumption) : SJ ci X W (.AugAssign (.Name x pos') op e pos) (tAug i te (ipI f)) (sAugI i f fe) :=
  ⟨ps_aug hN hi hx he.pe ho hf, fun σ H env h bs E er hr p => by
    unfold sAugI at p
    split at p
    · rename_i a ha
      obtain ⟨v, hv, r⟩ := er.at_ i _ ha
      cases r
      refine ⟨_, hv, he.sim.stepS er hr p fun y vy bs1 H1 h1 e1 hr1 er1 ry p1 => ?_⟩
      split at p1
      · cases ry
        exact ⟨_, _, rfl, rfl, p1 bs1 H1 _ .refl hr1 (er1.set (.int _) i)⟩
      · exact p1.elim
    · exact p.elim⟩
end
/-! ### cells written -/
theorem Ext.cell {g : G} {bs : List Addr} {h : Hs} {H : Hp} {n : Nat} {a : Addr} {o : HO} (hr : HRel g bs h H) (hb : bs[n]? = some a) : Ext bs H bs (upd H a o) :=
  ⟨⟨[], by simp, fun _ z => nomatch z⟩, fun b u hu hn => by rw [upd_ne (fun z => hn (by rw [z]; exact List.mem_of_getElem? hb))]; exact hu, fun b u hu => by
    by_cases hz : b = a
    · exact ⟨o, by rw [hz, upd_same]⟩
    · exact ⟨u, by rw [upd_ne hz]; exact hu⟩⟩
theorem HRel.cell {g : G} {bs : List Addr} {h : Hs} {H : Hp} {n : Nat} {a : Addr} {ho : HO} {o : O} (hr : HRel g bs h H) (hb : bs[n]? = some a) (ro : RepO g bs (upd H a ho) a o) : HRel g bs (h.set n o) (upd H a ho) := by
  refine ⟨by rw [List.length_set]; exact hr.len, hr.nd, fun i o' hi => ?_⟩
  by_cases hj : n = i
  · subst hj
    have hl : n < h.length := by rw [← hr.len]; exact (List.getElem?_eq_some_iff.mp hb).1
    rw [List.getElem?_set_self hl] at hi
    cases hi
    exact ⟨a, hb, ro⟩
  · rw [List.getElem?_set_ne hj] at hi
    obtain ⟨b, h1, h2⟩ := hr.at_ i o' hi
    have hne : b ≠ a := by
      intro z
      subst z
      obtain ⟨l1, e1⟩ := List.getElem?_eq_some_iff.mp h1
      obtain ⟨l2, e2⟩ := List.getElem?_eq_some_iff.mp hb
      exact hj ((List.getElem_inj hr.nd).mp (e2.trans e1.symm))
    exact ⟨b, h1, h2.mono (.cell hr hb) (upd_ne hne)⟩
section
variable {ci : Nat → String × List String} {X : Cx} {W : WX} {pos : Pos} {o i v : Expr} {to ti tv : TE} {fo fi fv : En → Hs → R D}
/-- o[i] = v, o a list that may be changed -/
def setIx (x y z : D) (h : Hs) : Option Hs := match x, y with
  | .ref n, .int k => match cellL h n with
    | some xs => match ixN xs.length k with
      | some j => some (h.set n (.lst (xs.set j z)))
      | none => none
    | none => none
  | _, _ => none
def sSetIx (fo fi fv : En → Hs → R D) : En → Hs → S := fun env h => (fv env h).toS env fun z h1 => (fo env h1).toS env fun x h2 => (fi env h2).toS env fun y h3 => match setIx x y z h3 with
  | some h4 => .nx env h4
  | none => .bad
theorem setIx_ok {g : G} {bs : List Addr} {h h4 : Hs} {H : Hp} {x y z : D} {vx vy vz : V} {Q : Hp → Prop} (hr : HRel g bs h H) (rx : Rep g bs H x vx) (ry : Rep g bs H y vy) (rz : Rep g bs H z vz) (e : setIx x y z h = some h4)
    (k : ∀ H', Ext bs H bs H' → HRel g bs h4 H' → Q H') : rSetL vx vy vz H Q := by
  unfold setIx at e
  split at e
  · rename_i n i
    split at e
    · rename_i xs hx
      split at e
      · rename_i j hj
        cases e
        cases rx with
        | @ref _ a hb =>
          cases ry
          obtain ⟨vs, h1, h2⟩ := cell_ok hr hb hx
          refine ⟨a, vs, i, j, rfl, rfl, h1, by rw [← h2.length]; exact hj, k _ (.cell hr hb) (hr.cell hb ⟨_, upd_same, ?_⟩)⟩
          exact (h2.set rz j).mono (.cell hr hb)
      · cases e
    · cases e
  · cases e
theorem sj_setIx {spos : Pos} (hv : EJ ci X W v tv fv) (ho : EJ ci X W o to fo) (hi : EJ ci X W i ti fi)
    (ha : ∀ v, assign (.Subscript o i spos) X.env v = (do
      let ov ← holding [v] (eval o X.env)
      let iv ← holding [v, ov] (eval i X.env)
      standAt spos
      holding [v, ov, iv] (setItem ov iv v)
      release [v, ov, iv] []) := by intro _; rfl)
    (hs : swapsWithSole [.Subscript o i spos] v pos.line X.env = pure false := by rfl) (hw : swappedStores [.Subscript o i spos] v X.env = pure none := by rfl)
    (h1 : (assignEach [.Subscript o i spos] X.env).map (·.2) = [assign (.Subscript o i spos) X.env] := by rfl) :
    SJ ci X W (.Assign [.Subscript o i spos] v pos) (tAsg tv (gSub to ti rSetL)) (sSetIx fo fi fv) :=
  ⟨ps_asg hv.pe (pg_sub ho.pe hi.pe set_list ha) hs hw h1, fun σ H env h bs E er hr p => hv.sim.stepS er hr p fun z vz bs1 H1 h1 e1 hr1 er1 rz p1 => ho.sim.stepS er1 hr1 p1 fun x vx bs2 H2 h2 e2 hr2 er2 rx p2 => hi.sim.stepS er2 hr2 p2 fun y vy bs3 H3 h3 e3 hr3 er3 ry p3 => by
    split at p3
    · rename_i h4 hh
      exact setIx_ok hr3 (rx.mono e3) ry ((rz.mono e2).mono e3) hh fun H' e hr' => p3 bs3 H' σ e hr' (er3.mono e)
    · exact p3.elim⟩
end
/-! ### methods of built-in types -/
inductive TyK where
  | list | str
def TyK.name : TyK → String
  | .list => "list"
  | .str => "str"
def tyOk (T : TyK) (x : D) (h : Hs) : Bool := match T with
  | .list => (rdL h x).isSome
  | .str => match x with
    | .str _ => true
    | _ => false
theorem tyOk_ok {g : G} {bs : List Addr} {h : Hs} {H : Hp} {T : TyK} {x : D} {v : V} (hr : HRel g bs h H) (r : Rep g bs H x v) (e : tyOk T x h = true) : tyV g.K T.name v H := by
  cases T with
  | list =>
    obtain ⟨xs, hx⟩ := Option.isSome_iff_exists.mp (show (rdL h x).isSome = true from e)
    obtain ⟨a, vs, rfl, hs, _⟩ := rdL_ok hr r hx
    exact .inl ⟨rfl, vs, hs⟩
  | str => cases r <;> first | rfl | cases e
structure MJ (g : G) (r : V → List V → Hp → VK → Prop) (f : D → List D → Hs → R D) : Prop where
  run : ∀ (W : Value → Option Addr → Hp → Prop) (bs : List Addr) (h : Hs) (H : Hp) (x : D) (vx : V) (xs : List D) (vs : List V) (Q : VK), HRel g bs h H → Rep g bs H x vx → Reps g bs H xs vs → Post (relV g) g W bs H (f x xs h) Q → r vx vs H Q
def eBM (T : TyK) (op : D → List D → Hs → R D) (fo : En → Hs → R D) (fa : En → Hs → R (List D)) : En → Hs → R D := fun env h => (fo env h).bind fun x h1 => if tyOk T x h1 = true then (fa env h1).bind fun xs h2 => op x xs h2 else .bad
def eBM0 (T : TyK) (op : D → List D → Hs → R D) (fo : En → Hs → R D) : En → Hs → R D := fun env h => (fo env h).bind fun x h1 => if tyOk T x h1 = true then op x [] h1 else .bad
section
variable {ci : Nat → String × List String} {X : Cx} {W : WX} {o e : Expr} {es : List Expr} {to : TE} {t : TA} {fo : En → Hs → R D} {fa : En → Hs → R (List D)} {name : Str} {apos cpos : Pos} {id : String} {r : V → List V → Hp → VK → Prop} {f : D → List D → Hs → R D}
theorem ej_bm (T : TyK) (pa : PlainAttrs T.name) (slot : PySem.Slot T.name name id) (hty : typeOf (.builtin id) = pure (.type "method_descriptor")) (hm : MtR X id r) (hj : MJ (X.g ci) r f) (ho : EJ ci X W o to fo) (ha : AJ ci X W (e :: es) t fa)
    (hbase : attributeBase o name X.env (eval o X.env) = eval o X.env := by rfl)
    (hfew : ((backTo cpos (starEach (e :: es) X.env)).all (fun x => !x.1) && (backToKw cpos (keywordEach [] X.env)).all (fun x => x.1.isSome)
      && decide ((e :: es).length + ([] : List Keyword).length + (if ([] : List Keyword).isEmpty then 0 else 1) < 30)) = true := by rfl)
    (hline : (apos.endLine == cpos.line) = true := by rfl) (hs : starEach (e :: es) X.env = (false, eval e X.env) :: starEach es X.env := by rfl) (hplain : (backTo cpos (starEach es X.env)).any (·.1) = false := by rfl) :
    EJ ci X W (.Call (.Attribute o name apos) (e :: es) [] cpos) (tBM X.K T.name r to t) (eBM T f fo fa) :=
  ⟨pe_bm pa slot hty hm ho.pe ha.pa hbase hfew hline hs hplain, fun σ H env h bs Q er hr p => ho.sim.step er hr p fun x vx bs1 H1 h1 e1 hr1 er1 rx p1 => by
    split at p1
    · rename_i hty'
      exact ⟨tyOk_ok hr1 rx hty', ha.sim.step er1 hr1 p1 fun xs vs bs2 H2 h2 e2 hr2 er2 rs p2 => hj.run _ bs2 h2 H2 x vx xs vs Q hr2 (rx.mono e2) rs p2⟩
    · exact p1.elim⟩
theorem ej_bm0 (T : TyK) (pa : PlainAttrs T.name) (slot : PySem.Slot T.name name id) (hty : typeOf (.builtin id) = pure (.type "method_descriptor")) (hm : MtR X id r) (hj : MJ (X.g ci) r f) (ho : EJ ci X W o to fo)
    (hbase : attributeBase o name X.env (eval o X.env) = eval o X.env := by rfl) (hline : (apos.endLine == cpos.line) = true := by rfl) :
    EJ ci X W (.Call (.Attribute o name apos) [] [] cpos) (tBM0 X.K T.name r to) (eBM0 T f fo) :=
  ⟨pe_bm0 pa slot hty hm ho.pe hbase hline, fun σ H env h bs Q er hr p => ho.sim.step er hr p fun x vx bs1 H1 h1 e1 hr1 er1 rx p1 => by
    split at p1
    · rename_i hty'
      exact ⟨tyOk_ok hr1 rx hty', hj.run _ bs1 h1 H1 x vx [] [] Q hr1 rx .nil p1⟩
    · exact p1.elim⟩
end
def appendD (x : D) (xs : List D) (h : Hs) : R D := match x, xs with
  | .ref n, [y] => match cellL h n with
    | some ys => if ys.length < big then .ok .non (h.set n (.lst (ys ++ [y]))) else .bad
    | none => .bad
  | _, _ => .bad
theorem post_cell {g : G} {bs : List Addr} {h : Hs} {H : Hp} {n : Nat} {a : Addr} {ds : List D} {vs : List V} {d : D} {v : V} {W : Value → Option Addr → Hp → Prop} {Q : VK} (hr : HRel g bs h H) (hb : bs[n]? = some a) (rs : Reps g bs H ds vs) (r : Rep g bs H d v)
    (p : Post (relV g) g W bs H (.ok d (h.set n (.lst ds))) Q) : Q v (upd H a (.lst vs)) :=
  p bs _ v (.cell hr hb) (hr.cell hb ⟨vs, upd_same, rs.mono (.cell hr hb)⟩) (r.mono (.cell hr hb))
theorem mj_append {g : G} : MJ g rAppend appendD := by
  refine ⟨fun W bs h H x vx xs vs Q hr rx rs p => ?_⟩
  unfold appendD at p
  split at p
  · split at p
    · rename_i ys hy
      split at p
      · rename_i hl
        cases rx with
        | @ref _ a hb =>
          cases rs with
          | cons r t =>
            cases t
            obtain ⟨us, h1, h2⟩ := cell_ok hr hb hy
            exact ⟨a, us, _, rfl, rfl, h1, by rw [← h2.length, big_eq]; exact hl, post_cell hr hb (h2.append (.cons r .nil)) .non p⟩
      · exact p.elim
    · exact p.elim
  · exact p.elim
def extendD (x : D) (xs : List D) (h : Hs) : R D := match x, xs with
  | .ref n, [y] => match cellL h n, ownL h y with
    | some ys, some zs => if ys.length + zs.length ≤ big then .ok .non (h.set n (.lst (ys ++ zs))) else .bad
    | _, _ => .bad
  | _, _ => .bad
theorem mj_extend {g : G} : MJ g rExtend extendD := by
  refine ⟨fun W bs h H x vx xs vs Q hr rx rs p => ?_⟩
  unfold extendD at p
  split at p
  · split at p
    · rename_i ys zs hy hz
      split at p
      · rename_i hl
        cases rx with
        | @ref _ a hb =>
          cases rs with
          | cons r t =>
            cases t
            obtain ⟨us, h1, h2⟩ := cell_ok hr hb hy
            obtain ⟨b, ws, rfl, h3, h4⟩ := ownL_ok hr r hz
            exact ⟨a, b, us, ws, rfl, rfl, h1, h3, by rw [← h2.length, ← h4.length, big_eq]; exact hl, post_cell hr hb (h2.append h4) .non p⟩
      · exact p.elim
    · exact p.elim
  · exact p.elim
def popD (x : D) (xs : List D) (h : Hs) : R D := match x, xs with
  | .ref n, [] => match cellL h n with
    | some ys => match ys[ys.length - 1]? with
      | some y => .ok y (h.set n (.lst ys.dropLast))
      | none => .bad
    | none => .bad
  | _, _ => .bad
theorem Reps.dropLast {g : G} {bs : List Addr} {H : Hp} {ds : List D} {vs : List V} (r : Reps g bs H ds vs) : Reps g bs H ds.dropLast vs.dropLast := by
  rw [List.dropLast_eq_take, List.dropLast_eq_take, ← r.length]
  exact r.take _
theorem mj_pop {g : G} : MJ g rPop popD := by
  refine ⟨fun W bs h H x vx xs vs Q hr rx rs p => ?_⟩
  unfold popD at p
  split at p
  · split at p
    · rename_i ys hy
      split at p
      · rename_i y hl
        cases rx with
        | @ref _ a hb =>
          cases rs
          obtain ⟨us, h1, h2⟩ := cell_ok hr hb hy
          obtain ⟨v, h3, h4⟩ := h2.get hl
          exact ⟨a, us, v, rfl, rfl, h1, by rw [← h2.length]; exact h3, post_cell hr hb h2.dropLast h4 p⟩
      · exact p.elim
    · exact p.elim
  · exact p.elim

/-! ### while -/
def whileN (c : En → Hs → R Bool) (f : En → Hs → S) : Nat → En → Hs → S
  | 0, _, _ => .bad
  | n + 1, env, h => (c env h).toS env fun b h1 => if b = true then (match f env h1 with
    | .nx env2 h2 => whileN c f n env2 h2
    | .ct env2 h2 => whileN c f n env2 h2
    | .brk env2 h2 => .nx env2 h2
    | .ret d h2 => .ret d h2
    | .err k fs env2 h2 => .err k fs env2 h2
    | .bad => .bad) else .nx env h1
theorem whileN_succ (c : En → Hs → R Bool) (f : En → Hs → S) : ∀ (n : Nat) (env : En) (h : Hs), whileN c f n env h ≠ .bad → whileN c f (n + 1) env h = whileN c f n env h
  | 0, env, h, hn => absurd rfl hn
  | n + 1, env, h, hn => by
    rw [whileN]
    conv => rhs; rw [whileN]
    rw [whileN] at hn
    cases hc : c env h with
    | bad => rfl
    | err k fs h1 => rfl
    | ok b h1 =>
      rw [hc] at hn
      simp only [R.toS_ok] at hn ⊢
      cases b with
      | false => rfl
      | true =>
        simp only [if_true] at hn ⊢
        cases hf : f env h1 with
        | nx env2 h2 => rw [hf] at hn; exact whileN_succ c f n env2 h2 hn
        | ct env2 h2 => rw [hf] at hn; exact whileN_succ c f n env2 h2 hn
        | _ => rfl
theorem whileN_le (c : En → Hs → R Bool) (f : En → Hs → S) {m n : Nat} (hmn : m ≤ n) {env : En} {h : Hs} (hn : whileN c f m env h ≠ .bad) : whileN c f n env h = whileN c f m env h := by
  induction hmn with
  | refl => rfl
  | step _ ih => rw [whileN_succ c f _ env h (by rw [ih]; exact hn), ih]
open Classical in
noncomputable def sWhile (c : En → Hs → R Bool) (f : En → Hs → S) : En → Hs → S := fun env h => if e : ∃ n, whileN c f n env h ≠ .bad then whileN c f e.choose env h else .bad
theorem sWhile_of {c : En → Hs → R Bool} {f : En → Hs → S} {n : Nat} {env : En} {h : Hs} {r : S} (e : whileN c f n env h = r) (hr : r ≠ .bad) : sWhile c f env h = r := by
  have ex : ∃ n, whileN c f n env h ≠ .bad := ⟨n, by rw [e]; exact hr⟩
  unfold sWhile
  rw [dif_pos ex]
  rcases Nat.le_total ex.choose n with hl | hl
  · rw [← whileN_le c f hl ex.choose_spec]; exact e
  · rw [whileN_le c f hl (by rw [e]; exact hr)]; exact e
/-- one turn -/
theorem sWhile_unroll (c : En → Hs → R Bool) (f : En → Hs → S) (env : En) (h : Hs) : sWhile c f env h = (c env h).toS env fun b h1 => if b = true then (match f env h1 with
    | .nx env2 h2 => sWhile c f env2 h2
    | .ct env2 h2 => sWhile c f env2 h2
    | .brk env2 h2 => .nx env2 h2
    | .ret d h2 => .ret d h2
    | .err k fs env2 h2 => .err k fs env2 h2
    | .bad => .bad) else .nx env h1 := by
  have again : ∀ (env2 : En) (h2 : Hs), (∀ n, whileN c f (n + 1) env h = whileN c f n env2 h2) → sWhile c f env h = sWhile c f env2 h2 := fun env2 h2 k => by
    by_cases e : ∃ n, whileN c f n env2 h2 ≠ .bad
    · obtain ⟨n, hn⟩ := e
      rw [sWhile_of (n := n) rfl hn, sWhile_of (n := n + 1) (k n) hn]
    · have e1 : ¬ ∃ n, whileN c f n env h ≠ .bad := fun ⟨n, hn⟩ => e (by
        cases n with
        | zero => exact absurd rfl hn
        | succ n => exact ⟨n, by rw [← k n]; exact hn⟩)
      unfold sWhile
      rw [dif_neg e, dif_neg e1]
  have at1 : ∀ (r : S), (∀ n, whileN c f (n + 1) env h = r) → sWhile c f env h = r := fun r k => by
    by_cases hr : r = .bad
    · subst hr
      unfold sWhile
      rw [dif_neg]
      rintro ⟨n, hn⟩
      cases n with
      | zero => exact hn rfl
      | succ n => exact hn (k n)
    · exact sWhile_of (n := 1) (k 0) hr
  cases hc : c env h with
  | bad => exact at1 _ fun n => by rw [whileN, hc]; rfl
  | err k fs h1 => exact at1 _ fun n => by rw [whileN, hc]; rfl
  | ok b h1 =>
    simp only [R.toS_ok]
    cases b with
    | false => exact at1 _ fun n => by rw [whileN, hc]; rfl
    | true =>
      simp only [if_true]
      cases hf : f env h1 with
      | nx env2 h2 => exact again env2 h2 fun n => by rw [whileN, hc]; simp only [R.toS_ok, if_true, hf]
      | ct env2 h2 => exact again env2 h2 fun n => by rw [whileN, hc]; simp only [R.toS_ok, if_true, hf]
      | _ => exact at1 _ fun n => by rw [whileN, hc]; simp only [R.toS_ok, if_true, hf]
section
variable {ci : Nat → String × List String} {X : Cx} {W : WX} {pos : Pos} {c : Expr} {body : List Stmt} {tc : TT} {tb : TS} {fc : En → Hs → R Bool} {fb : En → Hs → S}
theorem sim_while {g : G} (hc : Sim relB g W tc fc) (hb : SimS g W tb fb) : SimS g W (tWhile tc tb) (sWhile fc fb) := by
  intro σ H env h bs E er hr p
  unfold sWhile at p
  split at p
  · rename_i ex
    refine ⟨fun m σ H => ∃ bs env h, ERel g bs H env σ ∧ HRel g bs h H ∧ PostS g W bs H (whileN fc fb m env h) E, ⟨_, bs, env, h, er, hr, p⟩, ?_⟩
    rintro m σ H ⟨bs, env, h, er, hr, p⟩
    cases m with
    | zero => exact p.elim
    | succ m =>
      rw [whileN] at p
      refine hc.stepS er hr p fun x vx bs1 H1 h1 e1 hr1 er1 rx p1 => ?_
      cases (show vx = x from rx)
      cases x with
      | false =>
        rw [if_neg Bool.false_ne_true] at p1 ⊢
        exact p1 bs1 H1 σ .refl hr1 er1
      | true =>
        rw [if_pos rfl] at p1 ⊢
        refine ⟨fun σ' H' => ∃ bs env h, ERel g bs H' env σ' ∧ HRel g bs h H' ∧ PostS g W bs H' (whileN fc fb m env h) E, fun σ' H' z => ⟨m, Nat.lt_succ_self _, z⟩, ?_⟩
        refine hb σ H1 env h1 bs1 _ er1 hr1 ?_
        cases hf : fb env h1 with
        | nx env2 h2 => rw [hf] at p1; exact fun bs' H' σ' e r er' => ⟨bs', env2, h2, er', r, PostS.mono e p1⟩
        | ct env2 h2 => rw [hf] at p1; exact fun bs' H' σ' e r er' => ⟨bs', env2, h2, er', r, PostS.mono e p1⟩
        | brk env2 h2 => rw [hf] at p1; exact p1
        | ret d h2 => rw [hf] at p1; exact p1
        | err k fs env2 h2 => rw [hf] at p1; exact p1
        | bad => rw [hf] at p1; exact p1
  · exact p.elim
theorem sj_while (hp : PassesOwn (model X.prog X.w) X.A X.env X.xe) (hc : TJ ci X W c tc fc) (hb : SsJ ci X W body tb fb) : SJ ci X W (.While c body [] pos) (tWhile tc tb) (sWhile fc fb) :=
  ⟨ps_while hp hc.pt hb.pss, sim_while hc.sim hb.sim⟩
end
end Ev
set_option Elab.async false
set_option linter.all false
set_option maxRecDepth 100000
set_option maxHeartbeats 4000000
namespace Ev
open PySem L2

/-! ### what is walked -/
/-- the cells that are walked stay as they are -/
def Kept : List (Nat × List D) → Hs → Prop
  | [], _ => True
  | p :: ps, h => cellL h p.1 = some p.2 ∧ Kept ps h
@[simp] theorem Kept_nil (h : Hs) : Kept [] h = True := rfl
@[simp] theorem Kept_cons (p : Nat × List D) (ps : List (Nat × List D)) (h : Hs) : Kept (p :: ps) h = (cellL h p.1 = some p.2 ∧ Kept ps h) := rfl
def Feeds (g : G) (bs0 : List Addr) (H0 : Hp) (J : It) (items : List D) (src : List (Nat × List D)) : Prop :=
  ∀ bs h H, Ext bs0 H0 bs H → HRel g bs h H → Kept src h →
    (∀ i d, items[i]? = some d → J.go i H ∧ ∀ x H', J.yld i H x H' → Ext bs H bs H' ∧ HRel g bs h H' ∧ Rep g bs H' d x) ∧ J.stop items.length H
abbrev Src := List D × List (Nat × List D)
def relI (g : G) : List Addr → Hp → Src → It → Prop := fun bs H s J => Feeds g bs H J s.1 s.2
structure IJ (ci : Nat → String × List String) (X : Cx) (W : WX) (tg iter : Expr) (wi : TI) (f : En → Hs → R Src) : Prop where
  pi : PI X tg iter wi
  sim : Sim (relI (X.g ci)) (X.g ci) W wi f
def srcD (x : D) (h : Hs) : R Src := match x with
  | .tup xs => .ok (xs, []) h
  | .lst xs => .ok (xs, []) h
  | .rol xs => .ok (xs, []) h
  | .ref n => match cellL h n with
    | some xs => .ok (xs, [(n, xs)]) h
    | none => .bad
  | _ => .bad
def iSeq (fa : En → Hs → R D) : En → Hs → R Src := fun env h => (fa env h).bind srcD
def iSeqT (K : PySem.W.Frag) (te : TE) : TI := fun σ H R => te σ H fun x H1 => ∃ a, x = .ref a ∧ (((∃ xs, SqL K H1 a xs) ∧ R (Itl K a) H1) ∨ ((∃ xs, SqT K H1 a xs) ∧ R (Itt K a) H1))
theorem pi_seq {X : Cx} {tg l : Expr} {tl : TE} (hl : PE X l tl) : PI X tg l (iSeqT X.K tl) := by
  refine ⟨fun pins s σ H R I h => ?_⟩
  refine thn (hl.run pins s σ H _ I h) fun v s1 ⟨x, H1, I1, r1, q1⟩ => ?_
  obtain ⟨a, e, ⟨⟨xs, hq⟩, q⟩ | ⟨⟨xs, hq⟩, q⟩⟩ := q1
  · subst e
    cases r1
    obtain ⟨its, rv, p, hz⟩ := I1.list hq
    refine wpAny_pyIter_list p.isList ?_
    refine ⟨s1.heap.objs.size, [s1.heap.objs.size], _, _, H1, rfl, I1.kept (t' := s1.toks) fun b o e => Heap.get?_push_of_some _ e, turn_list a _, ⟨_, Heap.get?_push_size _ rfl, rfl, rfl⟩, fun b hb => ?_, q⟩
    have e : b = s1.heap.objs.size := by simpa using hb
    subst e
    exact I1.fpOk (Nat.le_refl _) (I1.hok.fresh (Nat.le_refl _))
  · subst e
    cases r1
    obtain ⟨its, rv, p, hz⟩ := I1.tuple hq
    refine wpAny_pyIter_tuple (show s1.heap.IsTuple a its.toArray from p) ?_
    refine ⟨s1.heap.objs.size, [s1.heap.objs.size], _, _, H1, rfl, I1.kept (t' := s1.toks) fun b o e => Heap.get?_push_of_some _ e, turn_tuple a _, ⟨_, Heap.get?_push_size _ rfl, rfl, rfl⟩, fun b hb => ?_, q⟩
    have e : b = s1.heap.objs.size := by simpa using hb
    subst e
    exact I1.fpOk (Nat.le_refl _) (I1.hok.fresh (Nat.le_refl _))
section
variable {g : G} {bs0 : List Addr} {H0 : Hp} {h : Hs}
theorem feeds_L {a : Addr} {xs : List D} {src : List (Nat × List D)} (k : ∀ bs h H, Ext bs0 H0 bs H → HRel g bs h H → Kept src h → ∃ vs, SqL g.K H a vs ∧ Reps g bs H xs vs) : Feeds g bs0 H0 (Itl g.K a) xs src := by
  intro bs h H e hr kp
  obtain ⟨vs, hs, rs⟩ := k bs h H e hr kp
  refine ⟨fun i d hi => ?_, ⟨vs, hs, Nat.le_of_eq rs.length.symm⟩⟩
  obtain ⟨v, h1, h2⟩ := rs.get hi
  refine ⟨⟨vs, v, hs, h1⟩, fun x H' y => ?_⟩
  obtain ⟨e1, y⟩ := y
  subst e1
  have e2 := y vs hs
  rw [h1] at e2
  cases e2
  exact ⟨.refl, hr, h2⟩
theorem feeds_T {a : Addr} {xs : List D} {src : List (Nat × List D)} (k : ∀ bs h H, Ext bs0 H0 bs H → HRel g bs h H → Kept src h → ∃ vs, SqT g.K H a vs ∧ Reps g bs H xs vs) : Feeds g bs0 H0 (Itt g.K a) xs src := by
  intro bs h H e hr kp
  obtain ⟨vs, hs, rs⟩ := k bs h H e hr kp
  refine ⟨fun i d hi => ?_, ⟨vs, hs, Nat.le_of_eq rs.length.symm⟩⟩
  obtain ⟨v, h1, h2⟩ := rs.get hi
  refine ⟨⟨vs, v, hs, h1⟩, fun x H' y => ?_⟩
  obtain ⟨e1, y⟩ := y
  subst e1
  have e2 := y vs hs
  rw [h1] at e2
  cases e2
  exact ⟨.refl, hr, h2⟩
/-- a list or a tuple that is read, as it stands later -/
theorem later {bs : List Addr} {H : Hp} {h : Hs} {x : D} {v : V} {W : Value → Option Addr → Hp → Prop} {Q : It → Hp → Prop} (hr : HRel g bs h H) (rx : Rep g bs H x v) (p : Post (relI g) g W bs H (srcD x h) Q) :
    ∃ a, v = .ref a ∧ (((∃ xs, SqL g.K H a xs) ∧ Q (Itl g.K a) H) ∨ ((∃ xs, SqT g.K H a xs) ∧ Q (Itt g.K a) H)) := by
  cases rx with
  | lst n hl rs => exact ⟨_, rfl, .inl ⟨⟨_, .of hl⟩, Post.ok_ p hr (feeds_L fun bs' h' H' e hr' _ => ⟨_, .of (e.keep _ _ hl n), rs.mono e⟩)⟩⟩
  | rol hl rs => exact ⟨_, rfl, .inl ⟨⟨_, hl.sq⟩, Post.ok_ p hr (feeds_L fun bs' h' H' e hr' _ => ⟨_, (hl.mono e).sq, rs.mono e⟩)⟩⟩
  | tup t rs => exact ⟨_, rfl, .inr ⟨⟨_, t.sq⟩, Post.ok_ p hr (feeds_T fun bs' h' H' e hr' _ => ⟨_, (t.mono e).sq, rs.mono e⟩)⟩⟩
  | @ref n a hb =>
    have p' : Post (relI g) g W bs H (match cellL h n with
      | some xs => R.ok (xs, [(n, xs)]) h
      | none => R.bad) Q := p
    cases hc : cellL h n with
    | none => rw [hc] at p'; exact p'.elim
    | some ys =>
      rw [hc] at p'
      obtain ⟨vs, h1, h2⟩ := cell_ok hr hb hc
      refine ⟨a, rfl, .inl ⟨⟨vs, .of h1⟩, Post.ok_ p' hr (feeds_L fun bs' h' H' e hr' kp => ?_)⟩⟩
      obtain ⟨us, h3, h4⟩ := cell_ok hr' (e.get hb) kp.1
      exact ⟨us, .of h3, h4⟩
  | _ => exact p.elim
end
section
variable {ci : Nat → String × List String} {X : Cx} {W : WX} {tg e e2 : Expr} {te : TE} {fe : En → Hs → R D} {ta : TA} {fa : En → Hs → R (List D)} {p pos tpos : Pos} {elts : List Expr} {kk : Nat}
theorem ij_seq (he : EJ ci X W e te fe) : IJ ci X W tg e (iSeqT X.K te) (iSeq fe) :=
  ⟨pi_seq he.pe, fun σ H env h bs Q er hr p => he.sim.step er hr p fun x vx bs1 H1 h1 e1 hr1 er1 rx p1 => later hr1 rx p1⟩
def iRange1 (fa : En → Hs → R (List D)) : En → Hs → R Src := fun env h => (fa env h).bind fun xs h1 => match xs with
  | [.int j] => if -(2 ^ 62) ≤ j ∧ j < 2 ^ 62 then .ok ((List.range j.toNat).map fun (i : Nat) => D.int (i : Int), []) h1 else .bad
  | _ => .bad
def iRange2 (fa : En → Hs → R (List D)) : En → Hs → R Src := fun env h => (fa env h).bind fun xs h1 => match xs with
  | [.int i, .int j] => if -(2 ^ 62) ≤ i ∧ i < 2 ^ 62 ∧ -(2 ^ 62) ≤ j ∧ j < 2 ^ 62 then .ok ((List.range (j - i).toNat).map fun (k : Nat) => D.int (i + (k : Int)), []) h1 else .bad
  | _ => .bad
theorem feeds_R {g : G} {bs0 : List Addr} {H0 : Hp} {lo : Int} {n : Nat} : Feeds g bs0 H0 (Itr lo n) ((List.range n).map fun (k : Nat) => D.int (lo + (k : Int))) [] := by
  intro bs h H e hr kp
  refine ⟨fun i d hi => ?_, by show n ≤ _; simp⟩
  rw [List.getElem?_map] at hi
  by_cases hlt : i < n
  · rw [List.getElem?_range hlt] at hi
    cases hi
    refine ⟨hlt, fun x H' y => ?_⟩
    obtain ⟨e1, e2⟩ := y
    subst e1 e2
    exact ⟨.refl, hr, .int _⟩
  · rw [List.getElem?_eq_none (by simpa using hlt)] at hi; cases hi
theorem ij_range1 (hg : Gl X "range") (hm : X.mg "range" = none) (ha : AJ ci X W [e] ta fa) (hs : starEach [e] X.env = [(false, eval e X.env)] := by rfl) : IJ ci X W tg (.Call (.Name "range" p) [e] [] pos) (iRng1 ta) (iRange1 fa) :=
  ⟨pi_range1 hg hm ha.pa hs, fun σ H env h bs Q er hr p => ha.sim.step er hr p fun xs vs bs1 H1 h1 e1 hr1 er1 rs p1 => by
    split at p1
    · split at p1
      · rename_i hc
        cases rs with
        | cons r t =>
          cases t
          cases r
          refine ⟨_, rfl, hc.1, hc.2, Post.ok_ p1 hr1 ?_⟩
          have z := fun n => feeds_R (g := X.g ci) (bs0 := bs1) (H0 := H1) (lo := 0) (n := n)
          simp only [Int.zero_add] at z
          exact z _
      · exact p1.elim
    · exact p1.elim⟩
theorem ij_range2 (hg : Gl X "range") (hm : X.mg "range" = none) (ha : AJ ci X W [e, e2] ta fa) (hs : starEach [e, e2] X.env = [(false, eval e X.env), (false, eval e2 X.env)] := by rfl) (hs2 : starEach [e2] X.env = [(false, eval e2 X.env)] := by rfl) :
    IJ ci X W tg (.Call (.Name "range" p) [e, e2] [] pos) (iRng2 ta) (iRange2 fa) :=
  ⟨pi_range2 hg hm ha.pa hs hs2, fun σ H env h bs Q er hr p => ha.sim.step er hr p fun xs vs bs1 H1 h1 e1 hr1 er1 rs p1 => by
    split at p1
    · split at p1
      · rename_i hc
        cases rs with
        | cons r t =>
          cases t with
          | cons r2 t =>
            cases t; cases r; cases r2
            exact ⟨_, _, rfl, hc, Post.ok_ p1 hr1 feeds_R⟩
      · exact p1.elim
    · exact p1.elim⟩
end

/-! ### enumerate, zip -/
def gOf (x : D) (xs : List D) : List (Nat × List D) := match x with
  | .ref n => [(n, xs)]
  | _ => []
theorem later_L {g : G} {bs : List Addr} {H : Hp} {h : Hs} {x : D} {v : V} {xs : List D} (hr : HRel g bs h H) (rx : Rep g bs H x v) (e : rdL h x = some xs) :
    ∃ a, v = .ref a ∧ (∃ vs, SqL g.K H a vs ∧ xs.length = vs.length) ∧ ∀ bs' h' H', Ext bs H bs' H' → HRel g bs' h' H' → Kept (gOf x xs) h' → ∃ vs, SqL g.K H' a vs ∧ Reps g bs' H' xs vs := by
  cases rx with
  | lst n hl rs => cases e; exact ⟨_, rfl, ⟨_, .of hl, rs.length⟩, fun bs' h' H' e hr' _ => ⟨_, .of (e.keep _ _ hl n), rs.mono e⟩⟩
  | rol hl rs => cases e; exact ⟨_, rfl, ⟨_, hl.sq, rs.length⟩, fun bs' h' H' e hr' _ => ⟨_, (hl.mono e).sq, rs.mono e⟩⟩
  | @ref n a hb =>
    obtain ⟨vs, h1, h2⟩ := cell_ok hr hb (show cellL h n = some xs from e)
    refine ⟨a, rfl, ⟨vs, .of h1, h2.length⟩, fun bs' h' H' e hr' kp => ?_⟩
    obtain ⟨us, h3, h4⟩ := cell_ok hr' (e.get hb) kp.1
    exact ⟨us, .of h3, h4⟩
  | _ => cases e
/-- enumerate -/
def enumL (i : Nat) : List D → List D
  | [] => []
  | d :: ds => .tup [.int (i : Int), d] :: enumL (i + 1) ds
theorem enumL_length : ∀ (i : Nat) (ds : List D), (enumL i ds).length = ds.length
  | _, [] => rfl
  | i, _ :: ds => congrArg Nat.succ (enumL_length (i + 1) ds)
theorem enumL_get : ∀ (k : Nat) (ds : List D) (i : Nat) (d : D), (enumL k ds)[i]? = some d → ∃ e, ds[i]? = some e ∧ d = .tup [.int ((k + i : Nat) : Int), e]
  | _, [], _, _, h => by simp [enumL] at h
  | k, e :: ds, 0, d, h => by
    simp [enumL] at h
    exact ⟨e, rfl, by rw [← h]; rfl⟩
  | k, e :: ds, i + 1, d, h => by
    obtain ⟨e', h1, h2⟩ := enumL_get (k + 1) ds i d (by simpa [enumL] using h)
    exact ⟨e', by simpa using h1, by rw [h2, show k + 1 + i = k + (i + 1) by omega]⟩
def iEnumD (fa : En → Hs → R (List D)) : En → Hs → R Src := fun env h => (fa env h).bind fun xs h1 => match xs with
  | [x] => match rdL h1 x with
    | some ys => .ok (enumL 0 ys, gOf x ys) h1
    | none => .bad
  | _ => .bad
theorem feeds_E {g : G} {bs0 : List Addr} {H0 : Hp} {a : Addr} {xs : List D} {src : List (Nat × List D)} (k : ∀ bs h H, Ext bs0 H0 bs H → HRel g bs h H → Kept src h → ∃ vs, SqL g.K H a vs ∧ Reps g bs H xs vs) : Feeds g bs0 H0 (Ite g.K a) (enumL 0 xs) src := by
  intro bs h H e hr kp
  obtain ⟨vs, hs, rs⟩ := k bs h H e hr kp
  refine ⟨fun i d hi => ?_, ⟨vs, hs, by rw [enumL_length, rs.length]; exact Nat.le_refl _⟩⟩
  obtain ⟨d', h0, rfl⟩ := enumL_get 0 xs i d hi
  obtain ⟨v, h1, h2⟩ := rs.get h0
  refine ⟨⟨vs, v, hs, h1⟩, fun x H' y => ?_⟩
  obtain ⟨T, z, rfl, hT, rfl, y⟩ := y
  have e2 := y vs hs
  rw [h1] at e2
  cases e2
  refine ⟨.new hT, hr.new hT, .tup (.inl ⟨hr.out hT, .inl upd_same⟩) (.cons ?_ (.cons (h2.mono (.new hT)) .nil))⟩
  rw [Nat.zero_add]
  exact .int _
section
variable {ci : Nat → String × List String} {X : Cx} {W : WX} {tg e e2 : Expr} {ta : TA} {fa : En → Hs → R (List D)} {p pos tpos : Pos} {elts : List Expr} {kk : Nat}
theorem ij_enum (hg : Gl X "enumerate") (hm : X.mg "enumerate" = none) (ha : AJ ci X W [e] ta fa) (hs : starEach [e] X.env = [(false, eval e X.env)] := by rfl) : IJ ci X W (.Tuple elts kk tpos) (.Call (.Name "enumerate" p) [e] [] pos) (iEnum X.K ta) (iEnumD fa) :=
  ⟨pi_enum hg hm ha.pa hs, fun σ H env h bs Q er hr p => ha.sim.step er hr p fun xs vs bs1 H1 h1 e1 hr1 er1 rs p1 => by
    split at p1
    · split at p1
      · rename_i ys hy
        cases rs with
        | cons r t =>
          cases t
          obtain ⟨a, rfl, ⟨vs, h1, _⟩, h2⟩ := later_L hr1 r hy
          exact ⟨a, vs, rfl, h1, Post.ok_ p1 hr1 (feeds_E h2)⟩
      · exact p1.elim
    · exact p1.elim⟩
end
def zipL : List D → List D → List D
  | d :: ds, e :: es => .tup [d, e] :: zipL ds es
  | _, _ => []
theorem zipL_get : ∀ (ds es : List D) (i : Nat) (d : D), (zipL ds es)[i]? = some d → ∃ a b, ds[i]? = some a ∧ es[i]? = some b ∧ d = .tup [a, b]
  | [], _, _, _, h => by simp [zipL] at h
  | _ :: _, [], _, _, h => by simp [zipL] at h
  | a :: ds, b :: es, 0, d, h => by
    simp [zipL] at h
    exact ⟨a, b, rfl, rfl, h.symm⟩
  | a :: ds, b :: es, i + 1, d, h => by
    obtain ⟨x, y, h1, h2, h3⟩ := zipL_get ds es i d (by simpa [zipL] using h)
    exact ⟨x, y, by simpa using h1, by simpa using h2, h3⟩
theorem zipL_length : ∀ (ds es : List D), (zipL ds es).length = min ds.length es.length
  | [], _ => by simp [zipL]
  | _ :: _, [] => by simp [zipL]
  | _ :: ds, _ :: es => by simp [zipL, zipL_length ds es]
def iZipD (fa : En → Hs → R (List D)) : En → Hs → R Src := fun env h => (fa env h).bind fun xs h1 => match xs with
  | [x, y] => match rdL h1 x, rdL h1 y with
    | some xs, some ys => .ok (zipL xs ys, gOf x xs ++ gOf y ys) h1
    | _, _ => .bad
  | _ => .bad
theorem Kept_append {a b : List (Nat × List D)} {h : Hs} (k : Kept (a ++ b) h) : Kept a h ∧ Kept b h := by
  induction a with
  | nil => exact ⟨trivial, k⟩
  | cons p ps ih => exact ⟨⟨k.1, (ih k.2).1⟩, (ih k.2).2⟩
section
variable {ci : Nat → String × List String} {X : Cx} {W : WX} {tg e e2 : Expr} {ta : TA} {fa : En → Hs → R (List D)} {p pos tpos : Pos} {elts : List Expr} {kk : Nat}
theorem ij_zip (hg : Gl X "zip") (hm : X.mg "zip" = none) (ha : AJ ci X W [e, e2] ta fa)
    (hs : starEach [e, e2] X.env = (false, eval e X.env) :: starEach [e2] X.env := by rfl) (hpl : (backTo pos (starEach [e2] X.env)).any (·.1) = false := by rfl) : IJ ci X W (.Tuple elts kk tpos) (.Call (.Name "zip" p) [e, e2] [] pos) (iZip X.K ta) (iZipD fa) :=
  ⟨pi_zip hg hm ha.pa hs hpl, fun σ H env h bs Q er hr p => ha.sim.step er hr p fun xs vs bs1 H1 h1 e1 hr1 er1 rs p1 => by
    split at p1
    · split at p1
      · rename_i us ws hu hw
        cases rs with
        | cons r t =>
          cases t with
          | cons r2 t =>
            cases t
            obtain ⟨a, rfl, ⟨vs, h1, l1⟩, k1⟩ := later_L hr1 r hu
            obtain ⟨b, rfl, ⟨zs, h2, l2⟩, k2⟩ := later_L hr1 r2 hw
            refine ⟨a, b, vs, zs, rfl, h1, h2, Post.ok_ p1 hr1 ?_⟩
            intro bs h H e hr kp
            obtain ⟨kp1, kp2⟩ := Kept_append kp
            obtain ⟨v1, s1, r1⟩ := k1 bs h H e hr kp1
            obtain ⟨v2, s2, r2⟩ := k2 bs h H e hr kp2
            refine ⟨fun i d hi => ?_, ⟨v1, v2, s1, s2, by rw [zipL_length, r1.length, r2.length]; omega⟩⟩
            obtain ⟨x, y, hx, hy, rfl⟩ := zipL_get _ _ i d hi
            obtain ⟨vx, g1, g2⟩ := r1.get hx
            obtain ⟨vy, g3, g4⟩ := r2.get hy
            refine ⟨⟨v1, v2, vx, vy, s1, s2, g1, g3⟩, fun z H' q => ?_⟩
            obtain ⟨T, x', y', rfl, hT, rfl, q1, q2⟩ := q
            have e1 := q1 v1 s1
            have e2 := q2 v2 s2
            rw [g1] at e1
            rw [g3] at e2
            cases e1
            cases e2
            exact ⟨.new hT, hr.new hT, .tup (.inl ⟨hr.out hT, .inl upd_same⟩) (.cons (g2.mono (.new hT)) (.cons (g4.mono (.new hT)) .nil))⟩
      · exact p1.elim
    · exact p1.elim⟩
end

/-! ### for -/
open Classical in
noncomputable def forL (gs : List (Nat × List D)) (k : D → En → Option En) (f : En → Hs → S) : List D → En → Hs → S
  | [], env, h => if Kept gs h then .nx env h else .bad
  | x :: xs, env, h => if Kept gs h then (match k x env with
    | none => .bad
    | some e1 => match f e1 h with
      | .nx e2 h2 => forL gs k f xs e2 h2
      | .ct e2 h2 => forL gs k f xs e2 h2
      | .brk e2 h2 => .nx e2 h2
      | .ret d h2 => .ret d h2
      | .err c fs e2 h2 => .err c fs e2 h2
      | .bad => .bad) else .bad
noncomputable def sFor (fi : En → Hs → R Src) (k : D → En → Option En) (f : En → Hs → S) : En → Hs → S := fun env h => (fi env h).toS env fun s h1 => forL s.2 k f s.1 env h1
section
variable {ci : Nat → String × List String} {X : Cx} {W : WX} {pos : Pos} {tg iter : Expr} {body : List Stmt} {wi : TI} {t : TG} {tb : TS} {fi : En → Hs → R Src} {k : D → En → Option En} {js : List Nat} {f : En → Hs → S}
theorem sim_for {g : G} (hi : Sim (relI g) g W wi fi) (hg : SimG g t k js) (hb : SimS g W tb f) : SimS g W (tFor wi t tb) (sFor fi k f) := by
  intro σ H env h bs E er hr p
  refine hi.stepS er hr p fun s J bs1 H1 h1 e1 hr1 er1 fd p1 => ?_
  refine ⟨fun i m σ H => m = s.1.length - i ∧ i ≤ s.1.length ∧ ∃ bs env h, Ext bs1 H1 bs H ∧ ERel g bs H env σ ∧ HRel g bs h H ∧ PostS g W bs H (forL s.2 k f (s.1.drop i) env h) E, ⟨_, rfl, Nat.zero_le _, bs1, env, h1, .refl, er1, hr1, p1⟩, ?_⟩
  rintro i m σ H ⟨rfl, hil, bs, env, h, e, er, hr, p⟩
  by_cases hlt : i < s.1.length
  · refine .inr ?_
    rw [List.drop_eq_getElem_cons hlt, forL] at p
    split at p
    · rename_i kp
      obtain ⟨go, yl⟩ := (fd bs h H e hr kp).1 i _ (List.getElem?_eq_getElem hlt)
      refine ⟨go, fun σ' H' => ∃ bs env h, Ext bs1 H1 bs H' ∧ ERel g bs H' env σ' ∧ HRel g bs h H' ∧ PostS g W bs H' (forL s.2 k f (s.1.drop (i + 1)) env h) E, fun σ' H' z => ⟨_, by omega, rfl, hlt, z⟩, fun x H' y => ?_⟩
      obtain ⟨e2, hr2, rx⟩ := yl x H' y
      split at p
      · exact p.elim
      · rename_i env1 hk
        refine hg x _ σ H' env env1 h bs _ rx (er.mono e2) hr2 hk fun σ' er' _ => ?_
        have p2 := PostS.mono e2 p
        refine hb σ' H' env1 h bs _ er' hr2 ?_
        cases hf : f env1 h with
        | nx env2 h2 => rw [hf] at p2; exact fun bs' H2 σ2 e3 r3 er3 => ⟨bs', env2, h2, (e.trans e2).trans e3, er3, r3, PostS.mono e3 p2⟩
        | ct env2 h2 => rw [hf] at p2; exact fun bs' H2 σ2 e3 r3 er3 => ⟨bs', env2, h2, (e.trans e2).trans e3, er3, r3, PostS.mono e3 p2⟩
        | brk env2 h2 => rw [hf] at p2; exact p2
        | ret d h2 => rw [hf] at p2; exact p2
        | err c fs env2 h2 => rw [hf] at p2; exact p2
        | bad => rw [hf] at p2; exact p2
    · exact p.elim
  · have hi : i = s.1.length := by omega
    subst hi
    rw [List.drop_length, forL] at p
    split at p
    · rename_i kp
      exact .inl ⟨(fd bs h H e hr kp).2, p bs H σ .refl hr er⟩
    · exact p.elim
theorem sj_for (hp : PassesOwn (model X.prog X.w) X.A X.env X.xe) (hc : X.calm = true) (hi : IJ ci X W tg iter wi fi) (hg : GJ ci X tg t k js) (hb : SsJ ci X W body tb f)
    (hs : ∀ x, foldedSetIterable iter X.env x = pure x := by intro _; rfl) : SJ ci X W (.For tg iter body [] pos) (tFor wi t tb) (sFor fi k f) :=
  ⟨ps_for hp hc hi.pi hg.pg hb.pss hs, sim_for hi.sim hg.sim hb.sim⟩
end

/-! ### comprehensions -/
mutual
/-- no cell from n on -/
def D.nr (n : Nat) : D → Bool
  | .tup xs => D.nrs n xs
  | .lst xs => D.nrs n xs
  | .rol xs => D.nrs n xs
  | .obj _ xs => D.nrs n xs
  | .ref k => decide (k < n)
  | .non => true
  | .bl _ => true
  | .int _ => true
  | .str _ => true
def D.nrs (n : Nat) : List D → Bool
  | [] => true
  | x :: xs => D.nr n x && D.nrs n xs
end
section
variable {g : G} {bs : List Addr} {H : Hp}
mutual
theorem Rep.nr : ∀ {d : D} {v : V}, Rep g bs H d v → D.nr bs.length d = true
  | _, _, .non => by rw [D.nr]
  | _, _, .bl b => by rw [D.nr]
  | _, _, .int i => by rw [D.nr]
  | _, _, .str h => by rw [D.nr]
  | _, _, .tup h r => by rw [D.nr]; exact Reps.nrs r
  | _, _, .lst n h r => by rw [D.nr]; exact Reps.nrs r
  | _, _, .rol h r => by rw [D.nr]; exact Reps.nrs r
  | _, _, .obj n c h f r => by rw [D.nr]; exact Reps.nrs r
  | _, _, .ref h => by rw [D.nr]; exact decide_eq_true (List.getElem?_eq_some_iff.mp h).1
theorem Reps.nrs : ∀ {ds : List D} {vs : List V}, Reps g bs H ds vs → D.nrs bs.length ds = true
  | _, _, .nil => by rw [D.nrs]
  | _, _, .cons r t => by rw [D.nrs, Rep.nr r, Reps.nrs t]; rfl
end
mutual
theorem Rep.shrink {more : List Addr} : ∀ {d : D} {v : V}, Rep g (bs ++ more) H d v → D.nr bs.length d = true → Rep g bs H d v
  | _, _, .non, _ => .non
  | _, _, .bl b, _ => .bl b
  | _, _, .int i, _ => .int i
  | _, _, .str h, _ => .str h
  | _, _, .tup h r, n => .tup (h.elim (fun z => .inl ⟨fun y => z.1 (List.mem_append_left _ y), z.2⟩) .inr) (Reps.shrink r (by rw [D.nr] at n; exact n))
  | _, _, .lst n h r, q => .lst (fun y => n (List.mem_append_left _ y)) h (Reps.shrink r (by rw [D.nr] at q; exact q))
  | _, _, .rol h r, n => .rol (h.elim (fun z => .inl ⟨fun y => z.1 (List.mem_append_left _ y), z.2⟩) .inr) (Reps.shrink r (by rw [D.nr] at n; exact n))
  | _, _, .obj n c h f r, q => .obj (fun y => n (List.mem_append_left _ y)) c h f (Reps.shrink r (by rw [D.nr] at q; exact q))
  | _, _, .ref h, q => .ref (by rw [D.nr] at q; rw [List.getElem?_append_left (of_decide_eq_true q)] at h; exact h)
theorem Reps.shrink {more : List Addr} : ∀ {ds : List D} {vs : List V}, Reps g (bs ++ more) H ds vs → D.nrs bs.length ds = true → Reps g bs H ds vs
  | _, _, .nil, _ => .nil
  | _, _, .cons r t, n => by
    rw [D.nrs, Bool.and_eq_true] at n
    exact .cons (Rep.shrink r n.1) (Reps.shrink t n.2)
end
def O.nr (n : Nat) : O → Bool
  | .lst xs => D.nrs n xs
  | .ins _ xs => D.nrs n xs
theorem RepO.nr {a : Addr} {o : O} (r : RepO g bs H a o) : O.nr bs.length o = true := by
  cases o with
  | lst ds => obtain ⟨_, _, r⟩ := r; exact r.nrs
  | ins c ds => obtain ⟨_, _, _, _, _, _, r⟩ := r; exact r.nrs
theorem RepO.shrink {a : Addr} {o : O} {more : List Addr} (r : RepO g (bs ++ more) H a o) (h : O.nr bs.length o = true) : RepO g bs H a o := by
  cases o with
  | lst ds => obtain ⟨vs, q, r⟩ := r; exact ⟨vs, q, r.shrink h⟩
  | ins c ds => obtain ⟨C, dx, fvs, q1, q2, q3, r⟩ := r; exact ⟨C, dx, fvs, q1, q2, q3, r.shrink h⟩
/-- the newest cells let go -/
theorem HRel.pop {h0 more : Hs} {m : List Addr} {bs0 : List Addr} {H0 : Hp} (hr0 : HRel g bs0 h0 H0) (hr : HRel g (bs0 ++ m) (h0 ++ more) H) : HRel g bs0 h0 H := by
  refine ⟨hr0.len, hr0.nd, fun i o hi => ?_⟩
  have hl : i < h0.length := (List.getElem?_eq_some_iff.mp hi).1
  obtain ⟨a, h1, h2⟩ := hr.at_ i o (by rw [List.getElem?_append_left hl]; exact hi)
  rw [List.getElem?_append_left (by rw [hr0.len]; exact hl)] at h1
  obtain ⟨_, _, h3⟩ := hr0.at_ i o hi
  exact ⟨a, h1, h2.shrink h3.nr⟩
end
def noErr {α : Type} (r : R α) : R α := match r with
  | .err _ _ _ => .bad
  | r => r
@[simp] theorem noErr_ok {α : Type} (a : α) (h : Hs) : noErr (R.ok a h) = .ok a h := rfl
theorem Post.noErr {α β : Type} {rel : List Addr → Hp → α → β → Prop} {g : G} {W W' : Value → Option Addr → Hp → Prop} {bs : List Addr} {H : Hp} {r : R α} {Q : β → Hp → Prop} (p : Post rel g W bs H (noErr r) Q) : Post rel g W' bs H r Q := by
  cases r with
  | ok a h => exact p
  | err c fs h => exact p.elim
  | bad => exact p
/-- names forgotten -/
def wipeE (env : En) : List Nat → En
  | [] => env
  | v :: vs => (wipeE env vs).set v none
theorem ERel.wipe {g : G} {bs : List Addr} {H : Hp} {env : En} {σ : St} (er : ERel g bs H env σ) : ∀ vs : List Nat, ERel g bs H (wipeE env vs) (L2.wipe σ vs)
  | [] => er
  | v :: vs => by
    have ih := ERel.wipe er vs
    unfold wipeE L2.wipe
    refine ⟨by rw [List.length_set, List.length_set]; exact ih.len, fun i d hi => ?_⟩
    by_cases hv : v = i
    · subst hv
      by_cases hl : v < (wipeE env vs).length
      · rw [List.getElem?_set_self hl] at hi; cases hi
      · rw [List.getElem?_eq_none (by rw [List.length_set]; omega)] at hi; cases hi
    · rw [List.getElem?_set_ne hv] at hi ⊢
      exact ih.at_ i d hi
open Classical in
noncomputable def compL (hb : Hs) (gs : List (Nat × List D)) (k : D → En → Option En) (tt : En → Hs → R Bool) (fe : En → Hs → R D) (env : En) : List D → List D → R (List D)
  | [], acc => if Kept gs (hb ++ [.lst acc]) then .ok acc hb else .bad
  | x :: xs, acc => if Kept gs (hb ++ [.lst acc]) then (match k x env with
    | none => .bad
    | some e1 => (noErr (tt e1 (hb ++ [.lst acc]))).bind fun b h1 => if b = true then (noErr (fe e1 h1)).bind fun y h2 => if h2 = hb ++ [.lst acc] ∧ acc.length < big then compL hb gs k tt fe env xs (acc ++ [y]) else .bad
      else if h1 = hb ++ [.lst acc] then compL hb gs k tt fe env xs acc else .bad) else .bad
noncomputable def eComp (fi : En → Hs → R Src) (k : D → En → Option En) (tt : En → Hs → R Bool) (fe : En → Hs → R D) (own : List Nat) : En → Hs → R D := fun env h => (fi env h).bind fun s h1 => (compL h1 s.2 k tt fe (wipeE env own) s.1 []).bind fun ys _ => if D.nrs h1.length ys = true then .ok (.lst ys) h1 else .bad
noncomputable def eCompM (fi : En → Hs → R Src) (k : D → En → Option En) (tt : En → Hs → R Bool) (fe : En → Hs → R D) (own : List Nat) : En → Hs → R D := fun env h => (fi env h).bind fun s h1 => (compL h1 s.2 k tt fe (wipeE env own) s.1 []).bind fun ys _ => .ok (.ref h1.length) (h1 ++ [.lst ys])
theorem compL_heap {hb : Hs} {gs : List (Nat × List D)} {k : D → En → Option En} {tt : En → Hs → R Bool} {fe : En → Hs → R D} {env : En} : ∀ {xs acc : List D}, (∃ ys, compL hb gs k tt fe env xs acc = .ok ys hb) ∨ compL hb gs k tt fe env xs acc = .bad
  | [], acc => by
    rw [compL]
    split
    · exact .inl ⟨_, rfl⟩
    · exact .inr rfl
  | x :: xs, acc => by
    rw [compL]
    split
    · split
      · exact .inr rfl
      · rename_i e1 _
        cases ht : noErr (tt e1 (hb ++ [.lst acc])) with
        | bad => exact .inr rfl
        | err c fs h => exact (by cases hz : tt e1 (hb ++ [.lst acc]) <;> rw [hz] at ht <;> cases ht)
        | ok b h1 =>
          simp only [R.bind_ok]
          split
          · cases hf : noErr (fe e1 h1) with
            | bad => exact .inr rfl
            | err c fs h => exact (by cases hz : fe e1 h1 <;> rw [hz] at hf <;> cases hf)
            | ok y h2 =>
              simp only [R.bind_ok]
              split
              · exact compL_heap
              · exact .inr rfl
          · split
            · exact compL_heap
            · exact .inr rfl
    · exact .inr rfl
section
variable {ci : Nat → String × List String} {X : Cx} {W : WX} {elt tg iter : Expr} {ifs : List Expr} {scope : Scope} {own : List (Str × Nat)} {pos : Pos} {wi : TI} {t : TG} {tt : TT} {te : TE} {fi : En → Hs → R Src} {k : D → En → Option En} {js : List Nat} {ft : En → Hs → R Bool} {fe : En → Hs → R D}
abbrev W0 : WX := fun _ _ _ _ => False
/-- the core: from what is told of a run of compL to the hand layer's reading -/
theorem sim_comp_core {g : G} {vs : List Nat} {σ : St} {H1 : Hp} {env : En} {h1 : Hs} {bs1 : List Addr} {s : Src} {J : It} {Q : VK} {ys : List Ev.D} (hg : SimG g t k js) (ht : Sim relB g W0 tt ft) (he : Sim (relV g) g W0 te fe) (hjs : ∀ j ∈ js, j ∈ vs)
    (er1 : ERel g bs1 H1 env σ) (hr1 : HRel g bs1 h1 H1) (fd : Feeds g bs1 H1 J s.1 s.2) (hc : compL h1 s.2 k ft fe (wipeE env vs) s.1 [] = .ok ys h1)
    (hQ : ∀ (Da : Addr) (H : Hp), H1 Da = none → Ext bs1 H1 (bs1 ++ [Da]) H → HRel g (bs1 ++ [Da]) (h1 ++ [.lst ys]) H → Q (.ref Da) H) :
    ∀ Da, H1 Da = none → ∃ W : Nat → Nat → Hp → Prop, (∃ m, W 0 m (upd H1 Da (.lst []))) ∧ ∀ i m H, W i m H →
      (J.stop i H ∧ Q (.ref Da) H) ∨ (J.go i H ∧ ∃ Nx : Hp → Prop, (∀ H', Nx H' → ∃ m', m' < m ∧ W (i + 1) m' H') ∧ ∀ x H', J.yld i H x H' → t x (wipe σ vs) H' fun σ2 H2 => wipe σ2 vs = wipe σ vs ∧ tt σ2 H2 fun b H3 =>
        if b = true then te σ2 H3 fun y H4 => ∃ acc, H4 Da = some (.lst acc) ∧ acc.length < sizeLine ∧ Nx (upd H4 Da (.lst (acc ++ [y]))) else Nx H3) := by
  intro Da hD
  refine ⟨fun i m H => m = s.1.length - i ∧ i ≤ s.1.length ∧ ∃ acc, Ext bs1 H1 (bs1 ++ [Da]) H ∧ HRel g (bs1 ++ [Da]) (h1 ++ [.lst acc]) H ∧ compL h1 s.2 k ft fe (wipeE env vs) (s.1.drop i) acc = .ok ys h1,
    ⟨_, rfl, Nat.zero_le _, [], .newM hD, hr1.newM (o := .lst []) hD ⟨[], upd_same, .nil⟩, hc⟩, ?_⟩
  rintro i m H ⟨rfl, hil, acc, e, hr, hc⟩
  have eW : ∀ {bs H}, Ext bs1 H1 bs H → ERel g bs H (wipeE env vs) (wipe σ vs) := fun e => (er1.mono e).wipe vs
  -- back to the one cell
  have one : ∀ {bs : List Addr} {H' : Hp} {acc' : List Ev.D}, Ext (bs1 ++ [Da]) H bs H' → HRel g bs (h1 ++ [.lst acc']) H' → bs = bs1 ++ [Da] := fun {bs H' acc'} e r => by
    obtain ⟨⟨more, rfl, _⟩, _, _⟩ := e
    have := r.len
    simp only [List.length_append, List.length_cons, List.length_nil] at this
    have l1 := hr1.len
    have : more = [] := List.eq_nil_of_length_eq_zero (by omega)
    rw [this, List.append_nil]
  have atD : (bs1 ++ [Da])[h1.length]? = some Da := by rw [← hr1.len, List.getElem?_append_right (Nat.le_refl _), Nat.sub_self]; rfl
  by_cases hlt : i < s.1.length
  · refine .inr ?_
    rw [List.drop_eq_getElem_cons hlt, compL] at hc
    split at hc
    · rename_i kp
      obtain ⟨go, yl⟩ := (fd _ _ H e hr kp).1 i _ (List.getElem?_eq_getElem hlt)
      refine ⟨go, fun H' => ∃ acc, Ext bs1 H1 (bs1 ++ [Da]) H' ∧ HRel g (bs1 ++ [Da]) (h1 ++ [.lst acc]) H' ∧ compL h1 s.2 k ft fe (wipeE env vs) (s.1.drop (i + 1)) acc = .ok ys h1, fun H' z => ⟨_, by omega, rfl, hlt, z⟩, fun x H' y => ?_⟩
      obtain ⟨e2, hr2, rx⟩ := yl x H' y
      split at hc
      · cases hc
      · rename_i env1 hk
        refine hg x _ _ H' _ env1 _ _ _ rx (eW (e.trans e2)) hr2 hk fun σ' er' hw => ⟨by
          have z := hw vs hjs
          rw [z]
          have idem : ∀ us : List Nat, (∀ u ∈ us, u ∈ vs) → wipe (wipe σ us) vs = wipe σ vs := by
            intro us
            induction us with
            | nil => intro _; rfl
            | cons u us ih =>
              intro hu
              show wipe ((wipe σ us).set u none) vs = _
              rw [wipe_set (hu u List.mem_cons_self)]
              exact ih fun w hw => hu w (List.mem_cons_of_mem _ hw)
          exact idem vs fun _ z => z, ?_⟩
        refine ht σ' H' env1 _ _ _ er' hr2 ?_
        cases hft : ft env1 (h1 ++ [.lst acc]) with
        | bad => rw [hft] at hc; cases hc
        | err c fs h' => rw [hft] at hc; cases hc
        | ok b h2 =>
          rw [hft] at hc
          simp only [noErr_ok, R.bind_ok] at hc
          intro bs3 H3 b' e3 hr3 eb
          cases (show b' = b from eb)
          cases b with
          | true =>
            rw [if_pos rfl] at hc ⊢
            refine he σ' H3 env1 h2 bs3 _ (er'.mono e3) hr3 ?_
            cases hfe : fe env1 h2 with
            | bad => rw [hfe] at hc; cases hc
            | err c fs h' => rw [hfe] at hc; cases hc
            | ok y h3 =>
              rw [hfe] at hc
              simp only [noErr_ok, R.bind_ok] at hc
              split at hc
              · rename_i hh
                obtain ⟨rfl, hl⟩ := hh
                intro bs4 H4 vy e4 hr4 ry
                have eAll : Ext (bs1 ++ [Da]) H bs4 H4 := (e2.trans e3).trans e4
                have hb4 := one eAll hr4
                subst hb4
                have hcell : cellL (h1 ++ [.lst acc]) h1.length = some acc := by
                  unfold cellL
                  rw [List.getElem?_append_right (Nat.le_refl _), Nat.sub_self]
                  rfl
                obtain ⟨us, g1, g2⟩ := cell_ok hr4 atD hcell
                refine ⟨us, g1, by rw [← g2.length, big_eq]; exact hl, acc ++ [y], (e.trans eAll).trans (.cell hr4 atD), ?_, hc⟩
                have := hr4.cell (ho := .lst (us ++ [vy])) (o := .lst (acc ++ [y])) atD ⟨_, upd_same, (g2.append (.cons ry .nil)).mono (.cell hr4 atD)⟩
                rw [List.set_append_right _ _ (Nat.le_refl _), Nat.sub_self] at this
                exact this
              · cases hc
          | false =>
            rw [if_neg Bool.false_ne_true] at hc ⊢
            split at hc
            · rename_i hh
              subst hh
              have eAll := e2.trans e3
              have hb3 := one eAll hr3
              subst hb3
              exact ⟨acc, e.trans eAll, hr3, hc⟩
            · cases hc
    · cases hc
  · have hi : i = s.1.length := by omega
    subst hi
    rw [List.drop_length, compL] at hc
    split at hc
    · rename_i kp
      cases hc
      exact .inl ⟨(fd _ _ H e hr kp).2, hQ Da H hD e hr⟩
    · cases hc
theorem sim_comp {g : G} {vs : List Nat} (hi : Sim (relI g) g W wi fi) (hg : SimG g t k js) (ht : Sim relB g W0 tt ft) (he : Sim (relV g) g W0 te fe) (hjs : ∀ j ∈ js, j ∈ vs) : Sim (relV g) g W (tLc wi t tt te vs) (eComp fi k ft fe vs) :=
  fun σ H env h bs Q er hr p => hi.step er hr p fun s J bs1 H1 h1 e1 hr1 er1 fd p1 => by
    rcases compL_heap (hb := h1) (gs := s.2) (k := k) (tt := ft) (fe := fe) (env := wipeE env vs) (xs := s.1) (acc := []) with ⟨ys, hc⟩ | hc
    · rw [hc] at p1
      simp only [R.bind_ok] at p1
      split at p1
      · rename_i hn
        refine sim_comp_core hg ht he hjs er1 hr1 fd hc fun Da H2 hD e hr2 => ?_
        have np := hr1.out hD
        have hcell : cellL (h1 ++ [.lst ys]) h1.length = some ys := by
          unfold cellL
          rw [List.getElem?_append_right (Nat.le_refl _), Nat.sub_self]
          rfl
        obtain ⟨us, g1, g2⟩ := cell_ok hr2 (n := h1.length) (a := Da) (by rw [← hr1.len, List.getElem?_append_right (Nat.le_refl _), Nat.sub_self]; rfl) hcell
        exact p1 bs1 H2 _ ⟨⟨[], by simp, fun _ z => nomatch z⟩, e.keep, e.cel⟩ (hr1.pop hr2) (.lst np g1 (g2.shrink (by rw [hr1.len]; exact hn)))
      · exact p1.elim
    · rw [hc] at p1
      exact p1.elim
theorem sim_compM {g : G} {vs : List Nat} (hi : Sim (relI g) g W wi fi) (hg : SimG g t k js) (ht : Sim relB g W0 tt ft) (he : Sim (relV g) g W0 te fe) (hjs : ∀ j ∈ js, j ∈ vs) : Sim (relV g) g W (tLc wi t tt te vs) (eCompM fi k ft fe vs) :=
  fun σ H env h bs Q er hr p => hi.step er hr p fun s J bs1 H1 h1 e1 hr1 er1 fd p1 => by
    rcases compL_heap (hb := h1) (gs := s.2) (k := k) (tt := ft) (fe := fe) (env := wipeE env vs) (xs := s.1) (acc := []) with ⟨ys, hc⟩ | hc
    · rw [hc] at p1
      simp only [R.bind_ok] at p1
      exact sim_comp_core hg ht he hjs er1 hr1 fd hc fun Da H2 hD e hr2 => p1 _ H2 _ e hr2 (.ref (by rw [← hr1.len, List.getElem?_append_right (Nat.le_refl _), Nat.sub_self]; rfl))
    · rw [hc] at p1
      exact p1.elim
structure TsJ (ci : Nat → String × List String) (X : Cx) (ifs : List Expr) (t : TT) (f : En → Hs → R Bool) : Prop where
  pts : PTs X ifs t
  sim : Sim relB (X.g ci) W0 t f
def bYes : En → Hs → R Bool := fun _ h => .ok true h
theorem tsj_nil {ci} {X : Cx} : TsJ ci X [] tYes bYes := ⟨pts_nil, fun σ H env h bs Q er hr p => Post.ok_ p hr rfl⟩
theorem tsj_one {ci} {X : Cx} {c : Expr} {t : TT} {f : En → Hs → R Bool} (h : TJ ci X W0 c t f) : TsJ ci X [c] t f := ⟨pts_one h.pt, h.sim⟩
theorem ej_lc (hc : X.calm = true) (hN : X.N.Nodup) (hi : IJ ci X W tg iter wi fi) (ok : BlkOk X.N X.env.scope scope own) (hjs : ∀ j ∈ js, j ∈ own.map (·.2))
    (hg : ∀ (s : Shared) (H : Hp) (C : Addr) (cl : List (Str × Addr)) (fp : List Addr), GJ ci (X.blk s H scope (compEnvC scope cl C X.env) fp) tg t k js) (ht : ∀ (s : Shared) (H : Hp) (C : Addr) (cl : List (Str × Addr)) (fp : List Addr), TsJ ci (X.blk s H scope (compEnvC scope cl C X.env) fp) ifs tt ft)
    (he : ∀ (s : Shared) (H : Hp) (C : Addr) (cl : List (Str × Addr)) (fp : List Addr), EJ ci (X.blk s H scope (compEnvC scope cl C X.env) fp) W0 elt te fe) (hs : ∀ x, foldedSetIterable iter X.env x = pure x := by intro _; rfl) :
    EJ ci X W (.ListComp elt [⟨tg, iter, ifs, 0⟩] scope pos) (tLc wi t tt te (own.map (·.2))) (eComp fi k ft fe (own.map (·.2))) :=
  ⟨pe_lc hc hN hi.pi ok (fun s H C cl fp => (hg s H C cl fp).pg) (fun s H C cl fp => (ht s H C cl fp).pts) (fun s H C cl fp => (he s H C cl fp).pe) hs,
    sim_comp hi.sim (hg X.s_0 (fun _ => none) 0 [] []).sim (ht X.s_0 (fun _ => none) 0 [] []).sim (he X.s_0 (fun _ => none) 0 [] []).sim hjs⟩
end
end Ev
set_option Elab.async false
set_option linter.all false
set_option maxRecDepth 100000
set_option maxHeartbeats 4000000
namespace Ev
open PySem L2

/-! ### argument lists of own calls -/
abbrev VV2 := List V × List V
abbrev TC := St → Hp → (VV2 → Hp → Prop) → Prop
abbrev DD2 := List D × List D
abbrev relC (g : G) : List Addr → Hp → DD2 → VV2 → Prop := fun bs H d v => Reps g bs H d.1 v.1 ∧ Reps g bs H d.2 v.2
def CArgP (X : Cx) (es : List Expr) (kws : List Keyword) (ks : List Str) (t : TC) : Prop :=
  ∀ (pos : Pos) (fv : Value) (first : List Value) (pins : List (Addr × Obj)) (s : Shared) (σ : St) (H : Hp) (P : VV2 → Hp → Prop) (Qv : Value → Shared → Prop), PySem.W.keepIn X.K fv = true → Inv X pins σ H s → t σ H P →
    (∀ us ws vs zs s1 H1, Inv X pins σ H1 s1 → Vals vs us → Vals zs ws → zs.length = ks.length → P (vs, zs) H1 → wpAny (model X.prog X.w) X.A (call fv (first ++ us) (ks.zip ws)) Qv X.xe s1) →
    wpAny (model X.prog X.w) X.A (callWith pos fv first (backTo pos (starEach es X.env)) (backToKw pos (keywordEach kws X.env))) Qv X.xe s
structure CAJ (ci : Nat → String × List String) (X : Cx) (W : WX) (es : List Expr) (kws : List Keyword) (ks : List Str) (t : TC) (f : En → Hs → R DD2) : Prop where
  p : CArgP X es kws ks t
  sim : Sim (relC (X.g ci)) (X.g ci) W t f
def cNil : En → Hs → R DD2 := fun _ h => .ok ([], []) h
def cPos (fa : En → Hs → R (List D)) : En → Hs → R DD2 := fun env h => (fa env h).bind fun xs h1 => .ok (xs, []) h1
def cKw (n : Nat) (fa fk : En → Hs → R (List D)) : En → Hs → R DD2 := fun env h => (fa env h).bind fun xs h1 => (fk env h1).bind fun ys h2 => if ys.length = n then .ok (xs, ys) h2 else .bad
def cStar (fe : En → Hs → R D) : En → Hs → R DD2 := fun env h => (fe env h).bind fun x h1 => match seqOf h1 x with
  | some xs => .ok (xs, []) h1
  | none => .bad
structure KwJ (ci : Nat → String × List String) (X : Cx) (W : WX) (kws : List Keyword) (t : TA) (f : En → Hs → R (List D)) : Prop where
  pk : PK X kws t
  sim : Sim (relVs (X.g ci)) (X.g ci) W t f
section
variable {ci : Nat → String × List String} {X : Cx} {W : WX} {e : Expr} {es : List Expr} {kws : List Keyword} {t tk : TA} {te : TE} {fe : En → Hs → R D} {fa fk : En → Hs → R (List D)} {kpos p : Pos} {nm : Option Str} {ks : List Str}
theorem kwj_nil : KwJ ci X W [] tNil aNil := ⟨pk_nil, fun σ H env h bs Q er hr p => Post.ok_ p hr .nil⟩
theorem kwj_cons (ha : EJ ci X W e te fe) (hr : KwJ ci X W kws t fa) : KwJ ci X W (⟨nm, e, kpos⟩ :: kws) (tCons te t) (aCons fe fa) :=
  ⟨pk_cons ha.pe hr.pk, fun σ H env h bs Q er hr' p => ha.sim.step er hr' p fun x vx bs1 H1 h1 e1 hr1 er1 rx p1 => hr.sim.step er1 hr1 p1 fun xs vs bs2 H2 h2 e2 hr2 er2 rs p2 => Post.ok_ p2 hr2 (.cons (rx.mono e2) rs)⟩
theorem caj_nil : CAJ ci X W [] [] [] (fun _ H Q => Q ([], []) H) cNil :=
  ⟨fun pos fv first pins s σ H P Qv hk I h k => PySem.W.callWith_K0 I.kIn hk (k [] [] [] [] s H I .nil .nil rfl h), fun σ H env h bs Q er hr p => Post.ok_ p hr ⟨.nil, .nil⟩⟩
theorem caj_pos (ha : AJ ci X W (e :: es) t fa) (he : starEach (e :: es) X.env = (false, eval e X.env) :: starEach es X.env := by rfl) (hpl : ∀ pos, (backTo pos (starEach es X.env)).any (·.1) = false := by intro _; rfl) :
    CAJ ci X W (e :: es) [] [] (fun σ H Q => t σ H fun vs H1 => Q (vs, []) H1) (cPos fa) :=
  ⟨fun pos fv first pins s σ H P Qv hk I h k => PySem.W.callWith_K (h₀ := X.base) I.ok.mod.kin hk (thn (ha.pa.run pos pins s σ H _ I h) fun us s1 ⟨vs, H1, I1, r, q⟩ => ⟨I1.kIn, k us [] vs [] s1 H1 I1 r .nil rfl q⟩) he (hpl pos),
    fun σ H env h bs Q er hr p => ha.sim.step er hr p fun xs vs bs1 H1 h1 e1 hr1 er1 rs p1 => Post.ok_ p1 hr1 ⟨rs, .nil⟩⟩
theorem caj_posS (ha : AJ ci X W (e :: es) t fa) (he : starEach (e :: es) X.env = (false, eval e X.env) :: starEach es X.env := by rfl) (hst : ∀ pos, (backTo pos (starEach es X.env)).any (·.1) = true := by intro _; rfl) :
    CAJ ci X W (e :: es) [] [] (fun σ H Q => t σ H fun vs H1 => Q (vs, []) H1) (cPos fa) :=
  ⟨fun pos fv first pins s σ H P Qv hk I h k => PySem.W.callWith_S2 (h₀ := X.base) I.ok.mod.kin hk (thn (ha.pa.run pos pins s σ H _ I h) fun us s1 ⟨vs, H1, I1, r, q⟩ => ⟨I1.kIn, k us [] vs [] s1 H1 I1 r .nil rfl q⟩) he (hst pos),
    fun σ H env h bs Q er hr p => ha.sim.step er hr p fun xs vs bs1 H1 h1 e1 hr1 er1 rs p1 => Post.ok_ p1 hr1 ⟨rs, .nil⟩⟩
theorem caj_star (he : EJ ci X W e te fe) (hst : starEach [.Starred e p] X.env = [(true, eval e X.env)] := by rfl) :
    CAJ ci X W [.Starred e p] [] [] (fun σ H Q => te σ H fun y H1 => ∃ a xs, y = V.ref a ∧ (SqT X.K H1 a xs ∨ SqL X.K H1 a xs) ∧ Q (xs, []) H1) (cStar fe) :=
  ⟨fun pos fv first pins s σ H P Qv hk I h k => PySem.W.callWith_S (h₀ := X.base) I.ok.mod.kin hk (thn (he.pe.run pins s σ H _ I h) fun v s1 ⟨y, H1, I1, ry, a, xs, ey, hxs, q⟩ => by
      subst ey
      obtain rfl : v = Value.ref a := ry
      exact StX.star_any I1 hxs fun us s2 I2 rv => ⟨I2.kIn, k us [] xs [] s2 H1 I2 rv .nil rfl q⟩) hst,
    fun σ H env h bs Q er hr p => he.sim.step er hr p fun x vx bs1 H1 h1 e1 hr1 er1 rx p1 => by
      split at p1
      · rename_i xs hx
        obtain ⟨a, vs, rfl, hs, rs⟩ := seqOf_ok hr1 rx hx
        exact ⟨a, vs, rfl, hs.symm, Post.ok_ p1 hr1 ⟨rs, .nil⟩⟩
      · exact p1.elim⟩
theorem caj_kw0 (hkw : KwJ ci X W kws tk fk) (hall : ∀ pos, (backToKw pos (keywordEach kws X.env)).all (·.1.isSome) = true := by intro _; rfl) (hks : ∀ pos, (backToKw pos (keywordEach kws X.env)).filterMap (·.1) = ks := by intro _; rfl)
    (hpl : ∀ pos, ((backTo pos (starEach [] X.env)).any (·.1) || (backToKw pos (keywordEach kws X.env)).any (·.1.isNone)) = false := by intro _; rfl) :
    CAJ ci X W [] kws ks (fun σ H Q => tk σ H fun zs H1 => zs.length = ks.length ∧ Q ([], zs) H1) (cKw ks.length aNil fk) :=
  ⟨fun pos fv first pins s σ H P Qv hk I h k => PySem.W.callWith_KW0 (h₀ := X.base) I.ok.mod.kin hk (hall pos) (thn (hkw.pk.run pos pins s σ H _ I h) fun ws s2 ⟨zs, H2, I2, rz, l2, q2⟩ => ⟨I2.kIn, by
      rw [hks pos]
      exact k [] ws [] zs s2 H2 I2 .nil rz l2 q2⟩) (hpl pos),
    fun σ H env h bs Q er hr p => hkw.sim.step er hr (k := fun ys h2 => if ys.length = ks.length then R.ok ([], ys) h2 else .bad) p fun xs vs bs1 H1 h1 e1 hr1 er1 rs p1 => by
      split at p1
      · rename_i hl
        exact ⟨by rw [← rs.length]; exact hl, Post.ok_ p1 hr1 ⟨.nil, rs⟩⟩
      · exact p1.elim⟩
theorem caj_kw (ha : AJ ci X W (e :: es) t fa) (hkw : KwJ ci X W kws tk fk) (hall : ∀ pos, (backToKw pos (keywordEach kws X.env)).all (·.1.isSome) = true := by intro _; rfl) (hks : ∀ pos, (backToKw pos (keywordEach kws X.env)).filterMap (·.1) = ks := by intro _; rfl)
    (he : starEach (e :: es) X.env = (false, eval e X.env) :: starEach es X.env := by rfl) (hpl : ∀ pos, ((backTo pos (starEach (e :: es) X.env)).any (·.1) || (backToKw pos (keywordEach kws X.env)).any (·.1.isNone)) = false := by intro _; rfl) :
    CAJ ci X W (e :: es) kws ks (fun σ H Q => t σ H fun vs H1 => tk σ H1 fun zs H2 => zs.length = ks.length ∧ Q (vs, zs) H2) (cKw ks.length fa fk) :=
  ⟨fun pos fv first pins s σ H P Qv hk I h k => PySem.W.callWith_KW (h₀ := X.base) I.ok.mod.kin hk (hall pos) (thn (ha.pa.run pos pins s σ H _ I h) fun us s1 ⟨vs, H1, I1, r, q⟩ => thn (hkw.pk.run pos pins s1 σ H1 _ I1 q) fun ws s2 ⟨zs, H2, I2, rz, l2, q2⟩ => ⟨I2.kIn, by
      rw [hks pos]
      exact k us ws vs zs s2 H2 I2 r rz l2 q2⟩) (hpl pos) he,
    fun σ H env h bs Q er hr p => ha.sim.step er hr p fun xs vs bs1 H1 h1 e1 hr1 er1 rs p1 => hkw.sim.step er1 hr1 p1 fun ys zs bs2 H2 h2 e2 hr2 er2 rz p2 => by
      split at p2
      · rename_i hl
        exact ⟨by rw [← rz.length]; exact hl, Post.ok_ p2 hr2 ⟨rs.mono e2, rz⟩⟩
      · exact p2.elim⟩
end

/-! ### own defs -/
/-- what a def is worth: the parameters' values in order -/
def spG (g : G) (n : Nat) (f : List D → Hs → R D) : Sp := fun vs H Q E => ∃ bs h ds, ds.length = n ∧ HRel g bs h H ∧ Reps g bs H ds vs ∧ Post (relV g) g (fun C d H' => E C d H') bs H (f ds h) Q
def runB (m : Nat) (fb : En → Hs → S) : List D → Hs → R D := fun ds h => match fb (ds.map some ++ List.replicate (m - ds.length) none) h with
  | .nx _ h' => .ok .non h'
  | .ret d h' => .ok d h'
  | .err c fs _ h' => .err c fs h'
  | _ => .bad
theorem ERel.start {g : G} {bs : List Addr} {H : Hp} {N : List Str} {ds : List D} {vs : List V} (r : Reps g bs H ds vs) : ERel g bs H (ds.map some ++ List.replicate (N.length - ds.length) none) (start N vs) := by
  have hl := r.length
  refine ⟨by unfold L2.start; simp [hl], fun i d hi => ?_⟩
  by_cases hlt : i < ds.length
  · rw [List.getElem?_append_left (by simpa using hlt), List.getElem?_map] at hi
    cases hd : ds[i]? with
    | none => rw [hd] at hi; cases hi
    | some d' =>
      rw [hd] at hi
      cases hi
      obtain ⟨v, h1, h2⟩ := r.get hd
      refine ⟨v, ?_, h2⟩
      unfold L2.start
      rw [List.getElem?_append_left (by rw [List.length_map, ← hl]; exact hlt), List.getElem?_map, h1]
      rfl
  · rw [List.getElem?_append_right (by simpa using hlt), List.getElem?_replicate] at hi
    split at hi <;> cases hi
section
variable {ci : Nat → String × List String} {P : Program} {w : World} {K : PySem.W.Frag} {mg : Str → Option Value} {base : Heap} {x qual : Str} {st : Stmt} {f : Addr} {fd : FuncData} {N ps : List Str} {k : Nat} {fb : En → Hs → S} {dvs : List V} {kws : List (Str × V)}
abbrev bodyCx (P : Program) (w : World) (K : PySem.W.Frag) (mg : Str → Option Value) (base : Heap) (N : List Str) (qual : Str) (st : Stmt) (f : Addr) (cdv : Value) (A : Around) (outer : List Env) (s : Shared) (H : Hp) (E : XK) : Cx := cxOf (L2.CX P w) P w K mg base N qual (defScope st) f cdv A outer s H E
abbrev bodyW (E : XK) : WX := fun C d _ H => E C d H
theorem post_body {g : G} {E : XK} {bs : List Addr} {h : Hs} {H : Hp} {ds : List D} {vs : List V} {Q : VK} {t : TS} {N : List Str} (hs : SimS g (bodyW E) t fb) (hr : HRel g bs h H) (r : Reps g bs H ds vs) (p : Post (relV g) g (fun C d H' => E C d H') bs H (runB N.length fb ds h) Q) :
    t { nx := fun _ H' => Q .non H', rt := Q } (start N vs) H := by
  refine hs _ H _ h bs _ (ERel.start r) hr ?_
  unfold runB at p
  cases hf : fb (ds.map some ++ List.replicate (N.length - ds.length) none) h with
  | nx env h' => rw [hf] at p; exact fun bs' H' σ' e r _ => p bs' H' .non e r .non
  | ret d h' => rw [hf] at p; exact p
  | brk env h' => rw [hf] at p; exact p.elim
  | ct env h' => rw [hf] at p; exact p.elim
  | err c fs env h' => rw [hf] at p; exact fun C dd bs' H' σ' e r _ z => p C dd bs' H' e r z
  | bad => rw [hf] at p; exact p
theorem fn_body (F : Fun K x qual st f fd) (S : FnScope N ps (defScope st))
    (hb : ∀ (cdv : Value) (A : Around) (outer : List Env) (s : Shared) (H : Hp) (E : XK), Room k (A.deeper (PyProof.Rows.envOfC qual (defScope st) s.heap.objs.size f cdv)) → ∃ t, SsJ ci (bodyCx P w K mg base N qual st f cdv A outer s H E) (bodyW E) (defBody st) t fb) :
    FnOk P w K mg base (L2.CX P w) (k + 1) f fd ps (spG ⟨K, mg, ci⟩ ps.length (runB N.length fb)) := by
  refine F.okX S (fun vs H Q E h => ?_) (fun cdv A outer s H vs Q E hr h => ?_)
  · obtain ⟨bs, h, ds, hl, _, r, _⟩ := h
    rw [← r.length, hl]
  · obtain ⟨bs, hh, ds, hl, hrl, r, p⟩ := h
    obtain ⟨t, hj⟩ := hb cdv A outer s H E hr
    exact ⟨t, hj.pss, post_body hj.sim hrl r p⟩
theorem fn_bodyD (F : FunD K x qual (defArgs st) (defBody st) (defScope st) dvs kws f fd) (S : FnScope N ps (defScope st))
    (hb : ∀ (cdv : Value) (A : Around) (outer : List Env) (s : Shared) (H : Hp) (E : XK), Room k (A.deeper (PyProof.Rows.envOfC qual (defScope st) s.heap.objs.size f cdv)) → ∃ t, SsJ ci (bodyCx P w K mg base N qual st f cdv A outer s H E) (bodyW E) (defBody st) t fb) :
    FnOk P w K mg base (L2.CX P w) (k + 1) f fd ps (spG ⟨K, mg, ci⟩ ps.length (runB N.length fb)) := by
  refine F.ok S (fun vs H Q E h => ?_) (fun cdv A outer s H vs Q E hr h => ?_)
  · obtain ⟨bs, h, ds, hl, _, r, _⟩ := h
    rw [← r.length, hl]
  · obtain ⟨bs, hh, ds, hl, hrl, r, p⟩ := h
    obtain ⟨t, hj⟩ := hb cdv A outer s H E hr
    exact ⟨t, hj.pss, post_body hj.sim hrl r p⟩
end
/-- a call: positional values, keywords named ks -/
structure FnC (ci : Nat → String × List String) (P : Program) (w : World) (K : PySem.W.Frag) (mg : Str → Option Value) (base : Heap) (k : Nat) (f : Addr) (ks : List Str) (F : List D → List D → Hs → R D) : Prop where
  run : ∀ (A : Around) (outer : List Env) (s : Shared) (H : Hp) (us ws : List Value) (vs zs : List V) (Q : VK) (E : XK), Room k A → Env0 P w K mg base A outer s H → Vals vs us → Vals zs ws → zs.length = ks.length →
    (∃ bs h ds es, HRel ⟨K, mg, ci⟩ bs h H ∧ Reps ⟨K, mg, ci⟩ bs H ds vs ∧ Reps ⟨K, mg, ci⟩ bs H es zs ∧ Post (relV ⟨K, mg, ci⟩) ⟨K, mg, ci⟩ (fun C d H' => E C d H') bs H (F ds es h) Q) →
    codeAny (model P w) A (.call (.ref f) ⟨us, ks.zip ws⟩) (CR (L2.CX P w) outer P w H s Q E) s
section
variable {ci : Nat → String × List String} {P : Program} {w : World} {K : PySem.W.Frag} {mg : Str → Option Value} {base : Heap} {f : Addr} {fd : FuncData} {ps ks : List Str} {j k n : Nat} {F F' : List D → List D → Hs → R D} {G : List D → Hs → R D}
theorem FnC.mono (h : FnC ci P w K mg base j f ks F) (hk : j ≤ k) : FnC ci P w K mg base k f ks F := ⟨fun A outer s H us ws vs zs Q E hr => h.run A outer s H us ws vs zs Q E (hr.mono hk)⟩
/-- what it is worth told otherwise, where it is asked -/
theorem FnC.imp (h : FnC ci P w K mg base k f ks F) (e : ∀ ds es hh, F' ds es hh = .bad ∨ F ds es hh = F' ds es hh) : FnC ci P w K mg base k f ks F' :=
  ⟨fun A outer s H us ws vs zs Q E hr e0 r rz hz ⟨bs, hh, ds, es, h1, h2, h3, p⟩ => h.run A outer s H us ws vs zs Q E hr e0 r rz hz ⟨bs, hh, ds, es, h1, h2, h3, by
    rcases e ds es hh with z | z
    · rw [z] at p; exact p.elim
    · rw [z]; exact p⟩⟩
/-- every parameter is given, by place -/
def posF (n : Nat) (G : List D → Hs → R D) : List D → List D → Hs → R D := fun ds _ h => if ds.length = n then G ds h else .bad
theorem FnC.pos (h : FnOk P w K mg base (L2.CX P w) k f fd ps (spG ⟨K, mg, ci⟩ n G)) (hb : Binds K fd ps []) : FnC ci P w K mg base k f [] (posF n G) := by
  refine ⟨fun A outer s H us ws vs zs Q E hr e0 r rz hz ⟨bs, hh, ds, es, h1, h2, h3, p⟩ => ?_⟩
  unfold posF at p
  split at p
  · rename_i hl
    have sp : spG ⟨K, mg, ci⟩ n G vs H Q E := ⟨bs, hh, ds, hl, h1, h2, p⟩
    have hlen := h.len _ _ _ _ sp
    have KX : K.In s.heap := e0.mod.kin.keeps fun b o e => (e0.bs b o e).1
    have b := hb s us KX (by rw [List.append_nil, ← r.length]; exact hlen)
    rw [List.append_nil] at b
    exact h.run A outer s H ⟨us, [].zip ws⟩ us vs Q E hr e0 b r sp
  · exact p.elim
/-- by places, names and defaults: gD tells the parameters' values -/
def kwF (n m : Nat) (gD : List D → List D → List D) (G : List D → Hs → R D) : List D → List D → Hs → R D := fun ds es h => if ds.length = n ∧ es.length = m then G (gD ds es) h else .bad
theorem FnC.kw {gv : List Value → List Value → List Value} {gV : List V → List V → List V} {gD : List D → List D → List D} (np : Nat) (h : FnOk P w K mg base (L2.CX P w) k f fd ps (spG ⟨K, mg, ci⟩ n G)) (hb : KBn K fd ps np ks gv gV)
    (hg : ∀ {bs : List Addr} {H : Hp} {ds es : List D} {vs zs : List V}, Reps ⟨K, mg, ci⟩ bs H ds vs → Reps ⟨K, mg, ci⟩ bs H es zs → ds.length = np → es.length = ks.length → Reps ⟨K, mg, ci⟩ bs H (gD ds es) (gV vs zs) ∧ (gD ds es).length = n) : FnC ci P w K mg base k f ks (kwF np ks.length gD G) := by
  refine ⟨fun A outer s H us ws vs zs Q E hr e0 r rz hz ⟨bs, hh, ds, es, h1, h2, h3, p⟩ => ?_⟩
  unfold kwF at p
  split at p
  · rename_i hl
    obtain ⟨g1, g2⟩ := hg h2 h3 hl.1 hl.2
    have KX : K.In s.heap := e0.mod.kin.keeps fun b o e => (e0.bs b o e).1
    exact h.run A outer s H ⟨us, ks.zip ws⟩ _ (gV vs zs) Q E hr e0 (hb.to s us ws KX (by rw [← r.length, ← h2.length]; exact hl.1) (by rw [← rz.length]; exact hz)) (hb.rel r rz) ⟨bs, hh, _, g2, h1, g1, p⟩
  · exact p.elim
/-- .. positional values ahead of a star parameter -/
def starF (n : Nat) (G : List D → Hs → R D) : List D → List D → Hs → R D := fun ds _ h => if n ≤ ds.length ∧ (ds.drop n).length ≤ big then G (ds.take n ++ [.tup (ds.drop n)]) h else .bad
theorem FnC.star {np : Nat} (hps : ps.length = np) (h : L2.FnR P w K mg base (L2.CX P w) k f (fun vs H Q E => ∃ ws rest, vs = ws ++ rest ∧ ws.length = ps.length ∧ rest.length ≤ sizeLine ∧ ∀ p, H p = Option.none → spG ⟨K, mg, ci⟩ (np + 1) G (ws ++ [V.ref p]) (upd H p (.tup rest)) Q E)) : FnC ci P w K mg base k f [] (starF np G) := by
  refine ⟨fun A outer s H us ws vs zs Q E hr e0 r rz hz ⟨bs, hh, ds, es, h1, h2, h3, p⟩ => ?_⟩
  unfold starF at p
  split at p
  · rename_i hl
    refine h A outer s H us vs Q E hr e0 r ⟨vs.take np, vs.drop np, (List.take_append_drop _ _).symm, by rw [List.length_take, ← h2.length, hps]; omega, by rw [← (h2.drop np).length, big_eq]; exact hl.2, fun q hq => ?_⟩
    refine ⟨bs, hh, ds.take np ++ [.tup (ds.drop np)], by rw [List.length_append, List.length_take]; simp; omega, h1.new hq, ((h2.take np).mono (.new hq)).append (.cons (.tup (.inl ⟨h1.out hq, .inl upd_same⟩) ((h2.drop np).mono (.new hq))) .nil), Post.mono (.new hq) p⟩
  · exact p.elim
end
section
variable {ci : Nat → String × List String} {X : Cx} {W : WX} {k : Nat} {f C : Addr} {x m : Str} {p pos apos : Pos} {e o : Expr} {es : List Expr} {kws : List Keyword} {ks : List Str} {t : TC} {to : TE} {fc : En → Hs → R DD2} {fo : En → Hs → R D} {F : List D → List D → Hs → R D}
/-- the callee runs -/
def Asks (g : G) (E : XK) (F : List D → List D → Hs → R D) (vs zs : List V) (H : Hp) (Q : VK) : Prop := ∃ bs h ds es, HRel g bs h H ∧ Reps g bs H ds vs ∧ Reps g bs H es zs ∧ Post (relV g) g (fun C d H' => E C d H') bs H (F ds es h) Q
theorem run_c (hF : FnC ci X.prog X.w X.K X.mg X.base k f ks F) (hr : Room k X.A) (tk : Takes X W) {pins : List (Addr × Obj)} {σ : St} {H : Hp} {s : Shared} {Q : VK} {us ws : List Value} {vs zs : List V} (I : Inv X pins σ H s) (r : Vals vs us) (rz : Vals zs ws) (hz : zs.length = ks.length)
    (h : Asks (X.g ci) (WE W σ) F vs zs H Q) : wpAny (model X.prog X.w) X.A (call (.ref f) us (ks.zip ws)) (EP X pins σ Q) X.xe s := by
  refine wpAny_call (codeAny_mono (hF.run X.A X.stack s H us ws vs zs Q (WE W σ) hr I.env0 r rz hz h) fun r s' hq => ?_)
  cases r with
  | error e => exact passAt tk σ pins H s e s' I hq
  | ok fl =>
    cases fl with
    | ret u => exact I.after hq
    | next => exact False.elim hq
    | brk => exact False.elim hq
    | cont => exact False.elim hq
def tCallC (g : G) (W : WX) (F : List D → List D → Hs → R D) (t : TC) : TE := fun σ H Q => t σ H fun v H1 => Asks g (WE W σ) F v.1 v.2 H1 Q
def eCallC (F : List D → List D → Hs → R D) (fc : En → Hs → R DD2) : En → Hs → R D := fun env h => (fc env h).bind fun d h1 => F d.1 d.2 h1
/-- f(..) -/
theorem ej_call (hF : FnC ci X.prog X.w X.K X.mg X.base k f ks F) (hr : Room k X.A) (tk : Takes X W) (hg : Gl X x) (hm : X.mg x = some (.ref f)) (hk : PySem.W.keepIn X.K (.ref f) = true) (ha : CAJ ci X W es kws ks t fc) (hdb : (x == ("__debug__" : Str)) = false := by decide) :
    EJ ci X W (.Call (.Name x p) es kws pos) (tCallC (X.g ci) W F t) (eCallC F fc) :=
  ⟨⟨fun pins s σ H Q I h => wpAny_Call_Name_kw (ld_glob I hg hm (ha.p pos (.ref f) [] pins s σ H _ _ hk I h fun us ws vs zs s1 H1 I1 r rz hz q => run_c hF hr tk I1 r rz hz q) hdb)⟩,
    fun σ H env h bs Q er hr' p => ha.sim.step er hr' p fun d v bs1 H1 h1 e1 hr1 er1 rd p1 => ⟨bs1, h1, d.1, d.2, hr1, rd.1, rd.2, p1⟩⟩
/-! ### instances made -/
theorem run_mk (M : Mk X.K C f) (hF : FnC ci X.prog X.w X.K X.mg X.base k f ks F) (hr : Room (k + 1) X.A) (tk : Takes X W) {pins : List (Addr × Obj)} {σ : St} {H : Hp} {s : Shared} {Q : VK} {us ws : List Value} {vs zs : List V} (I : Inv X pins σ H s) (r : Vals vs us) (rz : Vals zs ws) (hz : zs.length = ks.length)
    (h : ∀ x dx, H x = none → H dx = none → dx ≠ x → Asks (X.g ci) (WE W σ) F (.ref x :: vs) zs (upd (upd H dx (.own x)) x (.ins C dx [])) (fun v H2 => v = .non ∧ Q (.ref x) H2)) :
    wpAny (model X.prog X.w) X.A (call (.ref C) us (ks.zip ws)) (EP X pins σ Q) X.xe s := by
  have hq := h (s.heap.objs.size + 1) s.heap.objs.size (I.hok.fresh (Nat.le_succ _)) (I.hok.fresh (Nat.le_refl _)) (Nat.ne_of_lt (Nat.lt_succ_self _))
  have I2 := Inv.made (C := C) I
  have r1 : Vals (V.ref (s.heap.objs.size + 1) :: vs) (Value.ref (s.heap.objs.size + 1) :: us) := .cons rfl r
  refine wpAny_call (make_map (f := f) I.kIn M.makes M.init (beq_iff_eq.mp M.fn) (codeAny_mono (hF.run _ X.stack _ _ (Value.ref (s.heap.objs.size + 1) :: us) ws _ zs _ (WE W σ) (hr.make C us (ks.zip ws))
    (I2.env0.make C us (ks.zip ws)) r1 rz hz hq) fun r s' hq' => ?_))
  cases r with
  | error e => exact passAt tk σ pins _ _ e s' I2 hq'
  | ok fl =>
    cases fl with
    | ret u =>
      obtain ⟨v, H', I3, rv, ev, q3⟩ := I2.after hq'
      subst ev
      exact ⟨rv, ⟨V.ref (s.heap.objs.size + 1), H', I3, rfl, q3⟩⟩
    | next => exact False.elim hq'
    | brk => exact False.elim hq'
    | cont => exact False.elim hq'
def tMakeC (g : G) (W : WX) (c : Nat) (F : List D → List D → Hs → R D) (t : TC) : TE := fun σ H Q => t σ H fun v H1 => ∃ C, IsCls g c C ∧ ∀ x dx, H1 x = none → H1 dx = none → dx ≠ x →
  Asks g (WE W σ) F (.ref x :: v.1) v.2 (upd (upd H1 dx (.own x)) x (.ins C dx [])) (fun y H2 => y = .non ∧ Q (.ref x) H2)
theorem pe_makeC {c : Nat} (M : Mk X.K C f) (hF : FnC ci X.prog X.w X.K X.mg X.base k f ks F) (hr : Room (k + 1) X.A) (tk : Takes X W) (hg : Gl X x) (hm : X.mg x = some (.ref C)) (hx : x = Str.ofString (ci c).1) (ha : CArgP X es kws ks t) (hdb : (x == ("__debug__" : Str)) = false := by decide) :
    PE X (.Call (.Name x p) es kws pos) (tMakeC (X.g ci) W c F t) :=
  ⟨fun pins s σ H Q I h => wpAny_Call_Name_kw (ld_glob I hg hm (ha pos (.ref C) [] pins s σ H _ _ M.kp I h fun us ws vs zs s1 H1 I1 r rz hz ⟨C', hC, q⟩ => by
    have hC' : X.mg (Str.ofString (ci c).1) = some (.ref C') := hC
    rw [← hx, hm] at hC'
    cases hC'
    exact run_mk M hF hr tk I1 r rz hz q) hdb)⟩
/-- C(..): one that may change; one that never changes -/
def eMakeM (c : Nat) (F : List D → List D → Hs → R D) (fc : En → Hs → R DD2) : En → Hs → R D := fun env h => (fc env h).bind fun d h1 => (F (.ref h1.length :: d.1) d.2 (h1 ++ [.ins c []])).bind fun v h2 => match v with
  | .non => .ok (.ref h1.length) h2
  | _ => .bad
open Classical in
noncomputable def eMake (c : Nat) (F : List D → List D → Hs → R D) (fc : En → Hs → R DD2) : En → Hs → R D := fun env h => (fc env h).bind fun d h1 => (F (.ref h1.length :: d.1) d.2 (h1 ++ [.ins c []])).bind fun v h2 => match v with
  | .non => match h2[h1.length]? with
    | some (.ins c' fs) => if h2 = h1 ++ [.ins c' fs] ∧ D.nrs h1.length fs = true then .ok (.obj c' fs) h1 else .bad
    | _ => .bad
  | _ => .bad
theorem two_new {g : G} {bs : List Addr} {h : Hs} {H : Hp} {x dx : Addr} {C : Addr} {c : Nat} (hr : HRel g bs h H) (hx : H x = none) (hd : H dx = none) (ne : dx ≠ x) (hc : IsCls g c C) :
    Ext bs H (bs ++ [x]) (upd (upd H dx (.own x)) x (.ins C dx [])) ∧ HRel g (bs ++ [x]) (h ++ [.ins c []]) (upd (upd H dx (.own x)) x (.ins C dx [])) := by
  have hx' : upd H dx (.own x) x = none := by rw [upd_ne (Ne.symm ne)]; exact hx
  exact ⟨(Ext.new hd).trans (.newM hx'), (hr.new hd).newM hx' ⟨C, dx, [], hc, upd_same, rfl, .nil⟩⟩
theorem sim_makeM {g : G} {c : Nat} (hc : IsCls g c C) (ha : Sim (relC g) g W t fc) : Sim (relV g) g W (tMakeC g W c F t) (eMakeM c F fc) :=
  fun σ H env h bs Q er hr' p => ha.step er hr' p fun d v bs1 H1 h1 e1 hr1 er1 rd p1 => ⟨C, hc, fun x dx hx hd ne => by
    obtain ⟨e2, hr2⟩ := two_new hr1 hx hd ne hc
    refine ⟨bs1 ++ [x], h1 ++ [.ins c []], .ref h1.length :: d.1, d.2, hr2, .cons (.ref (by rw [← hr1.len, List.getElem?_append_right (Nat.le_refl _), Nat.sub_self]; rfl)) (rd.1.mono e2), rd.2.mono e2, ?_⟩
    have p2 := Post.mono e2 p1
    cases hf : F (.ref h1.length :: d.1) d.2 (h1 ++ [.ins c []]) with
    | bad => rw [hf] at p2; exact p2
    | err c fs h' => rw [hf] at p2; exact p2
    | ok y h2 =>
      rw [hf] at p2
      simp only [R.bind_ok] at p2
      intro bs3 H3 vy e3 hr3 ry
      cases ry with
      | non =>
        refine ⟨rfl, p2 bs3 H3 _ e3 hr3 (.ref (e3.get ?_))⟩
        rw [← hr1.len, List.getElem?_append_right (Nat.le_refl _), Nat.sub_self]; rfl
      | _ => exact p2.elim⟩
theorem sim_make {g : G} {c : Nat} (hc : IsCls g c C) (ha : Sim (relC g) g W t fc) : Sim (relV g) g W (tMakeC g W c F t) (eMake c F fc) :=
  fun σ H env h bs Q er hr' p => ha.step er hr' p fun d v bs1 H1 h1 e1 hr1 er1 rd p1 => ⟨C, hc, fun x dx hx hd ne => by
    obtain ⟨e2, hr2⟩ := two_new hr1 hx hd ne hc
    have atx : (bs1 ++ [x])[h1.length]? = some x := by rw [← hr1.len, List.getElem?_append_right (Nat.le_refl _), Nat.sub_self]; rfl
    refine ⟨bs1 ++ [x], h1 ++ [.ins c []], .ref h1.length :: d.1, d.2, hr2, .cons (.ref atx) (rd.1.mono e2), rd.2.mono e2, ?_⟩
    have p1' : Post (relV g) g (fun C d H' => W C d σ H') bs1 H1 ((F (.ref h1.length :: d.1) d.2 (h1 ++ [.ins c []])).bind _) Q := p1
    cases hf : F (.ref h1.length :: d.1) d.2 (h1 ++ [.ins c []]) with
    | bad => rw [hf] at p1'; exact p1'
    | err c fs h' => rw [hf] at p1'; exact fun C dd bs' H' e => p1' C dd bs' H' (e2.trans e)
    | ok y h2 =>
      rw [hf] at p1'
      simp only [R.bind_ok] at p1'
      intro bs3 H3 vy e3 hr3 ry
      cases ry with
      | non =>
        refine ⟨rfl, ?_⟩
        dsimp only at p1'
        split at p1'
        · rename_i c' fs hi
          split at p1'
          · rename_i hh
            obtain ⟨rfl, hn⟩ := hh
            obtain ⟨⟨more, rfl, _⟩, _, _⟩ := id e3
            have hl := hr3.len
            simp only [List.length_append, List.length_cons, List.length_nil, hr1.len] at hl
            obtain rfl : more = [] := List.eq_nil_of_length_eq_zero (by omega)
            rw [List.append_nil] at hr3 e3
            obtain ⟨a', g1, C', dx', fvs, g2, g3, g4, g5⟩ := hr3.at_ _ _ hi
            rw [atx] at g1
            cases g1
            have eAll := e2.trans e3
            exact p1' bs1 H3 _ ⟨⟨[], by simp, fun _ z => nomatch z⟩, eAll.keep, eAll.cel⟩ (hr1.pop hr3) (.obj (hr1.out hx) g2 g3 g4 (g5.shrink (by rw [hr1.len]; exact hn)))
          · exact p1'.elim
        · exact p1'.elim
      | _ => exact p1'.elim⟩
/-- a class of one's own: its call with such arguments -/
def MakeC (ci : Nat → String × List String) (P : Program) (w : World) (K : PySem.W.Frag) (mg : Str → Option Value) (base : Heap) (c k : Nat) (ks : List Str) (F : List D → List D → Hs → R D) : Prop :=
  ∃ C f, mg (Str.ofString (ci c).1) = some (.ref C) ∧ Mk K C f ∧ FnC ci P w K mg base k f ks F
theorem ej_makeM (c : Nat) (h : MakeC ci X.prog X.w X.K X.mg X.base c k ks F) (hr : Room (k + 1) X.A) (tk : Takes X W) (ha : CAJ ci X W es kws ks t fc) (hx : x = Str.ofString (ci c).1 := by rfl) (hg : Gl X x := by rfl) (hdb : (x == ("__debug__" : Str)) = false := by decide) :
    EJ ci X W (.Call (.Name x p) es kws pos) (tMakeC (X.g ci) W c F t) (eMakeM c F fc) := by
  obtain ⟨C, f, h1, h2, h3⟩ := h
  exact ⟨pe_makeC h2 h3 hr tk hg (by rw [hx]; exact h1) hx ha.p hdb, sim_makeM h1 ha.sim⟩
theorem ej_make (c : Nat) (h : MakeC ci X.prog X.w X.K X.mg X.base c k ks F) (hr : Room (k + 1) X.A) (tk : Takes X W) (ha : CAJ ci X W es kws ks t fc) (hx : x = Str.ofString (ci c).1 := by rfl) (hg : Gl X x := by rfl) (hdb : (x == ("__debug__" : Str)) = false := by decide) :
    EJ ci X W (.Call (.Name x p) es kws pos) (tMakeC (X.g ci) W c F t) (eMake c F fc) := by
  obtain ⟨C, f, h1, h2, h3⟩ := h
  exact ⟨pe_makeC h2 h3 hr tk hg (by rw [hx]; exact h1) hx ha.p hdb, sim_make h1 ha.sim⟩
/-- a def of the module: its call with such arguments -/
def NameC (ci : Nat → String × List String) (P : Program) (w : World) (K : PySem.W.Frag) (mg : Str → Option Value) (base : Heap) (x : Str) (k : Nat) (ks : List Str) (F : List D → List D → Hs → R D) : Prop :=
  ∃ f, mg x = some (.ref f) ∧ PySem.W.keepIn K (.ref f) = true ∧ FnC ci P w K mg base k f ks F
theorem ej_fn (h : NameC ci X.prog X.w X.K X.mg X.base x k ks F) (hr : Room k X.A) (tk : Takes X W) (ha : CAJ ci X W es kws ks t fc) (hg : Gl X x := by rfl) (hdb : (x == ("__debug__" : Str)) = false := by decide) :
    EJ ci X W (.Call (.Name x p) es kws pos) (tCallC (X.g ci) W F t) (eCallC F fc) := by
  obtain ⟨f, h1, h2, h3⟩ := h
  exact ej_call h3 hr tk hg h1 h2 ha hdb
/-! ### methods -/
/-- an instance of the class c -/
def isIns (c : Nat) (x : D) (h : Hs) : Bool := match x with
  | .obj c' _ => decide (c' = c)
  | .ref n => match h[n]? with
    | some (.ins c' _) => decide (c' = c)
    | _ => false
  | _ => false
theorem lookup_none {fs : List (Str × V)} {m : Str} (h : m ∉ fs.map (·.1)) : fs.lookup m = none := by
  induction fs with
  | nil => rfl
  | cons p r ih =>
    obtain ⟨k, v⟩ := p
    have h1 : m ≠ k := fun z => h (by rw [z]; exact List.mem_cons_self)
    have hb : (m == k) = false := beq_eq_false_iff_ne.mpr h1
    simp only [List.lookup, hb]
    exact ih fun z => h (List.mem_cons_of_mem _ z)
theorem isIns_ok {g : G} {bs : List Addr} {h : Hs} {H : Hp} {x : D} {v : V} {c : Nat} (hr : HRel g bs h H) (r : Rep g bs H x v) (e : isIns c x h = true) : ∃ a C dx fs n, v = .ref a ∧ IsCls g c C ∧ H a = some (.ins C dx fs) ∧ fs.map (·.1) = flds g c n := by
  cases r with
  | obj n hc ho hf rs =>
    have e' : decide (_ = c) = true := e
    obtain rfl := of_decide_eq_true e'
    exact ⟨_, _, _, _, _, rfl, hc, ho, hf⟩
  | @ref n a hb =>
    unfold isIns at e
    dsimp only at e
    split at e
    · rename_i c' fs hi
      obtain rfl := of_decide_eq_true e
      obtain ⟨a', g1, C', dx', fvs, g2, g3, g4, g5⟩ := hr.at_ _ _ hi
      rw [hb] at g1
      cases g1
      exact ⟨_, _, _, _, _, rfl, g2, g3, g4⟩
    · cases e
  | _ => cases e
def tMethC (g : G) (W : WX) (c : Nat) (m : Str) (F : List D → List D → Hs → R D) (to : TE) (t : TC) : TE := fun σ H Q => to σ H fun x H1 => ∃ C a dx fs, IsCls g c C ∧ x = .ref a ∧ H1 a = some (.ins C dx fs) ∧ fs.lookup m = none ∧ t σ H1 fun v H2 => Asks g (WE W σ) F (x :: v.1) v.2 H2 Q
def eMeth (c : Nat) (F : List D → List D → Hs → R D) (fo : En → Hs → R D) (fc : En → Hs → R DD2) : En → Hs → R D := fun env h => (fo env h).bind fun x h1 => if isIns c x h1 = true then (fc env h1).bind fun d h2 => F (x :: d.1) d.2 h2 else .bad
/-- a method of a class of one's own -/
def MethC (ci : Nat → String × List String) (P : Program) (w : World) (K : PySem.W.Frag) (mg : Str → Option Value) (base : Heap) (c : Nat) (m : Str) (k : Nat) (ks : List Str) (F : List D → List D → Hs → R D) : Prop :=
  ∃ C f, mg (Str.ofString (ci c).1) = some (.ref C) ∧ Cls K C ∧ Meth K C m f ∧ FnC ci P w K mg base k f ks F
theorem ej_meth {pl : Sem Bool} (c : Nat) (he : EJ ci X W o to fo) (h : MethC ci X.prog X.w X.K X.mg X.base c m k ks F) (hr : Room k X.A) (tk : Takes X W) (ha : CAJ ci X W es kws ks t fc) (hno : ((ci c).2.map Str.ofString).contains m = false := by decide +kernel)
    (ht : eval (.Call (.Attribute o m apos) es kws pos) X.env = (do
      let ov ← eval o X.env
      standAt apos.atName
      let (f, first) ← holding [ov] (getMethod ov m pl)
      callWith pos f first (backTo pos (starEach es X.env)) (backToKw pos (keywordEach kws X.env))) := by rfl) :
    EJ ci X W (.Call (.Attribute o m apos) es kws pos) (tMethC (X.g ci) W c m F to t) (eMeth c F fo fc) := by
  obtain ⟨C, f, hc, hcl, hm, hF⟩ := h
  refine ⟨⟨fun pins s σ H Q I h => by
      refine PySem.W.methodCall_KW (pl := pl) (thn (he.pe.run pins s σ H _ I h) fun u s1 ⟨x, H1, I1, rx, C', a, dx, fs, hC', ex, ea, l, q⟩ => ?_) ht
      subst ex
      have hC2 : X.mg (Str.ofString (ci c).1) = some (.ref C') := hC'
      rw [hc] at hC2
      cases hC2
      obtain rfl : u = Value.ref a := rx
      refine getmeth_ok I1 ea hcl hm l ?_
      exact ha.p pos (.ref f) [.ref a] pins s1 σ H1 _ _ hm.kp I1 q fun us ws vs zs s2 H2 I2 r rz hz q2 => run_c (us := .ref a :: us) (vs := .ref a :: vs) hF hr tk I2 (.cons rfl r) rz hz q2⟩,
    fun σ H env h bs Q er hr' p => he.sim.step er hr' p fun x vx bs1 H1 h1 e1 hr1 er1 rx p1 => by
      split at p1
      · rename_i hi
        obtain ⟨a, C', dx, fs, n, rfl, c1, c2, c3⟩ := isIns_ok hr1 rx hi
        refine ⟨C', a, dx, fs, c1, rfl, c2, lookup_none ?_, ha.sim.step er1 hr1 p1 fun d v bs2 H2 h2 e2 hr2 er2 rd p2 => ⟨bs2, h2, _ :: d.1, d.2, hr2, .cons (rx.mono e2) rd.1, rd.2, p2⟩⟩
        rw [c3]
        unfold flds
        intro z
        have : m ∈ (ci c).2.map Str.ofString := by
          obtain ⟨y, hy, rfl⟩ := List.mem_map.mp z
          exact List.mem_map_of_mem (List.mem_of_mem_take hy)
        have h2 : ((ci c).2.map Str.ofString).contains m = true := by simpa using this
        rw [hno] at h2
        cases h2
      · exact p1.elim⟩
end
end Ev
set_option Elab.async false
set_option linter.all false
set_option maxRecDepth 100000
set_option maxHeartbeats 4000000
namespace Ev
open PySem L2

/-! ### attributes -/
/-- f is the i-th field of the class c, and no class attribute -/
structure FldAt (ci : Nat → String × List String) (K : PySem.W.Frag) (mg : Str → Option Value) (f : Str) (c i : Nat) : Prop where
  at_ : ((ci c).2.map Str.ofString)[i]? = some f
  first : ∀ j, j < i → ((ci c).2.map Str.ofString)[j]? ≠ some f
  cl : ∀ C, mg (Str.ofString (ci c).1) = some (.ref C) → Cls K C ∧ NoAttr K C f
def fieldI : List (Nat × Nat) → Nat → Option Nat
  | [], _ => none
  | (c, i) :: r, k => if c = k then some i else fieldI r k
theorem fieldI_ok : ∀ {tab : List (Nat × Nat)} {c i : Nat}, fieldI tab c = some i → (c, i) ∈ tab
  | (c', i') :: r, c, i, h => by
    unfold fieldI at h
    split at h
    · rename_i e
      cases h
      rw [← e]
      exact List.mem_cons_self
    · exact List.mem_cons_of_mem _ (fieldI_ok h)
theorem lookup_at {ns : List Str} {f : Str} : ∀ {fs : List (Str × V)} {i n : Nat} {v : V}, fs.map (·.1) = ns.take n → ns[i]? = some f → (∀ j, j < i → ns[j]? ≠ some f) → (fs.map (·.2))[i]? = some v → fs.lookup f = some v := by
  induction ns with
  | nil => intro fs i n v _ h; simp at h
  | cons a ns ih =>
    intro fs i n v h1 h2 h3 h4
    cases fs with
    | nil => simp at h4
    | cons p r =>
      obtain ⟨k, x⟩ := p
      cases n with
      | zero => simp at h1
      | succ n =>
        simp only [List.map_cons, List.take_succ_cons, List.cons.injEq] at h1
        obtain ⟨rfl, h1⟩ := h1
        cases i with
        | zero =>
          simp at h2 h4
          subst h2 h4
          simp [List.lookup]
        | succ i =>
          have hne : k ≠ f := fun e => h3 0 (Nat.succ_pos _) (by simp [e])
          have hb : (f == k) = false := beq_eq_false_iff_ne.mpr (Ne.symm hne)
          simp only [List.lookup, hb]
          exact ih h1 (by simpa using h2) (fun j hj => by have := h3 (j + 1) (by omega); simpa using this) (by simpa using h4)
/-- the fields of an instance -/
def insOf (h : Hs) : D → Option (Nat × List D)
  | .obj c fs => some (c, fs)
  | .ref n => match h[n]? with
    | some (.ins c fs) => some (c, fs)
    | _ => none
  | _ => none
theorem insOf_ok {g : G} {bs : List Addr} {h : Hs} {H : Hp} {x : D} {v : V} {c : Nat} {ds : List D} (hr : HRel g bs h H) (r : Rep g bs H x v) (e : insOf h x = some (c, ds)) :
    ∃ a C dx fs, v = .ref a ∧ IsCls g c C ∧ H a = some (.ins C dx fs) ∧ fs.map (·.1) = flds g c ds.length ∧ Reps g bs H ds (fs.map (·.2)) := by
  cases r with
  | obj n hc ho hf rs => cases e; exact ⟨_, _, _, _, rfl, hc, ho, hf, rs⟩
  | @ref n a hb =>
    unfold insOf at e
    dsimp only at e
    split at e
    · rename_i c' fs hi
      cases e
      obtain ⟨a', g1, C', dx', fvs, g2, g3, g4, g5⟩ := hr.at_ _ _ hi
      rw [hb] at g1
      cases g1
      exact ⟨_, _, _, _, rfl, g2, g3, g4, g5⟩
    · cases e
  | _ => cases e
def attrD (tab : List (Nat × Nat)) (x : D) (h : Hs) : R D := match insOf h x with
  | some (c, ds) => match fieldI tab c with
    | some i => match ds[i]? with
      | some d => .ok d h
      | none => .bad
    | none => .bad
  | none => .bad
section
variable {ci : Nat → String × List String} {X : Cx} {W : WX} {o e : Expr} {f : Str} {pos pos' : Pos} {to te : TE} {fo fe : En → Hs → R D}
def eAttr (tab : List (Nat × Nat)) (fo : En → Hs → R D) : En → Hs → R D := fun env h => (fo env h).bind (attrD tab)
theorem ej_attr (tab : List (Nat × Nat)) (ho : EJ ci X W o to fo) (ht : ∀ p ∈ tab, FldAt ci X.K X.mg f p.1 p.2) (hb : attributeBase o f X.env (eval o X.env) = eval o X.env := by rfl) : EJ ci X W (.Attribute o f pos) (tFld X.K to f) (eAttr tab fo) :=
  ⟨pe_fld ho.pe hb, fun σ H env h bs Q er hr p => ho.sim.step er hr p fun x vx bs1 H1 h1 e1 hr1 er1 rx p1 => by
    unfold attrD at p1
    split at p1
    · rename_i c ds hi
      split at p1
      · rename_i i hf
        split at p1
        · rename_i d hd
          obtain ⟨a, C, dx, fs, rfl, g2, g3, g4, g5⟩ := insOf_ok hr1 rx hi
          have F := ht _ (fieldI_ok hf)
          obtain ⟨cl, na⟩ := F.cl C g2
          obtain ⟨v, hv, rv⟩ := g5.get hd
          refine ⟨a, C, dx, fs, v, rfl, g3, cl, na, lookup_at (ns := (ci c).2.map Str.ofString) (n := ds.length) ?_ F.at_ F.first hv, Post.ok_ p1 hr1 rv⟩
          rw [g4]
          unfold flds
          rw [List.map_take]
        · exact p1.elim
      · exact p1.elim
    · exact p1.elim⟩
/-- o.f = e, o one that may change -/
def putI (ds : List D) (i : Nat) (d : D) : Option (List D) := if i < ds.length then some (ds.set i d) else if i = ds.length then some (ds ++ [d]) else none
def setAttrD (tab : List (Nat × Nat)) (x : D) (y : D) (h : Hs) : Option Hs := match x with
  | .ref n => match h[n]? with
    | some (.ins c ds) => match fieldI tab c with
      | some i => if ds.length < 900 then (match putI ds i y with
        | some ds' => some (h.set n (.ins c ds'))
        | none => none) else none
      | none => none
    | _ => none
  | _ => none
def sAttr (tab : List (Nat × Nat)) (fo fe : En → Hs → R D) : En → Hs → S := fun env h => (fe env h).toS env fun y h1 => (fo env h1).toS env fun x h2 => match setAttrD tab x y h2 with
  | some h3 => .nx env h3
  | none => .bad
theorem putF_names {ns : List Str} {f : Str} {v : V} : ∀ {fs : List (Str × V)} {i n : Nat}, fs.map (·.1) = ns.take n → fs.length = n → ns[i]? = some f → (∀ j, j < i → ns[j]? ≠ some f) → i ≤ n →
    (putF f v fs).map (·.1) = ns.take (if i < n then n else n + 1) ∧ (putF f v fs).map (·.2) = if i < n then (fs.map (·.2)).set i v else fs.map (·.2) ++ [v] := by
  induction ns with
  | nil => intro fs i n _ _ h; simp at h
  | cons a ns ih =>
    intro fs i n h1 hl h2 h3 hi
    cases fs with
    | nil =>
      simp at hl
      subst hl
      have : i = 0 := by omega
      subst this
      simp at h2
      subst h2
      simp [putF]
    | cons p r =>
      obtain ⟨k, x⟩ := p
      cases n with
      | zero => simp at hl
      | succ n =>
        simp only [List.map_cons, List.take_succ_cons, List.cons.injEq] at h1
        obtain ⟨rfl, h1⟩ := h1
        simp only [List.length_cons, Nat.add_right_cancel_iff] at hl
        cases i with
        | zero =>
          simp at h2
          subst h2
          simp [putF, h1]
        | succ i =>
          have hne : ¬ k = f := fun e => h3 0 (Nat.succ_pos _) (by simp [e])
          obtain ⟨q1, q2⟩ := ih (i := i) (n := n) h1 hl (by simpa using h2) (fun j hj => by have := h3 (j + 1) (by omega); simpa using this) (by omega)
          unfold putF
          rw [if_neg hne]
          by_cases hlt : i < n
          · rw [if_pos hlt] at q1 q2
            rw [if_pos (by omega), if_pos (by omega)]
            simp [q1, q2]
          · rw [if_neg hlt] at q1 q2
            rw [if_neg (by omega), if_neg (by omega)]
            simp [q1, q2]
theorem setAttr_ok {g : G} {tab : List (Nat × Nat)} {bs : List Addr} {h h3 : Hs} {H : Hp} {x y : D} {vx vy : V} (ht : ∀ p ∈ tab, FldAt g.ci g.K g.mg f p.1 p.2) (hr : HRel g bs h H) (rx : Rep g bs H x vx) (ry : Rep g bs H y vy) (e : setAttrD tab x y h = some h3) :
    ∃ a C dx fs, vx = .ref a ∧ H a = some (.ins C dx fs) ∧ Cls g.K C ∧ NoAttr g.K C f ∧ fs.length < 1000 ∧ Ext bs H bs (upd H a (.ins C dx (putF f vy fs))) ∧ HRel g bs h3 (upd H a (.ins C dx (putF f vy fs))) := by
  unfold setAttrD at e
  split at e
  · rename_i n
    split at e
    · rename_i c ds hi
      split at e
      · rename_i i hf
        split at e
        · rename_i hl
          split at e
          · rename_i ds' hp
            cases e
            cases rx with
            | @ref _ a hb =>
              obtain ⟨a', g1, C, dx, fs, g2, g3, g4, g5⟩ := hr.at_ _ _ hi
              rw [hb] at g1
              cases g1
              have F := ht _ (fieldI_ok hf)
              obtain ⟨cl, na⟩ := F.cl C g2
              have hlen : fs.length = ds.length := by
                have := g5.length
                rw [List.length_map] at this
                exact this.symm
              have hle : i ≤ ds.length := by
                unfold putI at hp
                split at hp
                · omega
                · split at hp
                  · omega
                  · cases hp
              have g4' : fs.map (·.1) = ((g.ci c).2.map Str.ofString).take ds.length := by
                rw [g4]; unfold flds; rw [List.map_take]
              obtain ⟨q1, q2⟩ := putF_names (v := vy) g4' hlen F.at_ F.first hle
              refine ⟨a, C, dx, fs, rfl, g3, cl, na, by rw [hlen]; omega, .cell hr hb, hr.cell hb ⟨C, dx, _, g2, upd_same, ?_, ?_⟩⟩
              · rw [q1]
                unfold putI at hp
                unfold flds
                rw [List.map_take]
                split at hp
                · rename_i hlt
                  cases hp
                  rw [if_pos hlt, List.length_set]
                · rename_i hlt
                  split at hp
                  · cases hp
                    rw [if_neg hlt, List.length_append]
                    rfl
                  · cases hp
              · rw [q2]
                unfold putI at hp
                split at hp
                · rename_i hlt
                  cases hp
                  rw [if_pos hlt]
                  exact (g5.set ry i).mono (.cell hr hb)
                · rename_i hlt
                  split at hp
                  · cases hp
                    rw [if_neg hlt]
                    exact (g5.append (.cons ry .nil)).mono (.cell hr hb)
                  · cases hp
          · cases e
        · cases e
      · cases e
    · cases e
  · cases e
theorem sj_attr (tab : List (Nat × Nat)) (ho : EJ ci X W o to fo) (he : EJ ci X W e te fe) (ht : ∀ p ∈ tab, FldAt ci X.K X.mg f p.1 p.2) (hs : swapsWith e (some (.Attribute o f pos')) pos.line X.env = pure false := by rfl) :
    SJ ci X W (.Assign [.Attribute o f pos'] e pos) (sFld X.K to te f) (sAttr tab fo fe) :=
  ⟨ps_fld ho.pe he.pe hs, fun σ H env h bs E er hr p => he.sim.stepS er hr p fun y vy bs1 H1 h1 e1 hr1 er1 ry p1 => ho.sim.stepS er1 hr1 p1 fun x vx bs2 H2 h2 e2 hr2 er2 rx p2 => by
    split at p2
    · rename_i h3 hh
      obtain ⟨a, C, dx, fs, rfl, q1, q2, q3, q4, q5, q6⟩ := setAttr_ok (g := X.g ci) ht hr2 rx (ry.mono e2) hh
      exact ⟨a, C, dx, fs, rfl, q1, q2, q3, q4, p2 bs2 _ σ q5 q6 (er2.mono q5)⟩
    · exact p2.elim⟩
end
/-! ### isinstance -/
inductive Ty where
  | int | str | bool | list | tuple | cls (c : Nat)
def primOf (x : D) (h : Hs) : Option String := match x with
  | .non => some "NoneType"
  | .bl _ => some "bool"
  | .int _ => some "int"
  | .str _ => some "str"
  | .tup _ => some "tuple"
  | .lst _ => some "list"
  | .rol _ => some "list"
  | .ref n => match cellL h n with
    | some _ => some "list"
    | none => none
  | .obj _ _ => none
/-- what a type is to the kinds -/
def primIs : Ty → String → Bool
  | .int, n => n == "int" || n == "bool"
  | .str, n => n == "str"
  | .bool, n => n == "bool"
  | .list, n => n == "list"
  | .tuple, n => n == "tuple"
  | .cls _, _ => false
def clsIs : Ty → Nat → Bool
  | .cls c, k => decide (k = c)
  | _, _ => false
structure ClsT (K : PySem.W.Frag) (C : Addr) : Prop where
  cl : Cls K C
  ha : PySem.W.findIn K (.ref C) "__class__" = some (some (.builtin "object.__class__"))
  hn : PySem.W.specialIn K (.builtin "object.__class__") "__get__" = some (some (.builtin "getset_descriptor.__get__"))
  htk : PySem.W.takesIn K (.builtin "object.__class__") = some true
  hm : PySem.W.mroIn K C (.type "object") = some true
structure IsiF (ci : Nat → String × List String) (K : PySem.W.Frag) (mg : Str → Option Value) (ty : Ty) (cs : List Nat) (u : Value) : Prop where
  prim : ∀ n ∈ ["NoneType", "bool", "int", "str", "list", "tuple"], PySem.W.kitOne K (.type n) u = some (primIs ty n)
  own : ∀ c ∈ cs, ∀ C, mg (Str.ofString (ci c).1) = some (.ref C) → ClsT K C ∧ PySem.W.kitOne K (.ref C) u = some (clsIs ty c)
def isiD (ty : Ty) (cs : List Nat) (x : D) (h : Hs) : R D := match primOf x h with
  | some n => .ok (.bl (primIs ty n)) h
  | none => match insOf h x with
    | some (c, _) => if c ∈ cs then .ok (.bl (clsIs ty c)) h else .bad
    | none => .bad
theorem prim_ok {g : G} {bs : List Addr} {h : Hs} {H : Hp} {x : D} {v : V} {n : String} (hr : HRel g bs h H) (r : Rep g bs H x v) (e : primOf x h = some n) : TyX g.K H v (.type n) ∧ n ∈ ["NoneType", "bool", "int", "str", "list", "tuple"] := by
  cases r with
  | non => cases e; exact ⟨.base .non, by simp⟩
  | bl b => cases e; exact ⟨.base (.bl _), by simp⟩
  | int i => cases e; exact ⟨.base (.int _), by simp⟩
  | str hs => cases e; exact ⟨.base (.str _), by simp⟩
  | tup t rs =>
    cases e
    refine ⟨?_, by simp⟩
    rcases t with ⟨_, t | ⟨o, t⟩⟩ | ⟨o, its, n, h1, h2, _⟩
    · exact .base (.tup t)
    · exact .fTuple t
    · exact .kTuple h1 h2
  | lst n hl rs => cases e; exact ⟨.base (.lst hl), by simp⟩
  | rol hl rs =>
    cases e
    refine ⟨?_, by simp⟩
    rcases hl with ⟨_, t | ⟨o, t⟩⟩ | ⟨o, its, n, h1, h2, _⟩
    · exact .base (.lst t)
    · exact .base (.frz t)
    · exact .kList h1 h2
  | @ref n a hb =>
    have e' : (match cellL h n with
      | some _ => some "list"
      | none => none) = some _ := e
    cases hc : cellL h n with
    | none => rw [hc] at e'; cases e'
    | some ys =>
      rw [hc] at e'
      cases e'
      obtain ⟨vs, h1, _⟩ := cell_ok hr hb hc
      exact ⟨.base (.lst h1), by simp⟩
  | obj => cases e
section
variable {ci : Nat → String × List String} {X : Cx} {W : WX} {o : Expr} {x : Str} {p pos np : Pos} {to : TE} {fo : En → Hs → R D}
def eIsi (ty : Ty) (cs : List Nat) (fo : En → Hs → R D) : En → Hs → R D := fun env h => (fo env h).bind (isiD ty cs)
theorem sim_isi {g : G} {ty : Ty} {cs : List Nat} {c : V} {u : Value} (hv : ClsV c u) (F : IsiF g.ci g.K g.mg ty cs u) (ho : Sim (relV g) g W to fo) : Sim (relV g) g W (tCB (rIsi g.K) (tCons to (tCons (tC c) tNil))) (eIsi ty cs fo) :=
  fun σ H env h bs Q er hr p => ho.step er hr p fun d vd bs1 H1 h1 e1 hr1 er1 rx p1 => by
    show rIsi g.K [vd, c] H1 Q
    unfold isiD at p1
    split at p1
    · rename_i n hn
      obtain ⟨t1, t2⟩ := prim_ok hr1 rx hn
      exact ⟨vd, c, _, u, _, rfl, hv, t1, F.prim n t2, Post.ok_ p1 hr1 (.bl _)⟩
    · split at p1
      · rename_i k fs hi
        split at p1
        · rename_i hk
          obtain ⟨a, C, dx, fvs, rfl, g2, g3, g4, g5⟩ := insOf_ok hr1 rx hi
          obtain ⟨ct, kt⟩ := F.own k hk C g2
          exact ⟨_, c, _, u, _, rfl, hv, .base (.ins g3 ct.cl ct.ha ct.hn ct.htk ct.hm), kt, Post.ok_ p1 hr1 (.bl _)⟩
        · exact p1.elim
      · exact p1.elim
/-- isinstance(o, int), .. a built-in type -/
theorem ej_isiB (ty : Ty) (cs : List Nat) (n : String) (hm : X.mg "isinstance" = none) (hmx : X.mg x = none) (ho : EJ ci X W o to fo) (F : IsiF ci X.K X.mg ty cs (.type n)) (hb : bootBuiltins x = some (.type n) := by decide +kernel) (hg : Gl X "isinstance" := by rfl) (hgx : Gl X x := by rfl) (hxn : x ≠ "__name__" := by decide) (hxd : (x == ("__debug__" : Str)) = false := by decide)
    (he : starEach [o, .Name x np] X.env = (false, eval o X.env) :: starEach [.Name x np] X.env := by rfl) (hpl : (backTo pos (starEach [.Name x np] X.env)).any (·.1) = false := by rfl) :
    EJ ci X W (.Call (.Name "isinstance" p) [o, .Name x np] [] pos) (tCB (rIsi X.K) (tCons to (tCons (tC (.ty n)) tNil))) (eIsi ty cs fo) :=
  ⟨pe_callB call_isi hg hm (by decide +kernel) (pa_cons ho.pe (pa_cons (pe_bltn hgx hmx hb rfl hxn hxd) pa_nil) he) (by decide) (by decide) he hpl, sim_isi (g := X.g ci) (.ty n) F ho.sim⟩
/-- isinstance(o, C), C a class of one's own -/
def tIsiC (g : G) (c : Nat) (to : TE) : TE := fun σ H Q => ∃ C, IsCls g c C ∧ tCB (rIsi g.K) (tCons to (tCons (tC (.ref C)) tNil)) σ H Q
def IsiC (ci : Nat → String × List String) (K : PySem.W.Frag) (mg : Str → Option Value) (c : Nat) (cs : List Nat) : Prop := ∃ C, mg (Str.ofString (ci c).1) = some (.ref C) ∧ IsiF ci K mg (.cls c) cs (.ref C)
theorem ej_isiC (c : Nat) (cs : List Nat) (hm : X.mg "isinstance" = none) (ho : EJ ci X W o to fo) (F : IsiC ci X.K X.mg c cs) (hx : x = Str.ofString (ci c).1 := by rfl) (hg : Gl X "isinstance" := by rfl) (hgx : Gl X x := by rfl) (hxd : (x == ("__debug__" : Str)) = false := by decide)
    (he : starEach [o, .Name x np] X.env = (false, eval o X.env) :: starEach [.Name x np] X.env := by rfl) (hpl : (backTo pos (starEach [.Name x np] X.env)).any (·.1) = false := by rfl) :
    EJ ci X W (.Call (.Name "isinstance" p) [o, .Name x np] [] pos) (tIsiC (X.g ci) c to) (eIsi (.cls c) cs fo) := by
  obtain ⟨C, hC, F⟩ := F
  refine ⟨⟨fun pins s σ H Q I ⟨C', hC', h⟩ => ?_⟩, fun σ H env h bs Q er hr p => ⟨C, hC, sim_isi (g := X.g ci) (.own C) F ho.sim σ H env h bs Q er hr p⟩⟩
  have hC2 : X.mg (Str.ofString (ci c).1) = some (.ref C') := hC'
  rw [hC] at hC2
  cases hC2
  exact (pe_callB call_isi hg hm (by decide +kernel) (pa_cons ho.pe (pa_cons (pe_glob (v := .ref C) (u := .ref C) hgx (by rw [hx]; exact hC) rfl hxd) pa_nil) he) (by decide) (by decide) he hpl).run pins s σ H Q I h
end
/-! ### raise -/
/-- what the __init__ of an own error of one field promises -/
def spExc (K : PySem.W.Frag) (C : Addr) (f : Str) : Sp := fun vs H Q _ => ∃ a y, vs = [.ref a, y] ∧ H a = some (exo a C none) ∧ ∀ dx, H dx = none → dx ≠ a → Q .non (upd (upd H dx (exd dx [(f, y)])) a (exo a C (some dx)))
structure ExcF (ci : Nat → String × List String) (P : Program) (w : World) (K : PySem.W.Frag) (mg : Str → Option Value) (base : Heap) (c : Nat) (f : Str) (C : Addr) : Prop where
  oex : OexC K C
  is : mg (Str.ofString (ci c).1) = some (.ref C)
  fl : (ci c).2.map Str.ofString = [f]
  init : ∃ (fI : Addr) (fd : FuncData) (ps : List Str), PySem.W.findIn K (.ref C) "__init__" = some (some (.ref fI)) ∧ PySem.W.typeIn K (.ref fI) = some (.type "function") ∧ FnOk P w K mg base (L2.CX P w) 3 fI fd ps (spExc K C f) ∧ Binds K fd ps []
def ExcC (ci : Nat → String × List String) (P : Program) (w : World) (K : PySem.W.Frag) (mg : Str → Option Value) (base : Heap) (c : Nat) (f : Str) : Prop := ∃ C, ExcF ci P w K mg base c f C
section
variable {ci : Nat → String × List String} {X : Cx} {W : WX} {e : Expr} {x f : Str} {c : Nat} {C : Addr} {p pos cpos : Pos} {te : TE} {fe : En → Hs → R D} {k : Nat}
def sRaise (c : Nat) (fe : En → Hs → R D) : En → Hs → S := fun env h => (fe env h).toS env fun d h1 => .err c [d] env h1
def tRaiseC (g : G) (W : WX) (c : Nat) (f : Str) (te : TE) : TS := fun _ σ H => ∃ C, IsCls g c C ∧ tMkO C (spExc g.K C f) [] (tCons te tNil) σ H fun cls d H' => W cls d σ H'
theorem sj_raise (c : Nat) (hc : X.calm = true) (F : ExcC ci X.prog X.w X.K X.mg X.base c f) (hr : Room 4 X.A) (tk : Takes X W) (he : EJ ci X W e te fe) (hx : x = Str.ofString (ci c).1 := by rfl) (hg : Gl X x := by rfl) (hdb : (x == ("__debug__" : Str)) = false := by decide)
    (hst : starEach [e] X.env = (false, eval e X.env) :: starEach [] X.env := by rfl) (hpl : (backTo cpos (starEach [] X.env)).any (·.1) = false := by rfl) :
    SJ ci X W (.Raise (some (.Call (.Name x p) [e] [] cpos)) none pos) (tRaiseC (X.g ci) W c f te) (sRaise c fe) := by
  obtain ⟨C, F⟩ := F
  obtain ⟨fI, fd, ps, i1, i2, i3, i4⟩ := F.init
  refine ⟨⟨fun pins s σ H D I ⟨C', hC', h⟩ => ?_⟩, fun σ H env h bs E er hr' p => ⟨C, F.is, he.sim.stepS er hr' p fun d v bs1 H1 h1 e1 hr1 er1 rd p1 => ?_⟩⟩
  · have hC2 : X.mg (Str.ofString (ci c).1) = some (.ref C') := hC'
    rw [F.is] at hC2
    cases hC2
    exact (ps_raise hc tk (pmk_oex F.oex i1 i2 i3 hr i4 .nil passL hg (by rw [hx]; exact F.is) (pa_cons he.pe pa_nil hst) hdb hst hpl)).run pins s σ H D I h
  · refine ⟨by show 1 ≤ 1000; decide, fun a ha => ⟨a, v, rfl, upd_same, fun dx hdx hne => ⟨rfl, dx, [(f, v)], upd_same, ?_, ?_, ?_⟩⟩⟩
    · rw [upd_ne hne, upd_same]
    · rw [upd_ne hne] at hdx; exact hdx
    · have hdx' : H1 dx = none := by rw [upd_ne hne] at hdx; exact hdx
      have eH : upd (del (upd (upd (upd H1 a (exo a C none)) dx (exd dx [(f, v)])) a (exo a C (some dx))) a) dx (.xd [(f, v)]) = upd H1 dx (.xd [(f, v)]) := by
        funext b
        by_cases hb : b = dx
        · rw [hb, upd_same, upd_same]
        · rw [upd_ne hb, upd_ne hb]
          by_cases hba : b = a
          · rw [hba, del_same, ha]
          · rw [del_ne hba, upd_ne hba, upd_ne hb, upd_ne hba]
      rw [eH]
      refine p1 _ _ bs1 _ σ (.new hdx') (hr1.new hdx') (er1.mono (.new hdx')) ⟨C, dx, [(f, v)], F.is, rfl, rfl, hr1.out hdx', upd_same, ?_, .cons (rd.mono (.new hdx')) .nil⟩
      unfold flds
      rw [List.map_take, show ((X.g ci).ci c).2.map Str.ofString = [f] from F.fl]
      rfl
end
end Ev
set_option Elab.async false
set_option linter.all false
set_option maxRecDepth 100000
set_option maxHeartbeats 4000000
namespace Ev
open PySem L2

/-! ### all, any, sum -/
def blsOf : List D → Option (List Bool)
  | [] => some []
  | .bl b :: r => (blsOf r).map (b :: ·)
  | _ => none
def intsOf : List D → Option (List Int)
  | [] => some []
  | .int i :: r => (intsOf r).map (i :: ·)
  | _ => none
theorem bls_ok {g : G} {bs : List Addr} {H : Hp} : ∀ {ds : List D} {vs : List V} {xs : List Bool}, Reps g bs H ds vs → blsOf ds = some xs → vs = xs.map V.bl
  | _, _, _, .nil, e => by cases e; rfl
  | d :: ds, v :: vs, xs, .cons r t, e => by
    cases r with
    | bl b =>
      have e' : (blsOf ds).map (b :: ·) = some xs := e
      cases h : blsOf ds with
      | none => rw [h] at e'; cases e'
      | some ys => rw [h] at e'; cases e'; rw [bls_ok t h]; rfl
    | _ => cases e
theorem ints_ok {g : G} {bs : List Addr} {H : Hp} : ∀ {ds : List D} {vs : List V} {xs : List Int}, Reps g bs H ds vs → intsOf ds = some xs → vs = xs.map V.int
  | _, _, _, .nil, e => by cases e; rfl
  | d :: ds, v :: vs, xs, .cons r t, e => by
    cases r with
    | int b =>
      have e' : (intsOf ds).map (b :: ·) = some xs := e
      cases h : intsOf ds with
      | none => rw [h] at e'; cases e'
      | some ys => rw [h] at e'; cases e'; rw [ints_ok t h]; rfl
    | _ => cases e
def allD (xs : List D) (h : Hs) : R D := match xs with
  | [x] => match rdL h x with
    | some ys => match blsOf ys with
      | some bs => .ok (.bl (bs.all id)) h
      | none => .bad
    | none => .bad
  | _ => .bad
def anyD (xs : List D) (h : Hs) : R D := match xs with
  | [x] => match rdL h x with
    | some ys => match blsOf ys with
      | some bs => .ok (.bl (bs.any id)) h
      | none => .bad
    | none => .bad
  | _ => .bad
def sumD (xs : List D) (h : Hs) : R D := match xs with
  | [x] => match rdL h x with
    | some ys => match intsOf ys with
      | some bs => .ok (.int bs.sum) h
      | none => .bad
    | none => .bad
  | _ => .bad
theorem caj_all {g : G} : CaJ g (rAll g.K) allD := by
  refine ⟨fun W bs h H xs vs Q hr rs p => ?_⟩
  unfold allD at p
  split at p
  · split at p
    · rename_i ys hy
      split at p
      · rename_i b hb
        cases rs with
        | cons r t =>
          cases t
          obtain ⟨a, us, rfl, hs, rs⟩ := rdL_ok hr r hy
          exact ⟨a, b, rfl, by rw [← bls_ok rs hb]; exact hs, Post.ok_ p hr (.bl _)⟩
      · exact p.elim
    · exact p.elim
  · exact p.elim
theorem caj_any {g : G} : CaJ g (rAny g.K) anyD := by
  refine ⟨fun W bs h H xs vs Q hr rs p => ?_⟩
  unfold anyD at p
  split at p
  · split at p
    · rename_i ys hy
      split at p
      · rename_i b hb
        cases rs with
        | cons r t =>
          cases t
          obtain ⟨a, us, rfl, hs, rs⟩ := rdL_ok hr r hy
          exact ⟨a, b, rfl, by rw [← bls_ok rs hb]; exact hs, Post.ok_ p hr (.bl _)⟩
      · exact p.elim
    · exact p.elim
  · exact p.elim
theorem caj_sum {g : G} : CaJ g (rSum g.K) sumD := by
  refine ⟨fun W bs h H xs vs Q hr rs p => ?_⟩
  unfold sumD at p
  split at p
  · split at p
    · rename_i ys hy
      split at p
      · rename_i b hb
        cases rs with
        | cons r t =>
          cases t
          obtain ⟨a, us, rfl, hs, rs⟩ := rdL_ok hr r hy
          exact ⟨a, b, rfl, by rw [← ints_ok rs hb]; exact hs, Post.ok_ p hr (.int _)⟩
      · exact p.elim
    · exact p.elim
  · exact p.elim
/-! ### *e in an argument list or a display -/
def aStar (f : En → Hs → R D) (fr : En → Hs → R (List D)) : En → Hs → R (List D) := fun env h => (f env h).bind fun x h1 => match seqOf h1 x with
  | some xs => (fr env h1).bind fun ys h2 => .ok (xs ++ ys) h2
  | none => .bad
section
variable {ci : Nat → String × List String} {X : Cx} {W : WX} {pos p : Pos} {e o : Expr} {es : List Expr} {te : TE} {t : TA} {fe : En → Hs → R D} {fr : En → Hs → R (List D)} {f x : Str}
theorem aj_star (he : EJ ci X W e te fe) (hr : AJ ci X W es t fr) (hs : starEach (.Starred e p :: es) X.env = (true, eval e X.env) :: starEach es X.env := by rfl) : AJ ci X W (.Starred e p :: es) (StX.tStar X.K te t) (aStar fe fr) :=
  ⟨StX.pa_star he.pe hr.pa hs, fun σ H env h bs Q er hr' p => he.sim.step er hr' p fun x vx bs1 H1 h1 e1 hr1 er1 rx p1 => by
    split at p1
    · rename_i xs hx
      obtain ⟨a, vs, rfl, hs, rs⟩ := seqOf_ok hr1 rx hx
      exact ⟨a, vs, rfl, hs.symm, hr.sim.step er1 hr1 p1 fun ys ws bs2 H2 h2 e2 hr2 er2 rs2 p2 => Post.ok_ p2 hr2 ((rs.mono e2).append rs2)⟩
    · exact p1.elim⟩
/-! ### constants of a class, of the module -/
def RepK (ci : Nat → String × List String) (K : PySem.W.Frag) (mg : Str → Option Value) (d : D) (v : V) : Prop := ∀ bs H, Rep ⟨K, mg, ci⟩ bs H d v
def ConC (ci : Nat → String × List String) (K : PySem.W.Frag) (mg : Str → Option Value) (x f : Str) (d : D) : Prop := ∃ (C : Addr) (mc : Value) (v : V) (u : Value), mg x = some (.ref C) ∧ ClX.CRead K C mc ∧ ClX.CVal K C mc f v u ∧ RepK ci K mg d v
def tConC (K : PySem.W.Frag) (mg : Str → Option Value) (x f : Str) : TE := fun σ H Q => ∃ C, mg x = some (.ref C) ∧ ClX.tCVal K (tC (.ref C)) f σ H Q
/-- C.f, C a class of one's own -/
theorem ej_con {xp : Pos} {d : D} (h : ConC ci X.K X.mg x f d) (hg : Gl X x := by rfl) (hxd : (x == ("__debug__" : Str)) = false := by decide) (hb : attributeBase (.Name x xp) f X.env (eval (.Name x xp) X.env) = eval (.Name x xp) X.env := by rfl) :
    EJ ci X W (.Attribute (.Name x xp) f pos) (tConC X.K X.mg x f) (eC d) := by
  obtain ⟨C, mc, v, u, h1, h2, h3, h4⟩ := h
  refine ⟨⟨fun pins s σ H Q I ⟨C', e, q⟩ => ?_⟩, fun σ H env h bs Q er hr p => ⟨C, h1, C, mc, v, u, rfl, h2, h3, Post.ok_ p hr (h4 bs H)⟩⟩
  rw [h1] at e
  cases e
  exact (ClX.pe_cval (pe_glob (v := .ref C) (u := .ref C) hg h1 rfl hxd) hb).run pins s σ H Q I q
def GlC (ci : Nat → String × List String) (K : PySem.W.Frag) (mg : Str → Option Value) (x : Str) (d : D) : Prop := ∃ (v : V) (u : Value), mg x = some u ∧ RelV v u ∧ RepK ci K mg d v
def tGlC (mg : Str → Option Value) (x : Str) : TE := fun σ H Q => ∃ v u, mg x = some u ∧ RelV v u ∧ Q v H
/-- a constant of the module -/
theorem ej_gl {d : D} (h : GlC ci X.K X.mg x d) (hg : Gl X x := by rfl) (hxd : (x == ("__debug__" : Str)) = false := by decide) : EJ ci X W (.Name x pos) (tGlC X.mg x) (eC d) := by
  obtain ⟨v, u, h1, h2, h3⟩ := h
  refine ⟨⟨fun pins s σ H Q I ⟨v', u', e1, e2, q⟩ => ?_⟩, fun σ H env h bs Q er hr p => ⟨v, u, h1, h2, Post.ok_ p hr (h3 bs H)⟩⟩
  exact (pe_glob hg e1 e2 hxd).run pins s σ H Q I q
end
/-! ### name = [..] -/
section
variable {ci : Nat → String × List String} {X : Cx} {W : WX} {elt tg iter : Expr} {ifs : List Expr} {scope : Scope} {own : List (Str × Nat)} {pos spos py : Pos} {y : Str} {wi : TI} {t : TG} {tt : TT} {te : TE} {fi : En → Hs → R Src} {k : D → En → Option En} {js : List Nat} {ft : En → Hs → R Bool} {fe : En → Hs → R D}
theorem ej_lcM (hc : X.calm = true) (hN : X.N.Nodup) (hi : IJ ci X W tg iter wi fi) (ok : BlkOk X.N X.env.scope scope own) (hjs : ∀ j ∈ js, j ∈ own.map (·.2))
    (hg : ∀ (s : Shared) (H : Hp) (C : Addr) (cl : List (Str × Addr)) (fp : List Addr), GJ ci (X.blk s H scope (compEnvC scope cl C X.env) fp) tg t k js) (ht : ∀ (s : Shared) (H : Hp) (C : Addr) (cl : List (Str × Addr)) (fp : List Addr), TsJ ci (X.blk s H scope (compEnvC scope cl C X.env) fp) ifs tt ft)
    (he : ∀ (s : Shared) (H : Hp) (C : Addr) (cl : List (Str × Addr)) (fp : List Addr), EJ ci (X.blk s H scope (compEnvC scope cl C X.env) fp) W0 elt te fe) (hs : ∀ x, foldedSetIterable iter X.env x = pure x := by intro _; rfl) :
    EJ ci X W (.ListComp elt [⟨tg, iter, ifs, 0⟩] scope pos) (tLc wi t tt te (own.map (·.2))) (eCompM fi k ft fe (own.map (·.2))) :=
  ⟨pe_lc hc hN hi.pi ok (fun s H C cl fp => (hg s H C cl fp).pg) (fun s H C cl fp => (ht s H C cl fp).pts) (fun s H C cl fp => (he s H C cl fp).pe) hs,
    sim_compM hi.sim (hg X.s_0 (fun _ => none) 0 [] []).sim (ht X.s_0 (fun _ => none) 0 [] []).sim (he X.s_0 (fun _ => none) 0 [] []).sim hjs⟩
theorem sj_setLc (i : Nat) (hc : X.calm = true) (hN : X.N.Nodup) (hi : IJ ci X W tg iter wi fi) (ok : BlkOk X.N X.env.scope scope own) (hjs : ∀ j ∈ js, j ∈ own.map (·.2))
    (hg : ∀ (s : Shared) (H : Hp) (C : Addr) (cl : List (Str × Addr)) (fp : List Addr), GJ ci (X.blk s H scope (compEnvC scope cl C X.env) fp) tg t k js) (ht : ∀ (s : Shared) (H : Hp) (C : Addr) (cl : List (Str × Addr)) (fp : List Addr), TsJ ci (X.blk s H scope (compEnvC scope cl C X.env) fp) ifs tt ft)
    (he : ∀ (s : Shared) (H : Hp) (C : Addr) (cl : List (Str × Addr)) (fp : List Addr), EJ ci (X.blk s H scope (compEnvC scope cl C X.env) fp) W0 elt te fe) (hs : ∀ x, foldedSetIterable iter X.env x = pure x := by intro _; rfl)
    (hy : X.N[i]? = some y := by rfl) (hyl : X.env.scope.names.lookup y = some .local := by rfl) (hsw : swapsWith (.ListComp elt [⟨tg, iter, ifs, 0⟩] scope pos) (some (.Name y py)) spos.line X.env = pure true := by exact sw_true rfl rfl rfl (by decide +kernel)) :
    SJ ci X W (.Assign [.Name y py] (.ListComp elt [⟨tg, iter, ifs, 0⟩] scope pos) spos) (tAsg (tLc wi t tt te (own.map (·.2))) (gName i)) (sAsg (eComp fi k ft fe (own.map (·.2))) (kName i)) :=
  ⟨ps_setLc hc hN hy hyl hsw hi.pi ok (fun s H C cl fp => (hg s H C cl fp).pg) (fun s H C cl fp => (ht s H C cl fp).pts) (fun s H C cl fp => (he s H C cl fp).pe) hs,
    sim_asg (sim_comp hi.sim (hg X.s_0 (fun _ => none) 0 [] []).sim (ht X.s_0 (fun _ => none) 0 [] []).sim (he X.s_0 (fun _ => none) 0 [] []).sim hjs) (gj_name (X := X) (pos := py) (ci := ci) i hN hy (.inl hyl) (.inr hyl)).sim⟩
theorem sj_setLcM (i : Nat) (hc : X.calm = true) (hN : X.N.Nodup) (hi : IJ ci X W tg iter wi fi) (ok : BlkOk X.N X.env.scope scope own) (hjs : ∀ j ∈ js, j ∈ own.map (·.2))
    (hg : ∀ (s : Shared) (H : Hp) (C : Addr) (cl : List (Str × Addr)) (fp : List Addr), GJ ci (X.blk s H scope (compEnvC scope cl C X.env) fp) tg t k js) (ht : ∀ (s : Shared) (H : Hp) (C : Addr) (cl : List (Str × Addr)) (fp : List Addr), TsJ ci (X.blk s H scope (compEnvC scope cl C X.env) fp) ifs tt ft)
    (he : ∀ (s : Shared) (H : Hp) (C : Addr) (cl : List (Str × Addr)) (fp : List Addr), EJ ci (X.blk s H scope (compEnvC scope cl C X.env) fp) W0 elt te fe) (hs : ∀ x, foldedSetIterable iter X.env x = pure x := by intro _; rfl)
    (hy : X.N[i]? = some y := by rfl) (hyl : X.env.scope.names.lookup y = some .local := by rfl) (hsw : swapsWith (.ListComp elt [⟨tg, iter, ifs, 0⟩] scope pos) (some (.Name y py)) spos.line X.env = pure true := by exact sw_true rfl rfl rfl (by decide +kernel)) :
    SJ ci X W (.Assign [.Name y py] (.ListComp elt [⟨tg, iter, ifs, 0⟩] scope pos) spos) (tAsg (tLc wi t tt te (own.map (·.2))) (gName i)) (sAsg (eCompM fi k ft fe (own.map (·.2))) (kName i)) :=
  ⟨ps_setLc hc hN hy hyl hsw hi.pi ok (fun s H C cl fp => (hg s H C cl fp).pg) (fun s H C cl fp => (ht s H C cl fp).pts) (fun s H C cl fp => (he s H C cl fp).pe) hs,
    sim_asg (sim_compM hi.sim (hg X.s_0 (fun _ => none) 0 [] []).sim (ht X.s_0 (fun _ => none) 0 [] []).sim (he X.s_0 (fun _ => none) 0 [] []).sim hjs) (gj_name (X := X) (pos := py) (ci := ci) i hN hy (.inl hyl) (.inr hyl)).sim⟩
end
/-! ### a def that changes nothing of its caller's: its new cells are let go -/
def frz1 (h : Hs) (n : Nat) (f : List D → Option (List D)) (d : D) : Option D := match d with
  | .ref m => if m < n then none else match h[m]? with
    | some (.lst xs) => (f xs).map .lst
    | some (.ins c fs) => (f fs).map (.obj c)
    | none => none
  | .tup xs => (f xs).map .tup
  | _ => none
mutual
def frz (h : Hs) (n : Nat) : Nat → D → Option D
  | 0, _ => none
  | k + 1, d => if D.nr n d = true then some d else frz1 h n (frzs h n k) d
def frzs (h : Hs) (n : Nat) : Nat → List D → Option (List D)
  | 0, _ => none
  | _ + 1, [] => some []
  | k + 1, x :: xs => match frz h n k x, frzs h n k xs with
    | some y, some ys => some (y :: ys)
    | _, _ => none
end
theorem frz_nr {h : Hs} {n k : Nat} {d : D} (e : D.nr n d = true) : frz h n (k + 1) d = some d := by rw [frz, if_pos e]
theorem frz_lst {h : Hs} {n k m : Nat} {xs ys : List D} (hm : n ≤ m) (e : h[m]? = some (.lst xs)) (f : frzs h n k xs = some ys) : frz h n (k + 1) (.ref m) = some (.lst ys) := by
  rw [frz, if_neg (by rw [D.nr, decide_eq_true_eq]; omega)]
  unfold frz1
  dsimp only
  rw [if_neg (by omega), e]
  dsimp only
  rw [f]
  rfl
section
variable {g : G} {bs m : List Addr} {h h' : Hs} {H : Hp}
mutual
theorem frz_ok (hr : HRel g (bs ++ m) h' H) : ∀ (k : Nat) {d d' : D} {v : V}, frz h' bs.length k d = some d' → Rep g (bs ++ m) H d v → Rep g bs H d' v
  | 0, _, _, _, e, _ => by rw [frz] at e; cases e
  | k + 1, d, d', v, e, r => by
    rw [frz] at e
    split at e
    · rename_i hn
      cases e
      exact r.shrink hn
    · unfold frz1 at e
      split at e
      · rename_i j
        split at e
        · cases e
        · rename_i hj
          cases r with
          | @ref _ a hb =>
            have na : a ∉ bs := by
              intro z
              obtain ⟨i, hi⟩ := List.getElem?_of_mem z
              have hlt : i < bs.length := (List.getElem?_eq_some_iff.mp hi).1
              have hi' : (bs ++ m)[i]? = some a := by rw [List.getElem?_append_left hlt]; exact hi
              obtain ⟨l1, e1⟩ := List.getElem?_eq_some_iff.mp hi'
              obtain ⟨l2, e2⟩ := List.getElem?_eq_some_iff.mp hb
              have := (List.getElem_inj hr.nd).mp (e1.trans e2.symm)
              omega
            split at e
            · rename_i xs hx
              obtain ⟨a', g1, vs, g2, g3⟩ := hr.at_ _ _ hx
              rw [hb] at g1
              cases g1
              cases hz : frzs h' bs.length k xs with
              | none => rw [hz] at e; cases e
              | some ys => rw [hz] at e; cases e; exact .lst na g2 (frzs_ok hr k hz g3)
            · rename_i c xs hx
              obtain ⟨a', g1, C, dx, fvs, g2, g3, g4, g5⟩ := hr.at_ _ _ hx
              rw [hb] at g1
              cases g1
              cases hz : frzs h' bs.length k xs with
              | none => rw [hz] at e; cases e
              | some ys =>
                rw [hz] at e
                cases e
                have r5 := frzs_ok hr k hz g5
                exact .obj na g2 g3 (by rw [g4, g5.length, r5.length]) r5
            · cases e
      · rename_i xs _
        cases r with
        | tup t rs =>
          cases hz : frzs h' bs.length k xs with
          | none => rw [hz] at e; cases e
          | some ys =>
            rw [hz] at e
            cases e
            exact .tup (t.elim (fun z => .inl ⟨fun y => z.1 (List.mem_append_left _ y), z.2⟩) .inr) (frzs_ok hr k hz rs)
      · cases e
theorem frzs_ok (hr : HRel g (bs ++ m) h' H) : ∀ (k : Nat) {ds ds' : List D} {vs : List V}, frzs h' bs.length k ds = some ds' → Reps g (bs ++ m) H ds vs → Reps g bs H ds' vs
  | 0, _, _, _, e, _ => by rw [frzs] at e; cases e
  | k + 1, [], _, _, e, r => by
    rw [frzs] at e
    cases e
    cases r
    exact .nil
  | k + 1, x :: xs, _, _, e, r => by
    rw [frzs] at e
    cases r with
    | cons r1 r2 =>
      split at e
      · rename_i y ys h1 h2
        cases e
        exact .cons (frz_ok hr k h1 r1) (frzs_ok hr k h2 r2)
      · cases e
end
end
/-- what is left behind is new -/
def Grown (h h' : Hs) : Prop := ∃ more, h' = h ++ more
@[simp] theorem Grown_refl (h : Hs) : Grown h h = True := eq_true ⟨[], by simp⟩
@[simp] theorem Grown_app (h m : Hs) : Grown h (h ++ m) = True := eq_true ⟨m, rfl⟩
@[simp] theorem Grown_app2 (h m n : Hs) : Grown h (h ++ m ++ n) = True := eq_true ⟨m ++ n, by simp⟩
open Classical in
noncomputable def pureR (h : Hs) (r : R D) : R D := match r with
  | .ok d h' => if Grown h h' then (match frz h' h.length 12 d with
    | some d' => .ok d' h
    | none => .bad) else .bad
  | .err c fs h' => if Grown h h' ∧ D.nrs h.length fs = true then .err c fs h else .bad
  | .bad => .bad
noncomputable def pureG (G : List D → Hs → R D) : List D → Hs → R D := fun ds h => pureR h (G ds h)
theorem pureR_ok {h h' : Hs} {d d' : D} (hg : Grown h h') (f : frz h' h.length 12 d = some d') : pureR h (.ok d h') = .ok d' h := by
  unfold pureR
  dsimp only
  rw [if_pos hg, f]
@[simp] theorem pureR_bad (h : Hs) : pureR h .bad = .bad := rfl
theorem post_pure {g : G} {W : Value → Option Addr → Hp → Prop} {bs : List Addr} {h : Hs} {H : Hp} {r : R D} {Q : VK} (hr : HRel g bs h H) (p : Post (relV g) g W bs H (pureR h r) Q) : Post (relV g) g W bs H r Q := by
  cases r with
  | bad => exact p
  | ok d h' =>
    unfold pureR at p
    dsimp only at p
    split at p
    · rename_i hg
      split at p
      · rename_i d' hf
        intro bs' H' v e hr' rv
        obtain ⟨more, rfl⟩ := hg
        obtain ⟨⟨m, rfl, hm⟩, k, c⟩ := id e
        exact p bs H' v ⟨⟨[], by simp, fun _ z => nomatch z⟩, k, c⟩ (hr.pop hr') (frz_ok hr' 12 (by rw [hr.len]; exact hf) rv)
      · exact p.elim
    · exact p.elim
  | err c fs h' =>
    unfold pureR at p
    dsimp only at p
    split at p
    · rename_i hg
      obtain ⟨⟨more, rfl⟩, hn⟩ := hg
      intro C dd bs' H' e hr' z
      obtain ⟨⟨m, rfl, hm⟩, k, cc⟩ := id e
      obtain ⟨Ca, d, fvs, z1, z2, z3, z4, z5, z6, z7⟩ := z
      exact p C dd bs H' ⟨⟨[], by simp, fun _ z => nomatch z⟩, k, cc⟩ (hr.pop hr') ⟨Ca, d, fvs, z1, z2, z3, fun y => z4 (List.mem_append_left _ y), z5, z6, z7.shrink (by rw [hr.len]; exact hn)⟩
    · exact p.elim
theorem fn_pure {ci : Nat → String × List String} {P : Program} {w : World} {K : PySem.W.Frag} {mg : Str → Option Value} {base : Heap} {f : Addr} {fd : FuncData} {ps : List Str} {k n : Nat} {G : List D → Hs → R D} (h : FnOk P w K mg base (L2.CX P w) k f fd ps (spG ⟨K, mg, ci⟩ n G)) :
    FnOk P w K mg base (L2.CX P w) k f fd ps (spG ⟨K, mg, ci⟩ n (pureG G)) :=
  h.imp fun vs H Q E ⟨bs, hh, ds, h1, h2, h3, p⟩ => ⟨bs, hh, ds, h1, h2, h3, post_pure h2 p⟩
/-- told otherwise -/
theorem fn_imp {ci : Nat → String × List String} {P : Program} {w : World} {K : PySem.W.Frag} {mg : Str → Option Value} {base : Heap} {f : Addr} {fd : FuncData} {ps : List Str} {k n : Nat} {G G' : List D → Hs → R D} (h : FnOk P w K mg base (L2.CX P w) k f fd ps (spG ⟨K, mg, ci⟩ n G)) (e : ∀ ds hh, G' ds hh = .bad ∨ G ds hh = G' ds hh) :
    FnOk P w K mg base (L2.CX P w) k f fd ps (spG ⟨K, mg, ci⟩ n G') :=
  h.imp fun vs H Q E ⟨bs, hh, ds, h1, h2, h3, p⟩ => ⟨bs, hh, ds, h1, h2, h3, by
    rcases e ds hh with z | z
    · rw [z] at p; exact p.elim
    · rw [z]; exact p⟩
end Ev
set_option Elab.async false
set_option linter.all false
set_option maxRecDepth 100000
set_option maxHeartbeats 4000000
namespace Ev
open PySem L2

/-! ### the classes of the program -/
def tbl0 : List (String × List String) :=
  [("Policy", ["hold", "every", "quick"]), ("Setting", ["size", "policies"]), ("TurnState", ["rest", "kept", "blocked", "stuck", "pending", "quick"]), ("Outcome", ["stalls", "segments", "acknowledgments", "stalled"]),
   ("Side", []), ("Draft", []), ("Rules", []), ("Road", []), ("Trial", []), ("Searched", []), ("Talk", []), ("TurnGraph", []), ("Comparison", []), ("Desk", []), ("", []), ("", []), ("", []), ("", []), ("", []), ("", []),
   ("LatewordsError", []), ("BadSetting", ["name"]), ("BadWrite", ["index"]), ("BadOrder", ["index"]), ("NotPossible", ["event"]), ("TooLong", ["many"]), ("BadTalk", ["index"]), ("EndlessTurn", ["endpoint"]), ("BadPath", ["index"]), ("BadText", ["line"]), ("BadRow", ["column"]), ("NoTurn", ["turn"]), ("NoArc", ["arc"]), ("NoName", ["name"]), ("NothingDone", [])]
def ci0 (n : Nat) : String × List String := tbl0.getD n ("", [])
def BodyOk (P : Program) (w : World) (K : PySem.W.Frag) (mg : Str → Option Value) (base : Heap) (f : Addr) (qual : Str) (st : Stmt) (N : List Str) (k : Nat) (fb : En → Hs → S) : Prop :=
  ∀ (cdv : Value) (A : Around) (outer : List Env) (s : Shared) (H : Hp) (E : XK), Room k (A.deeper (PyProof.Rows.envOfC qual (defScope st) s.heap.objs.size f cdv)) → ∃ t, SsJ ci0 (bodyCx P w K mg base N qual st f cdv A outer s H E) (bodyW E) (defBody st) t fb
theorem Room.units65 {k : Nat} {A : Around} (hr : Room k A) : A.units + 65 < cLine := by have := hr.un; omega
section
variable {ci : Nat → String × List String} {K : PySem.W.Frag} {mg : Str → Option Value} {f : Str} {a b c d e i j k l m : Nat}
abbrev FT (ci : Nat → String × List String) (K : PySem.W.Frag) (mg : Str → Option Value) (f : Str) (tab : List (Nat × Nat)) : Prop := ∀ p ∈ tab, FldAt ci K mg f p.1 p.2
theorem tab1 (h : FldAt ci K mg f a i) : FT ci K mg f [(a, i)] := fun p z => by
  obtain rfl := List.mem_singleton.mp z
  exact h
theorem tabS {t : List (Nat × Nat)} (h : FldAt ci K mg f a i) (r : FT ci K mg f t) : FT ci K mg f ((a, i) :: t) := fun p z => by
  rcases List.mem_cons.mp z with rfl | z
  · exact h
  · exact r p z
theorem tab2 (h1 : FldAt ci K mg f a i) (h2 : FldAt ci K mg f b j) : FT ci K mg f [(a, i), (b, j)] := tabS h1 (tab1 h2)
theorem tab3 (h1 : FldAt ci K mg f a i) (h2 : FldAt ci K mg f b j) (h3 : FldAt ci K mg f c k) : FT ci K mg f [(a, i), (b, j), (c, k)] := tabS h1 (tab2 h2 h3)
end
end Ev
set_option Elab.async false
set_option linter.all false
set_option maxRecDepth 100000
set_option maxHeartbeats 4000000
namespace NeX
open PySem PySem.Spec PyProof.Rows PySem.SeqAt
section
variable {M : Model} {prog : Program} {w : World} {A : Around} {E : Value → Shared → Prop} {s : Shared} {K : PySem.W.Frag} {x y C f : Addr} {ox oy : Obj} {od od' : Option Obj}
theorem ifBound_ne {args : List Value} {Q : Option Value → Shared → Prop} (X : K.In s.heap) (I : PySem.W.InstAt s.heap x ox C od) (hs : PySem.W.findIn K (.ref C) "__ne__" = some (some (.builtin "object.__ne__")))
    (h : wpAny M A (call (.builtin "object.__ne__") (.ref x :: args)) (fun v => Q (some v)) E s) : wpAny M A (callSpecialIfBound? (.ref x) "__ne__" args) Q E s := by
  simp only [callSpecialIfBound?, bindSpecialIfBound?]
  refine wpAny_holding (wpAny_bind (wpAny_bind (wpAny_bind (I.type.here ((PySem.W.looks_findIn X hs).here ?_)))))
  refine wpAny_bind (wpAny_askSetting (wpAny_ite ?_))
  have fin : wpAny M A (call (.builtin "object.__ne__") ([.ref x] ++ args) >>= fun v => pure (some v)) Q E s := wpAny_bind (wpAny_mono h (fun v s' h' => wpAny_pure h') fun _ _ h' => h')
  split
  · exact wpAny_bind (wpAny_of_eq (F.cmp_object.ne.bind _) (wpAny_pure (by exact fin)))
  · exact wpAny_tryCatch (wpAny_bind (wpAny_of_eq (F.cmp_object.ne.bind _) (wpAny_pure (by exact fin))))
theorem entry_ne {Q : Fin → Shared → Prop} (hu : A.units < cLine) (X : K.In s.heap) (I : PySem.W.InstAt s.heap x ox C od) (hs : PySem.W.findIn K (.ref C) "__eq__" = some (some (.ref f))) (hf : PySem.W.isFn K (.ref f) = true)
    (h : wpAny (model prog w) A (call (.ref f) [.ref x, .ref y]) (fun v s' => ∃ b, v = .bool b ∧ Q (.done (.ret (.bool (!b)))) s') E s) :
    wpAny (model prog w) A (Builtin.«object.__ne__» ⟨[.ref x, .ref y], []⟩) Q E s := by
  unfold Builtin.«object.__ne__»
  repeat (first
    | with_reducible refine wpAny_cRoomFor hu ?_
    | (refine wpAny_bind (m := callSpecialIfBound? (.ref x) (Str.ofString "__eq__") [.ref y])
        (PySem.W.ifBound_K X I hs hf (wpAny_mono h (fun r s' hr => by
          obtain ⟨b, rfl, hq⟩ := hr
          repeat (first | exact hq | exact wpAny_pure hq | exact wpAny_truthy_bool hq | (refine wpAny_bind (m := truthy (.bool _)) (wpAny_truthy_bool ?_)) | wp_step)) fun _ _ e => e)))
    | wp_step)
theorem rc_ne {Q : Value → Shared → Prop} (hu : A.units + 1 < cLine) (X : K.In s.heap) (I : PySem.W.InstAt s.heap x ox C od) (I' : PySem.W.InstAt s.heap y oy C od') (hm : PySem.W.mroIn K C (.type "object") = some true)
    (hn : PySem.W.findIn K (.ref C) "__ne__" = some (some (.builtin "object.__ne__"))) (hs : PySem.W.findIn K (.ref C) "__eq__" = some (some (.ref f))) (hf : PySem.W.isFn K (.ref f) = true)
    (h : wpAny (model prog w) A.in1 (call (.ref f) [.ref x, .ref y]) (fun v s' => ∃ b, v = .bool b ∧ Q (.bool (!b)) s') E s) :
    wpAny (model prog w) A (richCompare .NotEq (.ref x) (.ref y)) Q E s := by
  have one : wpAny (model prog w) A (tryCompare (.ref x) "__ne__" (.ref y)) (fun r s' => ∃ v, r = some v ∧ Q v s') E s := by
    unfold tryCompare
    refine wpAny_bind (ifBound_ne X I hn (wpAny_call (codeAny_call_builtin F.cmp_object.ne.plain F.cmpEntry_ne (PySem.W.check_slot F.cmpKind_ne F.cmpSplit_ne (I.type.andThen (PySem.W.looks_mroIn X hm)) (F.cmpArgs_ne _ _)
      (entry_ne (A := A.in1) hu X I hs hf (wpAny_mono h (fun v s' hv => ?_) fun _ _ e => e))))))
    obtain ⟨b, rfl, hq⟩ := hv
    exact ⟨b, rfl, wpAny_pure ⟨_, rfl, hq⟩⟩
  unfold richCompare
  simp only [oneThing_ref]
  refine wpAny_holding (wpAny_bind (wpAny_cRoomFor (Nat.lt_of_succ_lt hu) ?_))
  rw [cmpInfo_NotEq]
  dsimp only
  refine wpAny_bind (I.type.here (wpAny_bind (I'.type.here ?_)))
  rw [show (Value.ref C != Value.ref C) = false from by simp]
  simp only [Bool.false_eq_true, if_false]
  refine wpAny_bind (wpAny_pure ?_)
  simp only [Bool.false_eq_true, if_false]
  refine wpAny_bind (wpAny_mono one (fun r s' z => ?_) fun _ _ e => e)
  obtain ⟨v, rfl, hq⟩ := z
  exact wpAny_pure hq
end
end NeX
namespace Ev
open PySem L2

/-! ### == and != by an own __eq__ -/
structure EqC (ci : Nat → String × List String) (P : Program) (w : World) (K : PySem.W.Frag) (mg : Str → Option Value) (base : Heap) (c k : Nat) (F : List D → List D → Hs → R D) : Prop where
  ex : ∃ C f, mg (Str.ofString (ci c).1) = some (.ref C) ∧ PySem.W.findIn K (.ref C) "__eq__" = some (some (.ref f)) ∧ PySem.W.isFn K (.ref f) = true ∧ PySem.W.findIn K (.ref C) "__ne__" = some (some (.builtin "object.__ne__")) ∧ PySem.W.mroIn K C (.type "object") = some true ∧ FnC ci P w K mg base k f [] F
def rOwnC (g : G) (c : Nat) (F : List D → List D → Hs → R D) : R2 := fun x y H Q => ∃ C a b dx dy fs gs, IsCls g c C ∧ x = .ref a ∧ y = .ref b ∧ H a = some (.ins C dx fs) ∧ H b = some (.ins C dy gs) ∧ Asks g (fun _ _ _ => False) F [x, y] [] H Q
def rOwnN (g : G) (c : Nat) (F : List D → List D → Hs → R D) : R2 := fun x y H Q => rOwnC g c F x y H fun v H' => ∃ b, v = .bl b ∧ Q (.bl (!b)) H'
def R.nerr {α : Type} : R α → R α
  | .err _ _ _ => .bad
  | r => r
@[simp] theorem R.nerr_ok {α : Type} (a : α) (h : Hs) : (R.ok a h).nerr = .ok a h := rfl
@[simp] theorem R.nerr_bad {α : Type} : (R.bad : R α).nerr = .bad := rfl
def eqOwnD (c : Nat) (F : List D → List D → Hs → R D) (x y : D) (h : Hs) : R D := if isIns c x h = true ∧ isIns c y h = true then (F [x, y] [] h).nerr else .bad
def neOwnD (c : Nat) (F : List D → List D → Hs → R D) (x y : D) (h : Hs) : R D := (eqOwnD c F x y h).bind fun d h1 => match d with
  | .bl b => .ok (.bl (!b)) h1
  | _ => .bad
theorem post_nerr {g : G} {W W' : Value → Option Addr → Hp → Prop} {bs : List Addr} {H : Hp} {Q : VK} {r : R D} (p : Post (relV g) g W bs H r.nerr Q) : Post (relV g) g W' bs H r Q := by
  cases r with
  | ok a h' => exact p
  | bad => exact p.elim
  | err c fs h' => exact p.elim
theorem opj_eqOwn {g : G} {c : Nat} {F : List D → List D → Hs → R D} : OpJ g (rOwnC g c F) (eqOwnD c F) := ⟨fun W bs h H x y vx vy Q hr rx ry p => by
  unfold eqOwnD at p
  split at p
  · rename_i hi
    obtain ⟨a, C, dx, fs, n, rfl, c1, c2, c3⟩ := isIns_ok hr rx hi.1
    obtain ⟨b, C', dy, gs, n', rfl, c1', c2', c3'⟩ := isIns_ok hr ry hi.2
    have e : g.mg (Str.ofString (g.ci c).1) = some (.ref C) := c1
    have e' : g.mg (Str.ofString (g.ci c).1) = some (.ref C') := c1'
    rw [e] at e'
    cases e'
    exact ⟨C, a, b, dx, dy, fs, gs, c1, rfl, rfl, c2, c2', bs, h, [x, y], [], hr, .cons rx (.cons ry .nil), .nil, post_nerr p⟩
  · exact p.elim⟩
theorem opj_neOwn {g : G} {c : Nat} {F : List D → List D → Hs → R D} : OpJ g (rOwnN g c F) (neOwnD c F) := ⟨fun W bs h H x y vx vy Q hr rx ry p =>
  Post.step (M := fun Q' => rOwnC g c F vx vy H Q') (fun Q' q => opj_eqOwn.run W bs h H x y vx vy Q' hr rx ry q) p fun z vz bs1 H1 h1 e1 hr1 rz p1 => by
    cases rz with
    | bl k => exact ⟨k, rfl, Post.ok_ p1 hr1 (.bl _)⟩
    | _ => exact p1.elim⟩
section
variable {ci : Nat → String × List String} {X : Cx} {c k : Nat} {F : List D → List D → Hs → R D}
theorem opr_eqOwn (h : EqC ci X.prog X.w X.K X.mg X.base c k F) (hr : Room k X.A) : OpR X (compareOp .Eq) (rOwnC (X.g ci) c F) := by
  obtain ⟨C, f, h1, h2, h3, h4, h5, h6⟩ := h.ex
  intro pins s σ H x y v u Q I rx ry ⟨C', a, b, dx, dy, fs, gs, hC', ex, ey, ha, hb, q⟩
  subst ex ey
  have hC2 : X.mg (Str.ofString (ci c).1) = some (.ref C') := hC'
  rw [h1] at hC2
  cases hC2
  cases (show v = Value.ref a from rx)
  cases (show u = Value.ref b from ry)
  obtain ⟨mA, J, _⟩ := ins_get I.hok ha
  obtain ⟨mB, J', _⟩ := ins_get I.hok hb
  obtain ⟨od, J, _⟩ := J.look
  obtain ⟨od', J', _⟩ := J'.look
  obtain ⟨m, hF⟩ := I.fr
  show wpAny (model X.prog X.w) X.A (richCompare .Eq (.ref a) (.ref b)) (EP X pins σ Q) X.xe s
  refine PySem.W.cmp_K (op := .Eq) (tb := .ref C) hr.units0 hF I.ok.mod.kin J J'.type (by simp [PySem.W.notFirst]) h2 h3 ?_
  refine wpAny_mono (run_c (us := [.ref a, .ref b]) (ws := []) (vs := [.ref a, .ref b]) (zs := []) (W := W0) h6 hr takes0 I (.cons rfl (.cons rfl .nil)) .nil rfl q) (fun w s' z => ?_) fun _ _ x => x
  obtain ⟨z', H', I', rz, qz⟩ := z
  exact SlX.cmpback rz ⟨z', H', I', rz, qz⟩
theorem opr_neOwn (h : EqC ci X.prog X.w X.K X.mg X.base c k F) (hr : Room (k + 1) X.A) : OpR X (compareOp .NotEq) (rOwnN (X.g ci) c F) := by
  obtain ⟨C, f, h1, h2, h3, h4, h5, h6⟩ := h.ex
  intro pins s σ H x y v u Q I rx ry ⟨C', a, b, dx, dy, fs, gs, hC', ex, ey, ha, hb, q⟩
  subst ex ey
  have hC2 : X.mg (Str.ofString (ci c).1) = some (.ref C') := hC'
  rw [h1] at hC2
  cases hC2
  cases (show v = Value.ref a from rx)
  cases (show u = Value.ref b from ry)
  obtain ⟨mA, J, _⟩ := ins_get I.hok ha
  obtain ⟨mB, J', _⟩ := ins_get I.hok hb
  obtain ⟨od, J, _⟩ := J.look
  obtain ⟨od', J', _⟩ := J'.look
  show wpAny (model X.prog X.w) X.A (richCompare .NotEq (.ref a) (.ref b)) (EP X pins σ Q) X.xe s
  refine NeX.rc_ne (by have := hr.un; omega) I.kIn J J' h5 h4 h2 h3 ?_
  have hc := h6.run X.A.in1 X.stack s H [.ref a, .ref b] [] [.ref a, .ref b] [] (fun v H' => ∃ b, v = .bl b ∧ Q (.bl (!b)) H') (fun _ _ _ => False) hr.in1 I.env0.in1 (.cons rfl (.cons rfl .nil)) .nil rfl q
  refine wpAny_call (codeAny_mono hc fun r s' hq => ?_)
  cases r with
  | error e => exact passAt (takes0 (X := X)) σ pins H s e s' I hq
  | ok fl =>
    cases fl with
    | ret u =>
      obtain ⟨z, H', I', rz, b', ez, qz⟩ := I.after hq
      subst ez
      exact ⟨b', rz, .bl (!b'), H', I', rfl, qz⟩
    | next => exact False.elim hq
    | brk => exact False.elim hq
    | cont => exact False.elim hq
end
end Ev
set_option Elab.async false
set_option linter.all false
set_option maxRecDepth 100000
set_option maxHeartbeats 4000000
namespace Ev
open PySem L2

/-! ### a statement that is never reached -/
def sBad : En → Hs → S := fun _ _ => .bad
theorem sj_bad {ci : Nat → String × List String} {X : Cx} {W : WX} {st : Stmt} : SJ ci X W st (fun _ _ _ => False) sBad :=
  ⟨⟨fun _ _ _ _ _ _ h => h.elim⟩, fun _ _ _ _ _ _ _ _ p => p⟩
/-! ### comprehensions, their own places told; their readings may name the block -/
abbrev FamE := Shared → Hp → Addr → List (Str × Addr) → List Addr → TE
abbrev FamT := Shared → Hp → Addr → List (Str × Addr) → List Addr → TT
abbrev FamG := Shared → Hp → Addr → List (Str × Addr) → List Addr → TG
def allE (te : FamE) : TE := fun σ H' Q => ∀ s H C cl fp, te s H C cl fp σ H' Q
def allT (te : FamT) : TT := fun σ H' Q => ∀ s H C cl fp, te s H C cl fp σ H' Q
def allG (te : FamG) : TG := fun v σ H' Q => ∀ s H C cl fp, te s H C cl fp v σ H' Q
section
variable {ci : Nat → String × List String} {X : Cx} {W : WX} {elt tg iter : Expr} {ifs : List Expr} {scope : Scope} {own : List (Str × Nat)} {pos spos py : Pos} {y : Str} {wi : TI} {t : FamG} {tt : FamT} {te : FamE} {fi : En → Hs → R Src} {k : D → En → Option En} {js jo : List Nat} {ft : En → Hs → R Bool} {fe : En → Hs → R D}
theorem famE (he : ∀ (s : Shared) (H : Hp) (C : Addr) (cl : List (Str × Addr)) (fp : List Addr), EJ ci (X.blk s H scope (compEnvC scope cl C X.env) fp) W0 elt (te s H C cl fp) fe) : ∀ (s : Shared) (H : Hp) (C : Addr) (cl : List (Str × Addr)) (fp : List Addr), EJ ci (X.blk s H scope (compEnvC scope cl C X.env) fp) W0 elt (allE te) fe :=
  fun s H C cl fp => ⟨⟨fun pins s' σ H' Q I h => (he s H C cl fp).pe.run pins s' σ H' Q I (h s H C cl fp)⟩, fun σ H' env h bs Q er hr p => fun s2 H2 C2 cl2 fp2 => (he s2 H2 C2 cl2 fp2).sim σ H' env h bs Q er hr p⟩
theorem famT (he : ∀ (s : Shared) (H : Hp) (C : Addr) (cl : List (Str × Addr)) (fp : List Addr), TsJ ci (X.blk s H scope (compEnvC scope cl C X.env) fp) ifs (tt s H C cl fp) ft) : ∀ (s : Shared) (H : Hp) (C : Addr) (cl : List (Str × Addr)) (fp : List Addr), TsJ ci (X.blk s H scope (compEnvC scope cl C X.env) fp) ifs (allT tt) ft :=
  fun s H C cl fp => ⟨⟨fun pins s' σ H' Q I h => (he s H C cl fp).pts.run pins s' σ H' Q I (h s H C cl fp)⟩, fun σ H' env h bs Q er hr p => fun s2 H2 C2 cl2 fp2 => (he s2 H2 C2 cl2 fp2).sim σ H' env h bs Q er hr p⟩
theorem famG (he : ∀ (s : Shared) (H : Hp) (C : Addr) (cl : List (Str × Addr)) (fp : List Addr), GJ ci (X.blk s H scope (compEnvC scope cl C X.env) fp) tg (t s H C cl fp) k js) : ∀ (s : Shared) (H : Hp) (C : Addr) (cl : List (Str × Addr)) (fp : List Addr), GJ ci (X.blk s H scope (compEnvC scope cl C X.env) fp) tg (allG t) k js :=
  fun s H C cl fp => ⟨⟨fun pins s' σ H' v u Q I r h => (he s H C cl fp).pg.run pins s' σ H' v u Q I r (h s H C cl fp)⟩, fun v d σ H' env env' h bs Q r er hr e q => fun s2 H2 C2 cl2 fp2 => (he s2 H2 C2 cl2 fp2).sim v d σ H' env env' h bs Q r er hr e q⟩
theorem ejJ_lc (hc : X.calm = true) (hN : X.N.Nodup) (hi : IJ ci X W tg iter wi fi) (ok : BlkOk X.N X.env.scope scope own) (ho : own.map (·.2) = jo) (hjs : ∀ j ∈ js, j ∈ own.map (·.2))
    (hg : ∀ (s : Shared) (H : Hp) (C : Addr) (cl : List (Str × Addr)) (fp : List Addr), GJ ci (X.blk s H scope (compEnvC scope cl C X.env) fp) tg (t s H C cl fp) k js) (ht : ∀ (s : Shared) (H : Hp) (C : Addr) (cl : List (Str × Addr)) (fp : List Addr), TsJ ci (X.blk s H scope (compEnvC scope cl C X.env) fp) ifs (tt s H C cl fp) ft)
    (he : ∀ (s : Shared) (H : Hp) (C : Addr) (cl : List (Str × Addr)) (fp : List Addr), EJ ci (X.blk s H scope (compEnvC scope cl C X.env) fp) W0 elt (te s H C cl fp) fe) (hs : ∀ x, foldedSetIterable iter X.env x = pure x := by intro _; rfl) :
    EJ ci X W (.ListComp elt [⟨tg, iter, ifs, 0⟩] scope pos) (tLc wi (allG t) (allT tt) (allE te) jo) (eComp fi k ft fe jo) := by
  subst ho
  exact ej_lc hc hN hi ok hjs (famG hg) (famT ht) (famE he) hs
theorem sjJ_setLc (i : Nat) (hc : X.calm = true) (hN : X.N.Nodup) (hi : IJ ci X W tg iter wi fi) (ok : BlkOk X.N X.env.scope scope own) (ho : own.map (·.2) = jo) (hjs : ∀ j ∈ js, j ∈ own.map (·.2))
    (hg : ∀ (s : Shared) (H : Hp) (C : Addr) (cl : List (Str × Addr)) (fp : List Addr), GJ ci (X.blk s H scope (compEnvC scope cl C X.env) fp) tg (t s H C cl fp) k js) (ht : ∀ (s : Shared) (H : Hp) (C : Addr) (cl : List (Str × Addr)) (fp : List Addr), TsJ ci (X.blk s H scope (compEnvC scope cl C X.env) fp) ifs (tt s H C cl fp) ft)
    (he : ∀ (s : Shared) (H : Hp) (C : Addr) (cl : List (Str × Addr)) (fp : List Addr), EJ ci (X.blk s H scope (compEnvC scope cl C X.env) fp) W0 elt (te s H C cl fp) fe) (hs : ∀ x, foldedSetIterable iter X.env x = pure x := by intro _; rfl)
    (hy : X.N[i]? = some y := by rfl) (hyl : X.env.scope.names.lookup y = some .local := by rfl) (hsw : swapsWith (.ListComp elt [⟨tg, iter, ifs, 0⟩] scope pos) (some (.Name y py)) spos.line X.env = pure true := by exact sw_true rfl rfl rfl (by decide +kernel)) :
    SJ ci X W (.Assign [.Name y py] (.ListComp elt [⟨tg, iter, ifs, 0⟩] scope pos) spos) (tAsg (tLc wi (allG t) (allT tt) (allE te) jo) (gName i)) (sAsg (eComp fi k ft fe jo) (kName i)) := by
  subst ho
  exact sj_setLc i hc hN hi ok hjs (famG hg) (famT ht) (famE he) hs hy hyl hsw
theorem ejJ_lcM (hc : X.calm = true) (hN : X.N.Nodup) (hi : IJ ci X W tg iter wi fi) (ok : BlkOk X.N X.env.scope scope own) (ho : own.map (·.2) = jo) (hjs : ∀ j ∈ js, j ∈ own.map (·.2))
    (hg : ∀ (s : Shared) (H : Hp) (C : Addr) (cl : List (Str × Addr)) (fp : List Addr), GJ ci (X.blk s H scope (compEnvC scope cl C X.env) fp) tg (t s H C cl fp) k js) (ht : ∀ (s : Shared) (H : Hp) (C : Addr) (cl : List (Str × Addr)) (fp : List Addr), TsJ ci (X.blk s H scope (compEnvC scope cl C X.env) fp) ifs (tt s H C cl fp) ft)
    (he : ∀ (s : Shared) (H : Hp) (C : Addr) (cl : List (Str × Addr)) (fp : List Addr), EJ ci (X.blk s H scope (compEnvC scope cl C X.env) fp) W0 elt (te s H C cl fp) fe) (hs : ∀ x, foldedSetIterable iter X.env x = pure x := by intro _; rfl) :
    EJ ci X W (.ListComp elt [⟨tg, iter, ifs, 0⟩] scope pos) (tLc wi (allG t) (allT tt) (allE te) jo) (eCompM fi k ft fe jo) := by
  subst ho
  exact ej_lcM hc hN hi ok hjs (famG hg) (famT ht) (famE he) hs
theorem sjJ_setLcM (i : Nat) (hc : X.calm = true) (hN : X.N.Nodup) (hi : IJ ci X W tg iter wi fi) (ok : BlkOk X.N X.env.scope scope own) (ho : own.map (·.2) = jo) (hjs : ∀ j ∈ js, j ∈ own.map (·.2))
    (hg : ∀ (s : Shared) (H : Hp) (C : Addr) (cl : List (Str × Addr)) (fp : List Addr), GJ ci (X.blk s H scope (compEnvC scope cl C X.env) fp) tg (t s H C cl fp) k js) (ht : ∀ (s : Shared) (H : Hp) (C : Addr) (cl : List (Str × Addr)) (fp : List Addr), TsJ ci (X.blk s H scope (compEnvC scope cl C X.env) fp) ifs (tt s H C cl fp) ft)
    (he : ∀ (s : Shared) (H : Hp) (C : Addr) (cl : List (Str × Addr)) (fp : List Addr), EJ ci (X.blk s H scope (compEnvC scope cl C X.env) fp) W0 elt (te s H C cl fp) fe) (hs : ∀ x, foldedSetIterable iter X.env x = pure x := by intro _; rfl)
    (hy : X.N[i]? = some y := by rfl) (hyl : X.env.scope.names.lookup y = some .local := by rfl) (hsw : swapsWith (.ListComp elt [⟨tg, iter, ifs, 0⟩] scope pos) (some (.Name y py)) spos.line X.env = pure true := by exact sw_true rfl rfl rfl (by decide +kernel)) :
    SJ ci X W (.Assign [.Name y py] (.ListComp elt [⟨tg, iter, ifs, 0⟩] scope pos) spos) (tAsg (tLc wi (allG t) (allT tt) (allE te) jo) (gName i)) (sAsg (eCompM fi k ft fe jo) (kName i)) := by
  subst ho
  exact sj_setLcM i hc hN hi ok hjs (famG hg) (famT ht) (famE he) hs hy hyl hsw
end
/-! ### defaults, keywords, stars -/
inductive Seg where
  | d (i : Nat) | m (i : Nat) | k (i : Nat)
def gSeg {α : Type} (us its mv ws : List α) : List Seg → List α
  | [] => us
  | .d i :: r => gSeg (us ++ (its.drop i).take 1) its mv ws r
  | .m i :: r => gSeg (us ++ (mv.drop i).take 1) its mv ws r
  | .k i :: r => gSeg (us ++ (ws.drop i).take 1) its mv ws r
theorem gSeg_vals {its mv ws : List Value} {dvs mvs zs : List V} (r1 : Vals dvs its) (r2 : Vals mvs mv) (r3 : Vals zs ws) : ∀ (sg : List Seg) {us : List Value} {vs : List V}, Vals vs us → Vals (gSeg vs dvs mvs zs sg) (gSeg us its mv ws sg)
  | [], _, _, r => r
  | .d i :: sg, _, _, r => gSeg_vals r1 r2 r3 sg (r.append ((r1.drop i).take 1))
  | .m i :: sg, _, _, r => gSeg_vals r1 r2 r3 sg (r.append ((r2.drop i).take 1))
  | .k i :: sg, _, _, r => gSeg_vals r1 r2 r3 sg (r.append ((r3.drop i).take 1))
theorem gSeg_reps {g : G} {bs : List Addr} {H : Hp} {dds mds es : List D} {dvs mvs zs : List V} (r1 : Reps g bs H dds dvs) (r2 : Reps g bs H mds mvs) (r3 : Reps g bs H es zs) : ∀ (sg : List Seg) {ds : List D} {vs : List V}, Reps g bs H ds vs → Reps g bs H (gSeg ds dds mds es sg) (gSeg vs dvs mvs zs sg)
  | [], _, _, r => r
  | .d i :: sg, _, _, r => gSeg_reps r1 r2 r3 sg (r.append ((r1.drop i).take 1))
  | .m i :: sg, _, _, r => gSeg_reps r1 r2 r3 sg (r.append ((r2.drop i).take 1))
  | .k i :: sg, _, _, r => gSeg_reps r1 r2 r3 sg (r.append ((r3.drop i).take 1))
def dS (sg : List Seg) (dds mds : List D) : List D → List D → List D := fun ds es => gSeg ds dds mds es sg
def segOk (a b c : Nat) : Seg → Bool
  | .d i => decide (i < a)
  | .m i => decide (i < b)
  | .k i => decide (i < c)
theorem gSeg_len {α : Type} {its mv ws : List α} : ∀ (sg : List Seg) {us : List α}, sg.all (segOk its.length mv.length ws.length) = true → (gSeg us its mv ws sg).length = us.length + sg.length
  | [], us, _ => rfl
  | .d i :: sg, us, h => by
    obtain ⟨h1, h2⟩ := Bool.and_eq_true_iff.mp (show (decide (i < its.length) && sg.all _) = true from h)
    have := of_decide_eq_true h1
    rw [gSeg, gSeg_len sg h2, List.length_append, List.length_take, List.length_drop, List.length_cons]; omega
  | .m i :: sg, us, h => by
    obtain ⟨h1, h2⟩ := Bool.and_eq_true_iff.mp (show (decide (i < mv.length) && sg.all _) = true from h)
    have := of_decide_eq_true h1
    rw [gSeg, gSeg_len sg h2, List.length_append, List.length_take, List.length_drop, List.length_cons]; omega
  | .k i :: sg, us, h => by
    obtain ⟨h1, h2⟩ := Bool.and_eq_true_iff.mp (show (decide (i < ws.length) && sg.all _) = true from h)
    have := of_decide_eq_true h1
    rw [gSeg, gSeg_len sg h2, List.length_append, List.length_take, List.length_drop, List.length_cons]; omega
section
variable {ci : Nat → String × List String} {P : Program} {w : World} {K : PySem.W.Frag} {mg : Str → Option Value} {base : Heap} {f : Addr} {fd : FuncData} {ps ks : List Str} {k n : Nat} {G : List D → Hs → R D} {x qual : Str} {params : Arguments} {body : List Stmt} {scope : Scope} {dvs : List V} {kws : List (Str × V)}
theorem FnC.kwS {its mv : List Value} {mvs : List V} {sg : List Seg} {dds mds : List D} (np : Nat) (h : FnOk P w K mg base (L2.CX P w) k f fd ps (spG ⟨K, mg, ci⟩ n G)) (hb : KBn K fd ps np ks (fun us ws => gSeg us its mv ws sg) (fun vs zs => gSeg vs dvs mvs zs sg))
    (hd : ∀ bs H, Reps ⟨K, mg, ci⟩ bs H dds dvs) (hm : ∀ bs H, Reps ⟨K, mg, ci⟩ bs H mds mvs) (hs : sg.all (segOk dds.length mds.length ks.length) = true) (hn : np + sg.length = n) : FnC ci P w K mg base k f ks (kwF np ks.length (dS sg dds mds) G) :=
  FnC.kw np h hb fun {bs H ds es vs zs} r1 r2 l1 l2 => ⟨gSeg_reps (hd bs H) (hm bs H) r2 sg r1, by unfold dS; rw [gSeg_len sg (by rw [l2]; exact hs), l1]; exact hn⟩
/-- a def with positional defaults -/
theorem kb_d (F : FunD K x qual params body scope dvs kws f fd) (np : Nat) (ks : List Str) (sg : List Seg) (hd : dvs ≠ [])
    (h : ∀ (T : Addr) (kV doc pm : Value) (an : Option Addr) (cdv ct : Value) (us its ws : List Value), us.length = np → its.length = dvs.length → ws.length = ks.length →
      ∃ k, bindArgs (PySem.W.fnOf x qual params body scope (.ref T) kV doc pm an cdv ct) ⟨us, ks.zip ws⟩ = seqItems? (.ref T) >>= k ∧ k (some its.toArray) = pure (ps.zip (gSeg us its [] ws sg))) :
    ∃ its mv : List Value, KBn K fd ps np ks (fun us ws => gSeg us its mv ws sg) (fun vs zs => gSeg vs dvs [] zs sg) := by
  obtain ⟨its, hb⟩ := FunD.kbindsD (ps := ps) F np ks (fun us its ws => gSeg us its [] ws sg) hd (fun {vs ds zs us its ws} r1 r2 r3 => gSeg_vals r2 .nil r3 sg r1) h
  exact ⟨its, [], hb⟩
/-- .. keyword-only defaults too -/
theorem kb_dk (F : FunD K x qual params body scope dvs kws f fd) (np : Nat) (ks : List Str) (ms : List (Str × V)) (sg : List Seg) (hd : dvs ≠ []) (hk : kws ≠ []) (hms : ∀ q ∈ ms, q ∈ kws)
    (h : ∀ (T D : Addr) (doc pm : Value) (an : Option Addr) (cdv ct : Value) (us its mv ws : List Value), us.length = np → its.length = dvs.length → mv.length = ms.length → ws.length = ks.length →
      ∃ k, bindArgs (PySem.W.fnOf x qual params body scope (.ref T) (.ref D) doc pm an cdv ct) ⟨us, ks.zip ws⟩ = seqItems? (.ref T) >>= k ∧ KwChain D ((ms.map (·.1)).zip mv) (k (some its.toArray)) (ps.zip (gSeg us its mv ws sg))) :
    ∃ its mv : List Value, KBn K fd ps np ks (fun us ws => gSeg us its mv ws sg) (fun vs zs => gSeg vs dvs (ms.map (·.2)) zs sg) :=
  FunD.kbinds (ps := ps) F np ks ms (fun us its mv ws => gSeg us its mv ws sg) hd hk hms (fun {vs ds mz zs us its mv ws} r1 r2 r3 r4 => gSeg_vals r2 r3 r4 sg r1) h
/-- .. keyword-only defaults alone -/
theorem kb_k (F : FunD K x qual params body scope [] kws f fd) (np : Nat) (ks : List Str) (ms : List (Str × V)) (sg : List Seg) (hk : kws ≠ []) (hms : ∀ q ∈ ms, q ∈ kws)
    (h : ∀ (D : Addr) (doc pm : Value) (an : Option Addr) (cdv ct : Value) (us mv ws : List Value), us.length = np → mv.length = ms.length → ws.length = ks.length →
      KwChain D ((ms.map (·.1)).zip mv) (bindArgs (PySem.W.fnOf x qual params body scope .none (.ref D) doc pm an cdv ct) ⟨us, ks.zip ws⟩) (ps.zip (gSeg us [] mv ws sg))) :
    ∃ its mv : List Value, KBn K fd ps np ks (fun us ws => gSeg us its mv ws sg) (fun vs zs => gSeg vs [] (ms.map (·.2)) zs sg) := by
  obtain ⟨mv, hb⟩ := FunD.kbinds0 (ps := ps) F np ks ms (fun us mv ws => gSeg us [] mv ws sg) hk hms (fun {vs mz zs us mv ws} r1 r2 r3 => gSeg_vals .nil r2 r3 sg r1) h
  exact ⟨[], mv, hb⟩
end
/-- what is left over is a new tuple -/
theorem fn_bodyS {ci : Nat → String × List String} {P : Program} {w : World} {K : PySem.W.Frag} {mg : Str → Option Value} {base : Heap} {x qual pv : Str} {st : Stmt} {f : Addr} {fd : FuncData} {N ps : List Str} {k np : Nat} {fb : En → Hs → S} {kws : List (Str × V)} (hps : ps.length = np)
    (F : FunD K x qual (defArgs st) (defBody st) (defScope st) [] kws f fd) (S : FnScope N (ps ++ [pv]) (defScope st))
    (hbind : ∀ (kV doc pm : Value) (an : Option Addr) (cdv ct : Value) (us rest : List Value), us.length = ps.length → bindArgs (PySem.W.fnOf x qual (defArgs st) (defBody st) (defScope st) .none kV doc pm an cdv ct) ⟨us ++ rest, []⟩ = (newTuple rest >>= fun t => pure (ps.zip us ++ [(pv, t)])))
    (hb : ∀ (cdv : Value) (A : Around) (outer : List Env) (s : Shared) (H : Hp) (E : XK), Room k (A.deeper (PyProof.Rows.envOfC qual (defScope st) s.heap.objs.size f cdv)) → ∃ t, SsJ ci (bodyCx P w K mg base N qual st f cdv A outer s H E) (bodyW E) (defBody st) t fb) :
    FnC ci P w K mg base (k + 1) f [] (starF np (runB N.length fb)) := by
  obtain ⟨oc, od, dV, kV, doc, pm, an, cdv, ct, osl, rfl, lk, hcd, hD, hK⟩ := F.ex
  have eD : dV = .none := by
    rcases hD with ⟨_, e⟩ | ⟨e, _⟩
    · exact e
    · exact absurd rfl e
  subst eD
  refine FnC.star (ps := ps) hps (StX.fn_star (sp := spG ⟨K, mg, ci⟩ (np + 1) (runB N.length fb)) lk hcd S StX.cxUp (hbind kV doc pm an cdv ct) fun A outer s H vs Q E hr h => ?_)
  obtain ⟨bs, hh, ds, hl, hrl, r, p⟩ := h
  obtain ⟨t, hj⟩ := hb cdv A outer s H E hr
  exact ⟨t, hj.pss, post_body hj.sim hrl r p⟩
/-! ### facts of the written part -/
namespace Fx
open He
abbrev Fr := PySem.W.Frag
def allB (fs : List (Fr → Bool)) (K : Fr) : Bool := fs.all fun f => f K
theorem at_ {fs : List (Fr → Bool)} {K : Fr} (h : allB fs K = true) (i : Nat) {f : Fr → Bool} (e : fs[i]? = some f) : f K = true := List.all_eq_true.mp h f (List.mem_of_getElem? e)
def asZ (g : Addr → Option Obj) (n : Nat) : List Addr := asD g n ++ [cStatics]
abbrev AlZ : Type := AlD × Bool
def obsZ (n : Nat) (fn : List DefD) (fs : List (Fr → Bool)) (g : Addr → Option Obj) : AlZ := (obsD [] fn (frG g (asZ g n)), allB fs (frG g (asZ g n)))
def hookZ (n : Nat) (fn : List DefD) (fs : List (Fr → Bool)) : PySem.W.Hook where
  α := AlZ
  obs := fun s => obsZ n fn fs s.heap.get?
  val := fun _ => (valD fn, true)
  says := fun _ h => ∃ K : Fr, K.In h ∧ SaysD [] fn K ∧ allB fs K = true
  of := fun _ _ e => ⟨_, frG_in, congrArg (fun z : AlZ => z.1) e, congrArg (fun z : AlZ => z.2) e⟩
  keeps := fun _ _ _ ⟨K, hK, c⟩ k => ⟨K, PySem.W.Frag.In.keeps hK k, c⟩
theorem obsZ_eq {n : Nat} {fn : List DefD} {fs : List (Fr → Bool)} {g : Addr → Option Obj} {s : Shared} (h : ∀ a, g a = s.heap.get? a) : obsZ n fn fs g = (hookZ n fn fs).obs s := by
  have e : g = s.heap.get? := funext h
  rw [e] <;> rfl
/-! values of the module and of classes -/
mutual
def repB (K : Fr) : Nat → D → Value → Bool
  | 0, _, _ => false
  | _ + 1, .non, .none => true
  | _ + 1, .bl b, .bool c => b == c
  | _ + 1, .int i, .int j _ => decide (i = j)
  | _ + 1, .str s, .str t _ => decide (s = t) && PyData.strOk s
  | n + 1, .tup ds, .ref a => (match K.lookup a with
    | some ⟨.type c, _, .seq its _, _⟩ => decide (c = "tuple") && (decide (its.size ≤ sizeLine) && repBs K n ds its.toList)
    | _ => false)
  | n + 1, .rol ds, .ref a => (match K.lookup a with
    | some ⟨.type c, none, .seq its _, _⟩ => decide (c = "list") && (decide (its.size ≤ sizeLine) && repBs K n ds its.toList)
    | _ => false)
  | _, _, _ => false
def repBs (K : Fr) : Nat → List D → List Value → Bool
  | 0, _, _ => false
  | _ + 1, [], [] => true
  | n + 1, d :: ds, v :: vs => repB K n d v && repBs K n ds vs
  | _, _, _ => false
end
section
variable {ci : Nat → String × List String} {K : Fr} {mg : Str → Option Value} {h : Heap}
mutual
theorem repB_ok : ∀ (n : Nat) {d : D} {u : Value}, repB K n d u = true → ∃ v, RelV v u ∧ RepK ci K mg d v
  | 0, _, _, h => by rw [repB] at h; cases h
  | n + 1, d, u, h => by
    cases d with
    | non => cases u <;> first | exact ⟨.non, rfl, fun _ _ => .non⟩ | (simp [repB] at h)
    | bl b =>
      cases u with
      | bool c =>
        rw [repB] at h
        obtain rfl := eq_of_beq h
        exact ⟨.bl b, rfl, fun _ _ => .bl b⟩
      | _ => simp [repB] at h
    | int i =>
      cases u with
      | int j t =>
        rw [repB] at h
        obtain rfl := of_decide_eq_true h
        exact ⟨.int i, ⟨t, rfl⟩, fun _ _ => .int i⟩
      | _ => simp [repB] at h
    | str s =>
      cases u with
      | str z t =>
        rw [repB] at h
        obtain ⟨h1, h2⟩ := ba h
        obtain rfl := of_decide_eq_true h1
        exact ⟨.str s, ⟨t, rfl⟩, fun _ _ => .str h2⟩
      | _ => simp [repB] at h
    | tup ds =>
      cases u with
      | ref a =>
        rw [repB] at h
        split at h
        · rename_i c od its m sl q
          obtain ⟨h1, h2⟩ := ba h
          obtain ⟨h3, h4⟩ := ba h2
          obtain rfl := of_decide_eq_true h1
          obtain ⟨vs, r1, r2⟩ := repBs_ok n h4
          exact ⟨.ref a, rfl, fun bs H => .tup (.inr ⟨_, its, m, q, rfl, rfl, of_decide_eq_true h3, r1⟩) (r2 bs H)⟩
        · cases h
      | _ => simp [repB] at h
    | rol ds =>
      cases u with
      | ref a =>
        rw [repB] at h
        split at h
        · rename_i c its m sl q
          obtain ⟨h1, h2⟩ := ba h
          obtain ⟨h3, h4⟩ := ba h2
          obtain rfl := of_decide_eq_true h1
          obtain ⟨vs, r1, r2⟩ := repBs_ok n h4
          exact ⟨.ref a, rfl, fun bs H => .rol (.inr ⟨_, its, m, q, rfl, rfl, rfl, of_decide_eq_true h3, r1⟩) (r2 bs H)⟩
        · cases h
      | _ => simp [repB] at h
    | lst ds => simp [repB] at h
    | obj c ds => simp [repB] at h
    | ref m => simp [repB] at h
theorem repBs_ok : ∀ (n : Nat) {ds : List D} {us : List Value}, repBs K n ds us = true → ∃ vs, Vals vs us ∧ ∀ bs H, Reps ⟨K, mg, ci⟩ bs H ds vs
  | 0, _, _, h => by rw [repBs] at h; cases h
  | n + 1, [], [], _ => ⟨[], .nil, fun _ _ => .nil⟩
  | n + 1, [], _ :: _, h => by simp [repBs] at h
  | n + 1, _ :: _, [], h => by simp [repBs] at h
  | n + 1, d :: ds, u :: us, h => by
    rw [repBs] at h
    obtain ⟨h1, h2⟩ := ba h
    obtain ⟨v, r1, r2⟩ := repB_ok n h1
    obtain ⟨vs, r3, r4⟩ := repBs_ok n h2
    exact ⟨v :: vs, .cons r1 r3, fun bs H => .cons (r2 bs H) (r4 bs H)⟩
end
def glB (x : Str) (d : D) (K : Fr) : Bool := match PySem.W.nsIn K mainGlobals x with
  | some (some u) => repB K 40 d u
  | _ => false
theorem gl_ok (X : K.In h) (G : h.Ns mainGlobals mg) {x : Str} {d : D} (c : glB x d K = true) : GlC ci K mg x d := by
  unfold glB at c
  split at c
  · rename_i u q
    obtain ⟨v, r1, r2⟩ := repB_ok (ci := ci) (mg := mg) 40 c
    exact ⟨v, u, PySem.W.mg_of X G q, r1, r2⟩
  · cases c
def conB (x f : Str) (d : D) (K : Fr) : Bool := (Fa.glo x).ok K && (PySem.W.readsIn K (ga K x) (.type "type") && (decide (PySem.W.specialIn K (.ref (ga K x)) "__getattribute__" = some (some (.builtin "type.__getattribute__"))) && (match PySem.W.findCls K (.ref (ga K x)) (.type "type") f with
  | some (.val u) => repB K 40 d u
  | _ => false)))
theorem con_ok (X : K.In h) (G : h.Ns mainGlobals mg) {x f : Str} {d : D} (c : conB x f d K = true) : ConC ci K mg x f d := by
  obtain ⟨c1, c⟩ := ba c
  obtain ⟨c2, c⟩ := ba c
  obtain ⟨c3, c⟩ := ba c
  split at c
  · rename_i u q
    obtain ⟨v, r1, r2⟩ := repB_ok (ci := ci) (mg := mg) 40 c
    exact ⟨ga K x, .type "type", v, u, glo_ok X G c1, ⟨c2, of_decide_eq_true c3⟩, ⟨q, r1⟩, r2⟩
  · cases c
/-! fields -/
def fldB (x f : Str) (K : Fr) : Bool := (Fa.glo x).ok K && ((Fa.cls x).ok K && (Fa.noat x f).ok K)
theorem fld_ok (X : K.In h) (G : h.Ns mainGlobals mg) {x f : Str} {c i : Nat} (b : fldB x f K = true) (hx : Str.ofString (ci c).1 = x) (h1 : ((ci c).2.map Str.ofString)[i]? = some f) (h2 : ∀ j, j < i → ((ci c).2.map Str.ofString)[j]? ≠ some f) : FldAt ci K mg f c i := by
  obtain ⟨b1, b⟩ := ba b
  obtain ⟨b2, b3⟩ := ba b
  refine ⟨h1, h2, fun C hC => ?_⟩
  rw [hx, glo_ok X G b1] at hC
  cases hC
  exact ⟨cls_ok b2, noat_ok b3⟩
theorem fld_no {x f : Str} {c i : Nat} (b : mg x = none) (hx : Str.ofString (ci c).1 = x) (h1 : ((ci c).2.map Str.ofString)[i]? = some f) (h2 : ∀ j, j < i → ((ci c).2.map Str.ofString)[j]? ≠ some f) : FldAt ci K mg f c i :=
  ⟨h1, h2, fun C hC => by rw [hx, b] at hC; cases hC⟩
/-! isinstance -/
def clsTB (C : Addr) (K : Fr) : Bool := decide (PySem.W.findIn K (.ref C) "__class__" = some (some (.builtin "object.__class__"))) && (decide (PySem.W.specialIn K (.builtin "object.__class__") "__get__" = some (some (.builtin "getset_descriptor.__get__"))) &&
  (decide (PySem.W.takesIn K (.builtin "object.__class__") = some true) && decide (PySem.W.mroIn K C (.type "object") = some true)))
def prims : List String := ["NoneType", "bool", "int", "str", "list", "tuple"]
def isiB (ci : Nat → String × List String) (ty : Ty) (cs : List Nat) (u : Fr → Value) (K : Fr) : Bool := (prims.all fun n => decide (PySem.W.kitOne K (.type n) (u K) = some (primIs ty n))) &&
  (cs.all fun c => (Fa.glo (Str.ofString (ci c).1)).ok K && ((Fa.cls (Str.ofString (ci c).1)).ok K && (clsTB (ga K (Str.ofString (ci c).1)) K && decide (PySem.W.kitOne K (.ref (ga K (Str.ofString (ci c).1))) (u K) = some (clsIs ty c)))))
theorem isi_ok (X : K.In h) (G : h.Ns mainGlobals mg) {ty : Ty} {cs : List Nat} {u : Fr → Value} (b : isiB ci ty cs u K = true) : IsiF ci K mg ty cs (u K) := by
  obtain ⟨b1, b2⟩ := ba b
  refine ⟨fun n hn => of_decide_eq_true (List.all_eq_true.mp b1 n hn), fun c hc C hC => ?_⟩
  have b3 := List.all_eq_true.mp b2 c hc
  obtain ⟨b4, b3⟩ := ba b3
  obtain ⟨b5, b3⟩ := ba b3
  obtain ⟨b6, b7⟩ := ba b3
  rw [glo_ok X G b4] at hC
  cases hC
  obtain ⟨d1, d⟩ := ba b6
  obtain ⟨d2, d⟩ := ba d
  obtain ⟨d3, d4⟩ := ba d
  exact ⟨⟨cls_ok b5, of_decide_eq_true d1, of_decide_eq_true d2, of_decide_eq_true d3, of_decide_eq_true d4⟩, of_decide_eq_true b7⟩
theorem isiC_ok (X : K.In h) (G : h.Ns mainGlobals mg) {x : Str} {c : Nat} {cs : List Nat} (b0 : (Fa.glo x).ok K = true) (hx : Str.ofString (ci c).1 = x) (b : isiB ci (.cls c) cs (fun K => .ref (ga K x)) K = true) : IsiC ci K mg c cs :=
  ⟨ga K x, by rw [hx]; exact glo_ok X G b0, isi_ok X G b⟩
section
variable {P : Program} {w : World} {base : Heap} {c k : Nat} {x m : Str} {ks : List Str} {F : List D → List D → Hs → R D}
theorem make_ok (X : K.In h) (G : h.Ns mainGlobals mg) (b0 : (Fa.glo x).ok K = true) (b1 : (Fa.mkr x).ok K = true) (hx : Str.ofString (ci c).1 = x) (hF : FnC ci P w K mg base k (fAd K (x, some "__init__")) ks F) : MakeC ci P w K mg base c k ks F :=
  ⟨ga K x, _, by rw [hx]; exact glo_ok X G b0, mkr_ok b1, hF⟩
theorem name_ok (X : K.In h) (G : h.Ns mainGlobals mg) (b0 : (Fa.glo x).ok K = true) (b1 : PySem.W.keepIn K (.ref (fAd K (x, none))) = true) (hF : FnC ci P w K mg base k (fAd K (x, none)) ks F) : NameC ci P w K mg base x k ks F :=
  ⟨ga K x, glo_ok X G b0, b1, hF⟩
theorem meth_c (X : K.In h) (G : h.Ns mainGlobals mg) (b0 : (Fa.glo x).ok K = true) (b1 : (Fa.cls x).ok K = true) (b2 : (Fa.meth x m).ok K = true) (hx : Str.ofString (ci c).1 = x) (hF : FnC ci P w K mg base k (fAd K (x, some m)) ks F) : MethC ci P w K mg base c m k ks F :=
  ⟨ga K x, _, by rw [hx]; exact glo_ok X G b0, cls_ok b1, He.meth_ok b2, hF⟩
def eqB (x : Str) (K : Fr) : Bool := (Fa.meth x "__eq__").ok K && (decide (PySem.W.findIn K (.ref (ga K x)) "__ne__" = some (some (.builtin "object.__ne__"))) && decide (PySem.W.mroIn K (ga K x) (.type "object") = some true))
theorem eq_ok (X : K.In h) (G : h.Ns mainGlobals mg) (b0 : (Fa.glo x).ok K = true) (b : eqB x K = true) (hx : Str.ofString (ci c).1 = x) (hF : FnC ci P w K mg base k (fAd K (x, some "__eq__")) [] F) : EqC ci P w K mg base c k F := by
  obtain ⟨b1, b⟩ := ba b
  obtain ⟨b2, b3⟩ := ba b
  obtain ⟨d1, d⟩ := ba b1
  obtain ⟨d2, d3⟩ := ba d
  exact ⟨ga K x, _, by rw [hx]; exact glo_ok X G b0, eqO_ok d1, d2, of_decide_eq_true b2, of_decide_eq_true b3, hF⟩
end
end
end Fx
/-! ### the law's end -/
theorem reps_ints {g : G} {bs : List Addr} {H : Hp} : ∀ ns : List Int, Reps g bs H (ns.map D.int) (ns.map V.int)
  | [] => .nil
  | i :: r => .cons (.int i) (reps_ints r)
theorem law_sp {K : PySem.W.Frag} {mg : Str → Option Value} {ci : Nat → String × List String} {H : Hp} {a : Addr} {ns : List Int} {G : List D → Hs → R D} (hS : SqL K H a (ns.map V.int)) (hG : ∃ h', G [.rol (ns.map D.int)] [] = .ok (.bl true) h') :
    spG ⟨K, mg, ci⟩ 1 G [.ref a] H (fun v _ => v = .bl true) fun _ _ _ => False := by
  obtain ⟨h', e⟩ := hG
  refine ⟨[], [], [.rol (ns.map D.int)], rfl, ⟨rfl, List.nodup_nil, fun i o z => by simp at z⟩, .cons (.rol ?_ (reps_ints ns)) .nil, ?_⟩
  · rcases hS with h | h
    · exact .inl ⟨by simp, h⟩
    · exact .inr h
  · rw [e]
    intro bs' H' v _ _ r
    cases r
    rfl
theorem walk_Z {l : PySem.W.OpenLaw} {n k : Nat} {q : Program} {loose : List Str} {XP : (Str → Option Value) → Heap → Prop} {nn : Nat} {fn : List He.DefD} {fs : List (Fx.Fr → Bool)} {d : DefRec} {ci : Nat → String × List String} {G : List D → Hs → R D} {x nm : Str}
    (hn : l.most = some n) (hn2 : n ≤ sizeLine) (hdf : d.params.defaults = []) (hnm : d.name = nm) (hr : Room k callerA)
    (hG : ∀ ns : List Int, ns.length ≤ n → (∀ z ∈ ns, Builtin.Int.intBits z ≤ 1048576) → ∃ h', G [.rol (ns.map D.int)] [] = .ok (.bl true) h')
    (F : ∀ (w : World) (K : PySem.W.Frag) (mg : Str → Option Value) (fa : Addr) (h : Heap), K.In h → He.SaysD [] fn K → Fx.allB fs K = true → h.Ns mainGlobals mg → mg nm = some (.ref fa) →
      ∃ fd : FuncData, (∀ (s : Shared) (u : Value), BindsTo s fd ⟨[u], []⟩ [(x, u)]) ∧ ∀ base : Heap, K.In base → base.Ns mainGlobals mg → FnOk l.prog w K mg base (L2.CX l.prog w) k fa fd [x] (spG ⟨K, mg, ci⟩ 1 G)) :
    PySem.W.WalkO q loose XP (Fx.hookZ nn fn fs).says l.row.toRowW d [] (fun f vs => PySem.call f vs) := by
  refine Att.attach_callB hn hdf fun w s₀ s₁ mg mb fa o pm cd doc a vs ns Gr Y ho hd hcd hmg hobj hints hlen hbits hg => ?_
  obtain ⟨K, KX, c1, c2⟩ := Y
  obtain ⟨fd, hb, hF⟩ := F w K mg fa _ KX c1 c2 Gr.T.g (by rw [← hnm]; exact hmg)
  refine law_call KX Gr.T.g Gr.T.b Gr.T.builtins Gr.T.nolimit hg hobj hints (Nat.le_trans hlen hn2) hr hF hb (fun H hO hS => law_sp hS (hG ns hlen hbits)) fun H e s' z => ?_
  obtain ⟨_, _, _, _, _, _, _, _, _, _, _, _, z⟩ := z
  exact z
end Ev
set_option Elab.async false
set_option linter.all false
set_option maxRecDepth 100000
set_option maxHeartbeats 4000000
namespace Ev
open PySem L2

/-! ### what the combinators do, as equations -/
section
variable {env : En} {h h1 : Hs} {i j : Nat} {d : D} {f fa fb fc k : En → Hs → R D} {fl : En → Hs → R (List D)} {c c2 : En → Hs → R Bool} {s s2 : En → Hs → S} {op op2 : D → D → Hs → R D} {kd : D → En → Option En}
@[simp] theorem eVar_ap : eVar i env h = match env[i]? with
  | some (some d) => .ok d h
  | _ => .bad := rfl
@[simp] theorem eC_ap : eC d env h = .ok d h := rfl
@[simp] theorem eBin_ap : eBin op fa fb env h = (fa env h).bind fun x h1 => (fb env h1).bind fun y h2 => op x y h2 := rfl
@[simp] theorem toB_bl {b : Bool} : toB (.bl b) h = .ok b h := rfl
@[simp] theorem eTest_ap : eTest f env h = (f env h).bind toB := rfl
@[simp] theorem eChain_ap : eChain op op2 fa fb fc env h = (fa env h).bind fun x h1 => (fb env h1).bind fun y h2 => (op x y h2).bind fun z h3 => (toB z h3).bind fun k h4 => if k = true then (fc env h4).bind fun w h5 => op2 y w h5 else .ok (.bl false) h4 := rfl
@[simp] theorem eUn_ap {o : D → Hs → R D} : eUn o fa env h = (fa env h).bind o := rfl
@[simp] theorem eTru_ap : eTru fa env h = (fa env h).bind truR := rfl
@[simp] theorem eNotB_ap : eNotB c env h = (c env h).bind fun b h1 => .ok (!b) h1 := rfl
@[simp] theorem eAndB_ap : eAndB c c2 env h = (c env h).bind fun b h1 => if b = true then c2 env h1 else .ok false h1 := rfl
@[simp] theorem eOrB_ap : eOrB c c2 env h = (c env h).bind fun b h1 => if b = true then .ok true h1 else c2 env h1 := rfl
@[simp] theorem eAnd_ap : eAnd fa fb env h = (fa env h).bind fun x h1 => (truR x h1).bind fun b h2 => if b = true then fb env h2 else .ok x h2 := rfl
@[simp] theorem eOr_ap : eOr fa fb env h = (fa env h).bind fun x h1 => (truR x h1).bind fun b h2 => if b = true then .ok x h2 else fb env h2 := rfl
@[simp] theorem eNot_ap : eNot fa env h = (fa env h).bind fun x h1 => (truR x h1).bind fun b h2 => .ok (.bl (!b)) h2 := rfl
@[simp] theorem eIf_ap : eIf c fa fb env h = (c env h).bind fun b h1 => if b = true then fa env h1 else fb env h1 := rfl
@[simp] theorem aNil_ap : aNil env h = .ok [] h := rfl
@[simp] theorem aCons_ap : aCons f fl env h = (f env h).bind fun x h1 => (fl env h1).bind fun xs h2 => .ok (x :: xs) h2 := rfl
@[simp] theorem aStar_ap : aStar f fl env h = (f env h).bind fun x h1 => match seqOf h1 x with
  | some xs => (fl env h1).bind fun ys h2 => .ok (xs ++ ys) h2
  | none => .bad := rfl
@[simp] theorem eTup_ap : eTup fl env h = (fl env h).bind fun xs h1 => if xs.length ≤ big then .ok (.tup xs) h1 else .bad := rfl
@[simp] theorem eLst_ap : eLst fl env h = (fl env h).bind fun xs h1 => if xs.length ≤ big then .ok (.lst xs) h1 else .bad := rfl
@[simp] theorem eLstM_ap : eLstM fl env h = (fl env h).bind fun xs h1 => if xs.length ≤ big then .ok (.ref h1.length) (h1 ++ [.lst xs]) else .bad := rfl
@[simp] theorem oNo_ap : oNo env h = .ok none h := rfl
@[simp] theorem oSome_ap : oSome f env h = (f env h).bind fun x h1 => match x with
  | .int i => .ok (some i) h1
  | _ => .bad := rfl
@[simp] theorem eSl_ap {o : D → Option Int → Option Int → Hs → R D} {lo hi : En → Hs → R (Option Int)} : eSl o fa lo hi env h = (fa env h).bind fun x h1 => (lo env h1).bind fun l h2 => (hi env h2).bind fun u h3 => o x l u h3 := rfl
@[simp] theorem eCall_ap {o : List D → Hs → R D} : eCall o fl env h = (fl env h).bind o := rfl
@[simp] theorem eAttr_ap {tab : List (Nat × Nat)} : eAttr tab f env h = (f env h).bind (attrD tab) := rfl
@[simp] theorem eIsi_ap {ty : Ty} {cs : List Nat} : eIsi ty cs f env h = (f env h).bind (isiD ty cs) := rfl
@[simp] theorem cNil_ap : cNil env h = .ok ([], []) h := rfl
@[simp] theorem cPos_ap : cPos fl env h = (fl env h).bind fun xs h1 => .ok (xs, []) h1 := rfl
@[simp] theorem cKw_ap {n : Nat} {fk : En → Hs → R (List D)} : cKw n fl fk env h = (fl env h).bind fun xs h1 => (fk env h1).bind fun ys h2 => if ys.length = n then .ok (xs, ys) h2 else .bad := rfl
@[simp] theorem cStar_ap : cStar f env h = (f env h).bind fun x h1 => match seqOf h1 x with
  | some xs => .ok (xs, []) h1
  | none => .bad := rfl
@[simp] theorem eCallC_ap {F : List D → List D → Hs → R D} {fd : En → Hs → R DD2} : eCallC F fd env h = (fd env h).bind fun d h1 => F d.1 d.2 h1 := rfl
@[simp] theorem eMeth_ap {n : Nat} {F : List D → List D → Hs → R D} {fd : En → Hs → R DD2} : eMeth n F f fd env h = (f env h).bind fun x h1 => if isIns n x h1 = true then (fd env h1).bind fun d h2 => F (x :: d.1) d.2 h2 else .bad := rfl
@[simp] theorem eMakeM_ap {n : Nat} {F : List D → List D → Hs → R D} {fd : En → Hs → R DD2} : eMakeM n F fd env h = (fd env h).bind fun d h1 => (F (.ref h1.length :: d.1) d.2 (h1 ++ [.ins n []])).bind fun v h2 => match v with
  | .non => .ok (.ref h1.length) h2
  | _ => .bad := rfl
/-- an instance made and let be -/
theorem eMake_ap {n n' : Nat} {F : List D → List D → Hs → R D} {fd : En → Hs → R DD2} {xs ys fs : List D} (e1 : fd env h = .ok (xs, ys) h1) (e2 : F (.ref h1.length :: xs) ys (h1 ++ [.ins n []]) = .ok .non (h1 ++ [.ins n' fs])) (e3 : D.nrs h1.length fs = true) : eMake n F fd env h = .ok (.obj n' fs) h1 := by
  unfold eMake
  rw [e1]
  simp only [R.bind_ok]
  rw [e2]
  simp only [R.bind_ok]
  rw [List.getElem?_append_right (Nat.le_refl _), Nat.sub_self]
  simp [e3]
theorem eMake_err {n k : Nat} {F : List D → List D → Hs → R D} {fd : En → Hs → R DD2} {xs ys fs : List D} {h2 : Hs} (e1 : fd env h = .ok (xs, ys) h1) (e2 : F (.ref h1.length :: xs) ys (h1 ++ [.ins n []]) = .err k fs h2) : eMake n F fd env h = .err k fs h2 := by
  unfold eMake
  rw [e1]
  simp only [R.bind_ok]
  rw [e2]
  rfl
@[simp] theorem sNil_ap : sNil env h = .nx env h := rfl
@[simp] theorem sCons_ap : sCons s s2 env h = (s env h).seq s2 := rfl
@[simp] theorem sBrk_ap : sBrk env h = .brk env h := rfl
@[simp] theorem sCt_ap : sCt env h = .ct env h := rfl
@[simp] theorem sExpr_ap : sExpr f env h = (f env h).toS env fun _ h1 => .nx env h1 := rfl
@[simp] theorem sRet_ap : sRet f env h = (f env h).toS env fun d h1 => .ret d h1 := rfl
@[simp] theorem sRetN_ap : sRetN env h = .ret .non h := rfl
@[simp] theorem sIf_ap : sIf c s s2 env h = (c env h).toS env fun b h1 => if b = true then s env h1 else s2 env h1 := rfl
@[simp] theorem kName_ap : kName i d env = some (env.set i (some d)) := rfl
@[simp] theorem ksNil_ap : ksNil [] env = some env := rfl
@[simp] theorem ksCons_ap {g : D → En → Option En} {ks : List D → En → Option En} {ds : List D} : ksCons g ks (d :: ds) env = match g d env with
  | some env1 => ks ds env1
  | none => none := rfl
@[simp] theorem kTup_ap {n : Nat} {ks : List D → En → Option En} {ds : List D} : kTup n ks (.tup ds) env = if ds.length = n then ks ds env else none := rfl
@[simp] theorem sAsg_ap : sAsg f kd env h = (f env h).toS env fun d h1 => match kd d env with
  | some env1 => .nx env1 h1
  | none => .bad := rfl
@[simp] theorem sPar_ap : sPar i j fl env h = (fl env h).toS env fun xs h1 => match xs with
  | [x, y] => .nx ((env.set i (some x)).set j (some y)) h1
  | _ => .bad := rfl
@[simp] theorem sAugI_ap {o : Int → Int → Int} : sAugI i o f env h = match env[i]? with
  | some (some (.int a)) => (f env h).toS env fun y h1 => match y with
    | .int b => .nx (env.set i (some (.int (o a b)))) h1
    | _ => .bad
  | _ => .bad := rfl
@[simp] theorem sSetIx_ap : sSetIx fa fb fc env h = (fc env h).toS env fun z h1 => (fa env h1).toS env fun x h2 => (fb env h2).toS env fun y h3 => match setIx x y z h3 with
  | some h4 => .nx env h4
  | none => .bad := rfl
@[simp] theorem sAttr_ap {tab : List (Nat × Nat)} : sAttr tab fa fb env h = (fb env h).toS env fun y h1 => (fa env h1).toS env fun x h2 => match setAttrD tab x y h2 with
  | some h3 => .nx env h3
  | none => .bad := rfl
@[simp] theorem sRaise_ap {n : Nat} : sRaise n f env h = (f env h).toS env fun d h1 => .err n [d] env h1 := rfl
@[simp] theorem eBM_ap {T : TyK} {o : D → List D → Hs → R D} : eBM T o f fl env h = (f env h).bind fun x h1 => if tyOk T x h1 = true then (fl env h1).bind fun xs h2 => o x xs h2 else .bad := rfl
@[simp] theorem eBM0_ap {T : TyK} {o : D → List D → Hs → R D} : eBM0 T o f env h = (f env h).bind fun x h1 => if tyOk T x h1 = true then o x [] h1 else .bad := rfl
@[simp] theorem bYes_ap : bYes env h = .ok true h := rfl
@[simp] theorem iSeq_ap : iSeq f env h = (f env h).bind srcD := rfl
/-! values -/
@[simp] theorem addD_int {a b : Int} : addD (.int a) (.int b) h = .ok (.int (a + b)) h := rfl
@[simp] theorem addD_tup {a b : List D} : addD (.tup a) (.tup b) h = if a.length + b.length ≤ big then .ok (.tup (a ++ b)) h else .bad := rfl
@[simp] theorem addD_lst {a b : List D} : addD (.lst a) (.lst b) h = if a.length + b.length ≤ big then .ok (.lst (a ++ b)) h else .bad := rfl
@[simp] theorem subD_int {a b : Int} : subD (.int a) (.int b) h = .ok (.int (a - b)) h := rfl
theorem mulD_int {a b : Int} (e : (smallI a || smallI b || (midI a && midI b)) = true) : mulD (.int a) (.int b) h = .ok (.int (a * b)) h := by
  show (match mulI a b with
    | some d => R.ok d h
    | none => .bad) = _
  unfold mulI
  rw [if_pos e]
theorem smallI_of {a : Int} (h1 : -(2 ^ 64) < a) (h2 : a < 2 ^ 64) : smallI a = true := by
  unfold smallI
  rw [decide_eq_true h1, decide_eq_true h2]; rfl
theorem mul_l {a b : Int} (h1 : -18446744073709551616 < a) (h2 : a < 18446744073709551616) : mulD (.int a) (.int b) h = .ok (.int (a * b)) h := mulD_int (by rw [smallI_of (by simpa using h1) (by simpa using h2)]; rfl)
theorem mul_r {a b : Int} (h1 : -18446744073709551616 < b) (h2 : b < 18446744073709551616) : mulD (.int a) (.int b) h = .ok (.int (a * b)) h := mulD_int (by rw [smallI_of (a := b) (by simpa using h1) (by simpa using h2)]; simp)
theorem fdiv_ok {a b : Int} (h1 : 0 < b) (h2 : b < 2 ^ 400) : fdivD (.int a) (.int b) h = .ok (.int (a / b)) h := by
  show (match (if 0 < b ∧ b.natAbs < 2 ^ 400 then some (D.int (a / b)) else none) with
    | some d => R.ok d h
    | none => .bad) = _
  rw [if_pos ⟨h1, by omega⟩]
theorem fdiv_sm {a b : Int} (h1 : 0 < b) (h2 : b < 18446744073709551616) : fdivD (.int a) (.int b) h = .ok (.int (a / b)) h := fdiv_ok h1 (Int.lt_trans h2 (by decide))
theorem mod_ok {a b : Int} (h1 : 0 < b) : modD (.int a) (.int b) h = .ok (.int (a % b)) h := by
  show (match (if 0 < b then some (D.int (a % b)) else none) with
    | some d => R.ok d h
    | none => .bad) = _
  rw [if_pos h1]
@[simp] theorem ltD_int {a b : Int} : ltD (.int a) (.int b) h = .ok (.bl (decide (a < b))) h := rfl
@[simp] theorem leD_int {a b : Int} : leD (.int a) (.int b) h = .ok (.bl (decide (a ≤ b))) h := rfl
@[simp] theorem gtD_int {a b : Int} : gtD (.int a) (.int b) h = .ok (.bl (decide (b < a))) h := rfl
@[simp] theorem geD_int {a b : Int} : geD (.int a) (.int b) h = .ok (.bl (decide (b ≤ a))) h := rfl
@[simp] theorem negD_int {a : Int} : negD (.int a) h = .ok (.int (-a)) h := rfl
@[simp] theorem truR_bl {b : Bool} : truR (.bl b) h = .ok b h := rfl
@[simp] theorem truR_int {a : Int} : truR (.int a) h = .ok (a != 0) h := rfl
@[simp] theorem truR_non : truR .non h = .ok false h := rfl
@[simp] theorem truR_tup {a : List D} : truR (.tup a) h = .ok (!a.isEmpty) h := rfl
@[simp] theorem truR_lst {a : List D} : truR (.lst a) h = .ok (!a.isEmpty) h := rfl
@[simp] theorem isND_non : isND d .non h = .ok (.bl (isN d)) h := rfl
@[simp] theorem notND_non : notND d .non h = .ok (.bl (!isN d)) h := rfl
@[simp] theorem absD_int {a : Int} : absD [.int a] h = .ok (.int (if a < 0 then -a else a)) h := rfl
@[simp] theorem maxD_int {a b : Int} : maxD [.int a, .int b] h = .ok (.int (if b > a then b else a)) h := rfl
@[simp] theorem minD_int {a b : Int} : minD [.int a, .int b] h = .ok (.int (if b < a then b else a)) h := rfl
@[simp] theorem intTD_int {a : Int} : intTD [.int a] h = .ok (.int a) h := rfl
@[simp] theorem intTD_bl {b : Bool} : intTD [.bl b] h = .ok (.int (if b = true then 1 else 0)) h := rfl
@[simp] theorem boolTD_int {a : Int} : boolTD [.int a] h = .ok (.bl (a != 0)) h := rfl
@[simp] theorem boolTD_bl {b : Bool} : boolTD [.bl b] h = .ok (.bl b) h := rfl
@[simp] theorem lenD_tup {a : List D} : lenD [.tup a] h = .ok (.int a.length) h := rfl
@[simp] theorem lenD_lst {a : List D} : lenD [.lst a] h = .ok (.int a.length) h := rfl
@[simp] theorem lenD_rol {a : List D} : lenD [.rol a] h = .ok (.int a.length) h := rfl
theorem divmod_ok {a b : Int} (h1 : 0 < b) (h2 : b < 2 ^ 400) : divmodD [.int a, .int b] h = .ok (.tup [.int (a / b), .int (a % b)]) h := by
  show (if 0 < b ∧ b.natAbs < 2 ^ 400 then R.ok (D.tup [D.int (a / b), D.int (a % b)]) h else .bad) = _
  rw [if_pos ⟨h1, by omega⟩]
@[simp] theorem ixD_tup {a : List D} {n : Int} : ixD (.tup a) (.int n) h = match atI a n with
  | some d => .ok d h
  | none => .bad := rfl
@[simp] theorem ixD_lst {a : List D} {n : Int} : ixD (.lst a) (.int n) h = match atI a n with
  | some d => .ok d h
  | none => .bad := rfl
@[simp] theorem ixD_rol {a : List D} {n : Int} : ixD (.rol a) (.int n) h = match atI a n with
  | some d => .ok d h
  | none => .bad := rfl
@[simp] theorem slD_tup {a : List D} {l u : Option Int} : slD (.tup a) l u h = .ok (.tup (cutD a l u)) h := rfl
@[simp] theorem slD_lst {a : List D} {l u : Option Int} : slD (.lst a) l u h = .ok (.lst (cutD a l u)) h := rfl
@[simp] theorem seqOf_tup {a : List D} : seqOf h (.tup a) = some a := rfl
@[simp] theorem seqOf_lst {a : List D} : seqOf h (.lst a) = some a := rfl
@[simp] theorem seqOf_rol {a : List D} : seqOf h (.rol a) = some a := rfl
@[simp] theorem rdL_lst {a : List D} : rdL h (.lst a) = some a := rfl
@[simp] theorem rdL_rol {a : List D} : rdL h (.rol a) = some a := rfl
@[simp] theorem srcD_tup {a : List D} : srcD (.tup a) h = .ok (a, []) h := rfl
@[simp] theorem srcD_lst {a : List D} : srcD (.lst a) h = .ok (a, []) h := rfl
@[simp] theorem srcD_rol {a : List D} : srcD (.rol a) h = .ok (a, []) h := rfl
@[simp] theorem big_le : (0 ≤ big) = True := eq_true (Nat.zero_le _)
/-! == of flat values -/
@[simp] theorem eqD_int {a b : Int} : eqD (.int a) (.int b) h = .ok (.bl (decide (a = b))) h := by
  show R.ok (D.bl (PyData.eqv (.int a) (.int b))) h = _
  congr 2
@[simp] theorem neD_int {a b : Int} : neD (.int a) (.int b) h = .ok (.bl (!decide (a = b))) h := by
  show R.ok (D.bl (!PyData.eqv (.int a) (.int b))) h = _
  congr 2
@[simp] theorem eqD_str {a b : Str} : eqD (.str a) (.str b) h = .ok (.bl (decide (a = b))) h := by
  show R.ok (D.bl (PyData.eqv (.str a) (.str b))) h = _
  congr 2
@[simp] theorem neD_str {a b : Str} : neD (.str a) (.str b) h = .ok (.bl (!decide (a = b))) h := by
  show R.ok (D.bl (!PyData.eqv (.str a) (.str b))) h = _
  congr 2
@[simp] theorem eqD_bl {a b : Bool} : eqD (.bl a) (.bl b) h = .ok (.bl (decide (a = b))) h := by
  cases a <;> cases b <;> rfl
@[simp] theorem neD_bl {a b : Bool} : neD (.bl a) (.bl b) h = .ok (.bl (!decide (a = b))) h := by
  cases a <;> cases b <;> rfl
end
/-! ### places -/
theorem ixN_nat (m n : Nat) (h : n < m) : ixN m (n : Int) = some n := by
  unfold ixN
  first
    | (rw [if_neg (by omega)]; simp; omega)
    | (simp; omega)
theorem atI_nat {xs : List D} {n : Nat} : atI xs (n : Int) = xs[n]? := by
  unfold atI
  by_cases h : n < xs.length
  · rw [ixN_nat _ _ h]; rfl
  · rw [List.getElem?_eq_none (by omega)]
    unfold ixN
    first
      | (rw [if_neg (by omega)]; simp; omega)
      | (simp; omega)
@[simp] theorem atI_0 {xs : List D} : atI xs 0 = xs[0]? := atI_nat (n := 0)
@[simp] theorem atI_1 {xs : List D} : atI xs 1 = xs[1]? := atI_nat (n := 1)
@[simp] theorem atI_2 {xs : List D} : atI xs 2 = xs[2]? := atI_nat (n := 2)
@[simp] theorem atI_3 {xs : List D} : atI xs 3 = xs[3]? := atI_nat (n := 3)
@[simp] theorem atI_4 {xs : List D} : atI xs 4 = xs[4]? := atI_nat (n := 4)
@[simp] theorem atI_5 {xs : List D} : atI xs 5 = xs[5]? := atI_nat (n := 5)
@[simp] theorem atI_6 {xs : List D} : atI xs 6 = xs[6]? := atI_nat (n := 6)
@[simp] theorem atI_7 {xs : List D} : atI xs 7 = xs[7]? := atI_nat (n := 7)
@[simp] theorem atI_8 {xs : List D} : atI xs 8 = xs[8]? := atI_nat (n := 8)
@[simp] theorem atI_9 {xs : List D} : atI xs 9 = xs[9]? := atI_nat (n := 9)
@[simp] theorem atI_10 {xs : List D} : atI xs 10 = xs[10]? := atI_nat (n := 10)
@[simp] theorem atI_11 {xs : List D} : atI xs 11 = xs[11]? := atI_nat (n := 11)
@[simp] theorem atI_12 {xs : List D} : atI xs 12 = xs[12]? := atI_nat (n := 12)
@[simp] theorem ite_ok {α : Type} {c : Prop} [Decidable c] {a b : α} {h : Hs} : (if c then R.ok a h else R.ok b h) = R.ok (if c then a else b) h := by split <;> rfl
@[simp] theorem ite_int {c : Prop} [Decidable c] {a b : Int} : (if c then D.int a else D.int b) = D.int (if c then a else b) := by split <;> rfl
@[simp] theorem ite_bl {c : Prop} [Decidable c] {a b : Bool} : (if c then D.bl a else D.bl b) = D.bl (if c then a else b) := by split <;> rfl
@[simp] theorem ite_str {c : Prop} [Decidable c] {a b : Str} : (if c then D.str a else D.str b) = D.str (if c then a else b) := by split <;> rfl
/-! ### calls -/
@[simp] theorem posF_ap {n : Nat} {G : List D → Hs → R D} {ds es : List D} {h : Hs} : posF n G ds es h = if ds.length = n then G ds h else .bad := rfl
@[simp] theorem starF_ap {n : Nat} {G : List D → Hs → R D} {ds es : List D} {h : Hs} : starF n G ds es h = if n ≤ ds.length ∧ (ds.drop n).length ≤ big then G (ds.take n ++ [.tup (ds.drop n)]) h else .bad := rfl
@[simp] theorem kwF_ap {n m : Nat} {g : List D → List D → List D} {G : List D → Hs → R D} {ds es : List D} {h : Hs} : kwF n m g G ds es h = if ds.length = n ∧ es.length = m then G (g ds es) h else .bad := rfl
end Ev
set_option Elab.async false
set_option linter.all false
set_option maxRecDepth 100000
set_option maxHeartbeats 4000000
namespace Ev
open PySem L2

/-! ### instances, attributes -/
section
variable {h : Hs} {c i : Nat} {fs : List D} {tab : List (Nat × Nat)}
@[simp] theorem insOf_obj : insOf h (.obj c fs) = some (c, fs) := rfl
@[simp] theorem insOf_last : insOf (h ++ [.ins c fs]) (.ref h.length) = some (c, fs) := by
  unfold insOf
  simp
@[simp] theorem attrD_obj : attrD tab (.obj c fs) h = match fieldI tab c with
  | some i => match fs[i]? with
    | some d => .ok d h
    | none => .bad
  | none => .bad := rfl
theorem attrD_ref {n : Nat} {x : D} (e : h[n]? = some (.ins c fs)) (e2 : fieldI tab c = some i) (e3 : fs[i]? = some x) : attrD tab (.ref n) h = .ok x h := by
  unfold attrD insOf
  simp [e, e2, e3]
@[simp] theorem fieldI_cons {a b k : Nat} {r : List (Nat × Nat)} : fieldI ((a, b) :: r) k = if a = k then some b else fieldI r k := rfl
@[simp] theorem fieldI_nil {k : Nat} : fieldI [] k = none := rfl
@[simp] theorem setAttr_last {y : D} : setAttrD tab (.ref h.length) y (h ++ [.ins c fs]) = match fieldI tab c with
  | some i => if fs.length < 900 then (match putI fs i y with
    | some ds' => some (h ++ [.ins c ds'])
    | none => none) else none
  | none => none := by
  have e1 : (h ++ [O.ins c fs])[h.length]? = some (.ins c fs) := by simp
  have e2 : ∀ o, (h ++ [O.ins c fs]).set h.length o = h ++ [o] := fun o => by simp
  unfold setAttrD
  simp only [e1, e2]
  all_goals (cases fieldI tab c <;> first | rfl | (dsimp only; split <;> first | rfl | (cases putI fs _ y <;> rfl)))
@[simp] theorem isIns_obj {k : Nat} : isIns k (.obj c fs) h = decide (c = k) := rfl
@[simp] theorem isi_int_int {cs : List Nat} {v : Int} : isiD .int cs (.int v) h = .ok (.bl true) h := rfl
@[simp] theorem isi_bool_int {cs : List Nat} {v : Int} : isiD .bool cs (.int v) h = .ok (.bl false) h := rfl
@[simp] theorem isi_int_bl {cs : List Nat} {v : Bool} : isiD .int cs (.bl v) h = .ok (.bl true) h := rfl
@[simp] theorem isi_bool_bl {cs : List Nat} {v : Bool} : isiD .bool cs (.bl v) h = .ok (.bl true) h := rfl
@[simp] theorem isi_str_str {cs : List Nat} {v : Str} : isiD .str cs (.str v) h = .ok (.bl true) h := rfl
@[simp] theorem isi_cls_obj {cs : List Nat} {k : Nat} : isiD (.cls k) cs (.obj c fs) h = if c ∈ cs then .ok (.bl (decide (c = k))) h else .bad := rfl
end
/-! ### calls of a made instance -/
theorem putI_app {fs : List D} {y : D} : putI fs fs.length y = some (fs ++ [y]) := by
  unfold putI
  simp
/-! ### comprehensions -/
theorem compL_map {hb : Hs} {k : D → En → Option En} {tt : En → Hs → R Bool} {fe : En → Hs → R D} {env : En} {g : D → D} : ∀ {xs acc : List D}, (∀ x ∈ xs, ∃ e1, k x env = some e1 ∧ (∀ h, tt e1 h = .ok true h) ∧ ∀ h, fe e1 h = .ok (g x) h) → acc.length + xs.length ≤ big →
    compL hb [] k tt fe env xs acc = .ok (acc ++ xs.map g) hb
  | [], acc, _, _ => by simp [compL]
  | x :: xs, acc, hx, hl => by
    obtain ⟨e1, h1, h2, h3⟩ := hx x List.mem_cons_self
    rw [compL, if_pos (Kept_nil _ ▸ trivial), h1]
    dsimp only
    rw [h2]
    simp only [noErr_ok, R.bind_ok, if_true]
    rw [h3]
    simp only [noErr_ok, R.bind_ok]
    rw [if_pos ⟨trivial, by simp at hl; omega⟩]
    rw [compL_map (fun y hy => hx y (List.mem_cons_of_mem _ hy)) (by simp at hl ⊢; omega)]
    simp
theorem eComp_map {env : En} {h h1 : Hs} {fi : En → Hs → R Src} {k : D → En → Option En} {tt : En → Hs → R Bool} {fe : En → Hs → R D} {own : List Nat} {g : D → D} {xs : List D} (e : fi env h = .ok (xs, []) h1)
    (hx : ∀ x ∈ xs, ∃ e1, k x (wipeE env own) = some e1 ∧ (∀ h, tt e1 h = .ok true h) ∧ ∀ h, fe e1 h = .ok (g x) h) (hl : xs.length ≤ big) (hn : D.nrs h1.length (xs.map g) = true) : eComp fi k tt fe own env h = .ok (.lst (xs.map g)) h1 := by
  unfold eComp
  rw [e]
  simp only [R.bind_ok]
  rw [compL_map hx (by simpa using hl)]
  simp [hn]
/-! ### loops -/
theorem forL_inv {k : D → En → Option En} {f : En → Hs → S} (I : En → Hs → Prop) : ∀ {xs : List D}, (∀ x ∈ xs, ∀ env h, I env h → ∃ e1 e2 h2, k x env = some e1 ∧ f e1 h = .nx e2 h2 ∧ I e2 h2) → ∀ {env : En} {h : Hs}, I env h → ∃ e2 h2, forL [] k f xs env h = .nx e2 h2 ∧ I e2 h2
  | [], _, env, h, hi => ⟨env, h, by simp [forL], hi⟩
  | x :: xs, hx, env, h, hi => by
    obtain ⟨e1, e2, h2, h1, h3, h4⟩ := hx x List.mem_cons_self env h hi
    obtain ⟨e3, h5, h6, h7⟩ := forL_inv I (fun y hy => hx y (List.mem_cons_of_mem _ hy)) h4
    refine ⟨e3, h5, ?_, h7⟩
    rw [forL, if_pos (Kept_nil _ ▸ trivial), h1]
    dsimp only
    rw [h3]
    exact h6
/-- with the place -/
theorem forL_invI {k : D → En → Option En} {f : En → Hs → S} (I : Nat → En → Hs → Prop) : ∀ {xs : List D} {n : Nat}, (∀ i x, xs[i]? = some x → ∀ env h, I (n + i) env h → ∃ e1 e2 h2, k x env = some e1 ∧ f e1 h = .nx e2 h2 ∧ I (n + i + 1) e2 h2) → ∀ {env : En} {h : Hs}, I n env h → ∃ e2 h2, forL [] k f xs env h = .nx e2 h2 ∧ I (n + xs.length) e2 h2
  | [], n, _, env, h, hi => ⟨env, h, by simp [forL], hi⟩
  | x :: xs, n, hx, env, h, hi => by
    obtain ⟨e1, e2, h2, h1, h3, h4⟩ := hx 0 x rfl env h hi
    obtain ⟨e3, h5, h6, h7⟩ := forL_invI (xs := xs) (n := n + 1) I (fun i y hy e hh hi => by
      have := hx (i + 1) y (by simpa using hy) e hh (by rw [show n + (i + 1) = n + 1 + i by omega]; exact hi)
      rw [show n + (i + 1) + 1 = n + 1 + i + 1 by omega] at this
      exact this) h4
    refine ⟨e3, h5, ?_, by rw [List.length_cons, show n + (xs.length + 1) = n + 1 + xs.length by omega]; exact h7⟩
    rw [forL, if_pos (Kept_nil _ ▸ trivial), h1]
    dsimp only
    rw [h3]
    exact h6
/-! ### runs of bodies -/
theorem runB_ret {m : Nat} {fb : En → Hs → S} {ds : List D} {h h' : Hs} {d : D} (e : fb (ds.map some ++ List.replicate (m - ds.length) none) h = .ret d h') : runB m fb ds h = .ok d h' := by
  unfold runB
  rw [e]
theorem runB_nx {m : Nat} {fb : En → Hs → S} {ds : List D} {h h' : Hs} {env : En} (e : fb (ds.map some ++ List.replicate (m - ds.length) none) h = .nx env h') : runB m fb ds h = .ok .non h' := by
  unfold runB
  rw [e]
theorem seq_of {s k : En → Hs → S} {env env1 : En} {h h1 : Hs} (e : s env h = .nx env1 h1) : sCons s k env h = k env1 h1 := by
  rw [sCons_ap, e]
  rfl
/-! ### == of equal data -/
def plainD : Nat → D → Bool
  | 0, _ => false
  | k + 1, d => match d with
    | .non => true
    | .bl _ => true
    | .int _ => true
    | .str _ => true
    | .tup xs => xs.all (plainD k)
    | .lst xs => xs.all (plainD k)
    | .rol xs => xs.all (plainD k)
    | _ => false
theorem datAll_plain {f : D → Option PyData} : ∀ {xs : List D}, (∀ x ∈ xs, ∃ p, f x = some p ∧ p.plain = true) → ∃ ps, datAll f xs = some ps ∧ PyData.plainAll ps = true
  | [], _ => ⟨[], rfl, rfl⟩
  | x :: xs, hx => by
    obtain ⟨p, h1, h2⟩ := hx x List.mem_cons_self
    obtain ⟨ps, h3, h4⟩ := datAll_plain (xs := xs) fun y hy => hx y (List.mem_cons_of_mem _ hy)
    exact ⟨p :: ps, by simp [datAll, h1, h3], by simp [PyData.plainAll, h2, h4]⟩
theorem dat_plain {h : Hs} : ∀ {k : Nat} {d : D}, plainD k d = true → ∃ p, dat k h d = some p ∧ p.plain = true
  | 0, _, e => by simp [plainD] at e
  | k + 1, d, e => by
    cases d with
    | non => exact ⟨.none, rfl, rfl⟩
    | bl b => exact ⟨.bool b, rfl, rfl⟩
    | int i => exact ⟨.int i, rfl, rfl⟩
    | str s => exact ⟨.str s, rfl, rfl⟩
    | tup xs =>
      obtain ⟨ps, h1, h2⟩ := datAll_plain (f := dat k h) (xs := xs) fun x hx => dat_plain (List.all_eq_true.mp (show xs.all (plainD k) = true from e) x hx)
      exact ⟨.tuple ps, by simp [dat, h1], by simpa [PyData.plain] using h2⟩
    | lst xs =>
      obtain ⟨ps, h1, h2⟩ := datAll_plain (f := dat k h) (xs := xs) fun x hx => dat_plain (List.all_eq_true.mp (show xs.all (plainD k) = true from e) x hx)
      exact ⟨.list ps, by simp [dat, h1], by simpa [PyData.plain] using h2⟩
    | rol xs =>
      obtain ⟨ps, h1, h2⟩ := datAll_plain (f := dat k h) (xs := xs) fun x hx => dat_plain (List.all_eq_true.mp (show xs.all (plainD k) = true from e) x hx)
      exact ⟨.list ps, by simp [dat, h1], by simpa [PyData.plain] using h2⟩
    | obj c fs => cases e
    | ref n => cases e
theorem eqD_self {d : D} {h : Hs} (e : plainD 20 d = true) : eqD d d h = .ok (.bl true) h := by
  obtain ⟨p, h1, h2⟩ := dat_plain (h := h) e
  unfold eqD
  rw [h1]
  simp only
  rw [PySem.SeqAt.eqv_refl_plain p h2]
theorem neD_self {d : D} {h : Hs} (e : plainD 20 d = true) : neD d d h = .ok (.bl false) h := by
  obtain ⟨p, h1, h2⟩ := dat_plain (h := h) e
  unfold neD
  rw [h1]
  simp only
  rw [PySem.SeqAt.eqv_refl_plain p h2]
  rfl
/-! ### ranges -/
theorem two62 : (1000000 : Int) ≤ 2 ^ 62 := by simp
theorem rng_aux (z : Int) (m : Nat) (hz : 1000000 ≤ z) (hm : m < 1000000) : -z ≤ (m : Int) ∧ (m : Int) < z := And.intro (by omega) (by omega)
theorem iRange1_ok {fa : En → Hs → R (List D)} {env : En} {h h1 : Hs} {m : Nat} (e : fa env h = .ok [.int (m : Int)] h1) (hm : m < 1000000) : iRange1 fa env h = .ok ((List.range m).map fun (i : Nat) => D.int (i : Int), []) h1 := by
  have k := rng_aux (2 ^ 62) m two62 hm
  show (fa env h).bind _ = _
  rw [e, R.bind_ok]
  dsimp only
  rw [if_pos k, Int.toNat_natCast]
theorem sFor_range {fa : En → Hs → R (List D)} {k : D → En → Option En} {f : En → Hs → S} {env : En} {h h1 : Hs} {m : Nat} (e : fa env h = .ok [.int (m : Int)] h1) (hm : m < 1000000) : sFor (iRange1 fa) k f env h = forL [] k f ((List.range m).map fun (i : Nat) => D.int (i : Int)) env h1 := by
  unfold sFor
  rw [iRange1_ok e hm]
  rfl
end Ev
set_option Elab.async false
set_option linter.all false
set_option maxRecDepth 100000
set_option maxHeartbeats 4000000
namespace Ev
open PySem L2
noncomputable def b_l_bag : En → Hs → S :=
 (sCons (sAsg (eIf (eTest (eBin ltD (eVar 1) (eCall lenD (aCons (eVar 0) aNil)))) (eBin ixD (eVar 0) (eVar 1)) (eC (.int 0))) (kName 2))
 (sCons (sAsg (eBin mulD (eCall absD (aCons (eVar 2) aNil)) (eCall intTD (aCons (eBin geD (eCall absD (aCons (eVar 2) aNil)) (eBin powD (eC (.int 10)) (eC (.int 18)))) aNil))) (kName 3))
 (sRet (eLstM (aCons (eVar 3) (aCons (eBin addD (eBin addD (eBin modD (eCall intTD (aCons (eVar 2) aNil)) (eC (.int 2147483563))) (eBin mulD (eC (.int 40009)) (eVar 1))) (eC (.int 61))) (aCons (eC (.int 0)) aNil)))))))
noncomputable def G_l_bag : List D → Hs → R D := runB 4 b_l_bag
noncomputable def b_l_take : En → Hs → S :=
 (sCons (sIf (eTest (eBin gtD (eBin ixD (eVar 0) (eC (.int 0))) (eC (.int 0)))) (sCons (sAsg (eBin modD (eCall intTD (aCons (eBin ixD (eVar 0) (eC (.int 0))) aNil)) (eVar 1)) (kName 2))
 (sCons (sSetIx (eVar 0) (eC (.int 0)) (eBin fdivD (eBin ixD (eVar 0) (eC (.int 0))) (eVar 1)))
 (sRet (eVar 2)))) sNil)
 (sCons (sAsg (eTup (aCons (eC (.int 0)) (aCons (eC (.int 1)) aNil))) (kTup 2 (ksCons (kName 3) (ksCons (kName 4) ksNil))))
 (sCons (sWhile (eTest (eBin ltD (eVar 4) (eVar 1))) (sCons (sSetIx (eVar 0) (eC (.int 2)) (eBin addD (eBin ixD (eVar 0) (eC (.int 2))) (eC (.int 1))))
 (sCons (sSetIx (eVar 0) (eC (.int 1)) (eBin modD (eCall intTD (aCons (eBin addD (eBin addD (eBin mulD (eBin ixD (eVar 0) (eC (.int 1))) (eC (.int 40014))) (eBin mulD (eBin mulD (eC (.int 7919)) (eBin ixD (eVar 0) (eC (.int 2)))) (eBin ixD (eVar 0) (eC (.int 2))))) (eC (.int 83))) aNil)) (eC (.int 2147483563))))
 (sCons (sAsg (eBin modD (eCall intTD (aCons (eBin mulD (eBin fdivD (eBin ixD (eVar 0) (eC (.int 1))) (eC (.int 7))) (eBin addD (eBin fdivD (eBin ixD (eVar 0) (eC (.int 1))) (eC (.int 131))) (eBin ixD (eVar 0) (eC (.int 2))))) aNil)) (eC (.int 2147483399))) (kName 5))
 (sCons (sAsg (eBin addD (eBin mulD (eVar 3) (eC (.int 33554432))) (eBin modD (eCall intTD (aCons (eBin fdivD (eVar 5) (eC (.int 64))) aNil)) (eC (.int 33554432)))) (kName 3))
 (sAsg (eBin mulD (eVar 4) (eC (.int 33554432))) (kName 4)))))))
 (sRet (eBin modD (eVar 3) (eVar 1))))))
noncomputable def G_l_take : List D → Hs → R D := runB 6 b_l_take
noncomputable def b_is_integer : En → Hs → S :=
 (sRet (eAnd (eIsi .int [0, 1, 2] (eVar 0)) (eNot (eIsi .bool [0, 1, 2] (eVar 0)))))
noncomputable def G_is_integer : List D → Hs → R D := runB 1 b_is_integer
noncomputable def b_in_range : En → Hs → S :=
 (sRet (eAnd (eCallC (posF 1 G_is_integer) (cPos (aCons (eVar 0) aNil))) (eChain leD leD (eVar 1) (eVar 0) (eVar 2))))
noncomputable def G_in_range : List D → Hs → R D := runB 3 b_in_range
noncomputable def b_Policy_init : En → Hs → S :=
 (sCons (sIf (eOrB (eNotB (eTru (eIsi .str [0, 1, 2] (eVar 1)))) (eTest (eBin notInD (eVar 1) (eC (.tup [(.str "off"), (.str "partial"), (.str "all")]))))) sBad sNil)
 (sCons (sIf (eNotB (eTru (eCallC (posF 3 G_in_range) (cPos (aCons (eVar 2) (aCons (eC (.int 0)) (aCons (eC (.int 9)) aNil))))))) sBad sNil)
 (sCons (sIf (eNotB (eTru (eCallC (posF 3 G_in_range) (cPos (aCons (eVar 3) (aCons (eC (.int 0)) (aCons (eC (.int 4)) aNil))))))) sBad sNil)
 (sCons (sAttr [(0, 0)] (eVar 0) (eVar 1))
 (sCons (sAttr [(0, 1)] (eVar 0) (eVar 2))
 (sAttr [(0, 2), (2, 5)] (eVar 0) (eVar 3)))))))
noncomputable def G_Policy_init : List D → Hs → R D := runB 4 b_Policy_init
abbrev d_Policy_init_s1 : List D → List D → List D := dS [.d 0, .m 0, .m 1] [(.str "all")] [(.int 2), (.int 0)]
abbrev d_Policy_init_s2_every_quick : List D → List D → List D := dS [.k 0, .k 1] [(.str "all")] []
noncomputable def b_Setting_init : En → Hs → S :=
 (sCons (sIf (eNotB (eTru (eCallC (posF 3 G_in_range) (cPos (aCons (eVar 1) (aCons (eC (.int 1)) (aCons (eC (.int 1000000000000000000)) aNil))))))) sBad sNil)
 (sCons (sIf (eOrB (eTest (eBin gtD (eCall lenD (aCons (eVar 2) aNil)) (eC (.int 2)))) (eNotB (eTru (eCall allD (aCons (eComp (iSeq (eVar 2)) (kName 4) bYes (eIsi (.cls 0) [0, 1, 2] (eVar 4)) [4]) aNil))))) sBad sNil)
 (sCons (sAsg (eLst (aStar (eVar 2) (aStar (eVar 2) (aCons (eMake 0 (kwF 1 0 d_Policy_init_s1 G_Policy_init) cNil) (aCons (eMake 0 (kwF 1 0 d_Policy_init_s1 G_Policy_init) cNil) aNil))))) (kName 3))
 (sCons (sAttr [(1, 0)] (eVar 0) (eVar 1))
 (sAttr [(1, 1)] (eVar 0) (eTup (aCons (eBin ixD (eVar 3) (eC (.int 0))) (aCons (eBin ixD (eVar 3) (eC (.int 1))) aNil))))))))
noncomputable def G_Setting_init : List D → Hs → R D := runB 5 b_Setting_init
noncomputable def b_l_setting : En → Hs → S :=
 (sCons (sAsg (eComp (iSeq (eVar 1)) (kTup 3 (ksCons (kName 3) (ksCons (kName 4) (ksCons (kName 5) ksNil)))) bYes (eMake 0 (kwF 2 2 d_Policy_init_s2_every_quick G_Policy_init) (cKw 2 (aCons (eVar 3) aNil) (aCons (eVar 4) (aCons (eVar 5) aNil)))) [3, 4, 5]) (kName 2))
 (sRet (eMake 1 (starF 2 G_Setting_init) (cPos (aCons (eVar 0) (aCons (eBin ixD (eVar 2) (eC (.int 0))) (aCons (eBin ixD (eVar 2) (eC (.int 1))) aNil)))))))
noncomputable def G_l_setting : List D → Hs → R D := runB 6 b_l_setting
noncomputable def b_l_values : En → Hs → S :=
 (sCons (sAsg (eBin subD (eBin addD (eBin mulD (eVar 1) (eCallC (posF 2 G_l_take) (cPos (aCons (eVar 0) (aCons (eBin addD (eC (.int 1)) (eBin fdivD (eBin powD (eC (.int 10)) (eC (.int 18))) (eVar 1))) aNil))))) (eCallC (posF 2 G_l_take) (cPos (aCons (eVar 0) (aCons (eC (.int 3)) aNil))))) (eC (.int 1))) (kName 2))
 (sRet (eBin ixD (eLst (aCons (eBin addD (eC (.int 1)) (eCallC (posF 2 G_l_take) (cPos (aCons (eVar 0) (aCons (eBin powD (eC (.int 10)) (eC (.int 18))) aNil))))) (aCons (eCall maxD (aCons (eC (.int 1)) (aCons (eCall minD (aCons (eVar 2) (aCons (eBin powD (eC (.int 10)) (eC (.int 18))) aNil))) aNil))) (aCons (eBin addD (eC (.int 1)) (eCallC (posF 2 G_l_take) (cPos (aCons (eVar 0) (aCons (eCall minD (aCons (eVar 1) (aCons (eBin powD (eC (.int 10)) (eC (.int 18))) aNil))) aNil))))) aNil)))) (eCallC (posF 2 G_l_take) (cPos (aCons (eVar 0) (aCons (eC (.int 3)) aNil)))))))
noncomputable def G_l_values : List D → Hs → R D := runB 3 b_l_values
noncomputable def b_TurnState_init : En → Hs → S :=
 (sCons (sAttr [(2, 0)] (eVar 0) (eVar 1))
 (sCons (sAttr [(2, 1)] (eVar 0) (eVar 2))
 (sCons (sAttr [(2, 2)] (eVar 0) (eVar 3))
 (sCons (sAttr [(2, 3)] (eVar 0) (eVar 4))
 (sCons (sAttr [(2, 4)] (eVar 0) (eVar 5))
 (sAttr [(0, 2), (2, 5)] (eVar 0) (eVar 6)))))))
noncomputable def G_TurnState_init : List D → Hs → R D := runB 7 b_TurnState_init
abbrev d_TurnState_init_s1_quick : List D → List D → List D := dS [.d 0, .d 1, .d 2, .d 3, .d 4, .k 0] [(.int 0), (.bl false), (.bl false), (.bl false), (.int 0), (.int 0)] []
abbrev d_TurnState_init_s7 : List D → List D → List D := dS [] [(.int 0), (.bl false), (.bl false), (.bl false), (.int 0), (.int 0)] []
noncomputable def b_TurnState_as_tuple : En → Hs → S :=
 (sRet (eTup (aCons (eAttr [(2, 0)] (eVar 0)) (aCons (eAttr [(2, 1)] (eVar 0)) (aCons (eAttr [(2, 2)] (eVar 0)) (aCons (eAttr [(2, 3)] (eVar 0)) (aCons (eAttr [(2, 4)] (eVar 0)) (aCons (eAttr [(0, 2), (2, 5)] (eVar 0)) aNil))))))))
noncomputable def G_TurnState_as_tuple : List D → Hs → R D := runB 1 b_TurnState_as_tuple
noncomputable def b_rules_of : En → Hs → S :=
 (sRet (eTup (aCons (eAttr [(1, 0)] (eVar 0)) (aCons (eAttr [(0, 0)] (eBin ixD (eAttr [(1, 1)] (eVar 0)) (eVar 1))) (aCons (eAttr [(0, 1)] (eBin ixD (eAttr [(1, 1)] (eVar 0)) (eBin subD (eC (.int 1)) (eVar 1)))) aNil)))))
noncomputable def G_rules_of : List D → Hs → R D := runB 2 b_rules_of
noncomputable def b_with_full : En → Hs → S :=
 (sCons (sAsg (eVar 0) (kTup 3 (ksCons (kName 3) (ksCons (kName 4) (ksCons (kName 5) ksNil)))))
 (sCons (sAsg (eVar 1) (kTup 6 (ksCons (kName 6) (ksCons (kName 7) (ksCons (kName 8) (ksCons (kName 9) (ksCons (kName 10) (ksCons (kName 11) ksNil))))))))
 (sCons (sIf (eTest (eBin eqD (eVar 2) (eC (.int 0)))) (sRet (eTup (aCons (eVar 1) (aCons (eC (.int 0)) aNil)))) sNil)
 (sCons (sAsg (eCall minD (aCons (eVar 11) (aCons (eVar 2) aNil))) (kName 12))
 (sCons (sAsg (eBin subD (eVar 2) (eVar 12)) (kName 13))
 (sCons (sAsg (eIf (eTest (eBin gtD (eVar 12) (eC (.int 0)))) (eC (.int 0)) (eVar 10)) (kName 10))
 (sCons (sAsg (eVar 12) (kName 14))
 (sCons (sIf (eTest (eBin gtD (eVar 5) (eC (.int 0)))) (sCons (sAugI 14 (fun a b => a + b) (eBin fdivD (eBin addD (eVar 10) (eVar 13)) (eVar 5)))
 (sAsg (eBin modD (eBin addD (eVar 10) (eVar 13)) (eVar 5)) (kName 10))) sNil)
 (sCons (sIf (eTest (eBin eqD (eVar 4) (eC (.str "all")))) (sCons (sAsg (eC (.bl true)) (kName 8))
 (sAsg (eAnd (eBin gtD (eVar 13) (eC (.int 0))) (eOr (eBin eqD (eVar 5) (eC (.int 0))) (eBin gtD (eVar 10) (eC (.int 0))))) (kName 9))) sNil)
 (sCons (sIf (eTest (eBin eqD (eVar 4) (eC (.str "partial")))) (sAsg (eAnd (eVar 9) (eBin eqD (eVar 14) (eC (.int 0)))) (kName 9)) sNil)
 (sRet (eTup (aCons (eTup (aCons (eVar 6) (aCons (eVar 7) (aCons (eVar 8) (aCons (eVar 9) (aCons (eVar 10) (aCons (eBin subD (eVar 11) (eVar 12)) aNil))))))) (aCons (eVar 14) aNil))))))))))))))
noncomputable def G_with_full : List D → Hs → R D := runB 15 b_with_full
noncomputable def b_with_partial : En → Hs → S :=
 (sCons (sAsg (eBin neD (eBin ixD (eVar 0) (eC (.int 1))) (eC (.str "off"))) (kName 2))
 (sCons (sIf (eTest (eBin gtD (eBin ixD (eVar 1) (eC (.int 5))) (eC (.int 0)))) (sRet (eTup (aCons (eTup (aCons (eC (.int 0)) (aCons (eC (.bl false)) (aCons (eVar 2) (aCons (eC (.bl false)) (aCons (eC (.int 0)) (aCons (eBin subD (eBin ixD (eVar 1) (eC (.int 5))) (eC (.int 1))) aNil))))))) (aCons (eC (.int 1)) aNil)))) sNil)
 (sRet (eTup (aCons (eTup (aCons (eC (.int 0)) (aCons (eC (.bl false)) (aCons (eVar 2) (aCons (eVar 2) (aCons (eBin ixD (eVar 1) (eC (.int 4))) (aCons (eC (.int 0)) aNil))))))) (aCons (eC (.int 0)) aNil))))))
noncomputable def G_with_partial : List D → Hs → R D := runB 3 b_with_partial
noncomputable def b_after_write : En → Hs → S :=
 (sCons (sAsg (eCall divmodD (aCons (eBin addD (eBin ixD (eVar 1) (eC (.int 0))) (eVar 2)) (aCons (eBin ixD (eVar 0) (eC (.int 0))) aNil))) (kTup 2 (ksCons (kName 4) (ksCons (kName 5) ksNil))))
 (sCons (sAsg (eCallC (posF 3 G_with_full) (cPos (aCons (eVar 0) (aCons (eBin addD (eTup (aCons (eVar 5) (aCons (eC (.bl false)) aNil))) (eSl slD (eVar 1) (oSome (eC (.int 2))) oNo)) (aCons (eVar 4) aNil))))) (kTup 2 (ksCons (kName 1) (ksCons (kName 6) ksNil))))
 (sCons (sIf (eAndB (eTest (eBin gtD (eVar 5) (eC (.int 0)))) (eTest (eBin eqD (eVar 3) (eC (.str "more"))))) (sRet (eTup (aCons (eBin addD (eTup (aCons (eVar 5) (aCons (eC (.bl true)) aNil))) (eSl slD (eVar 1) (oSome (eC (.int 2))) oNo)) (aCons (eVar 4) (aCons (eVar 6) aNil))))) sNil)
 (sCons (sIf (eAndB (eTest (eBin gtD (eVar 5) (eC (.int 0)))) (eOrB (eTest (eBin eqD (eVar 3) (eC (.str "push")))) (eNotB (eTru (eBin ixD (eVar 1) (eC (.int 2))))))) (sCons (sAsg (eCallC (posF 2 G_with_partial) (cPos (aCons (eVar 0) (aCons (eVar 1) aNil)))) (kTup 2 (ksCons (kName 1) (ksCons (kName 7) ksNil))))
 (sRet (eTup (aCons (eVar 1) (aCons (eBin addD (eVar 4) (eC (.int 1))) (aCons (eBin addD (eVar 6) (eVar 7)) aNil)))))) sNil)
 (sRet (eTup (aCons (eVar 1) (aCons (eVar 4) (aCons (eVar 6) aNil)))))))))
noncomputable def G_after_write : List D → Hs → R D := runB 8 b_after_write
noncomputable def b_written : En → Hs → S :=
 (sCons (sAsg (eBin ixD (eCallC (posF 4 G_after_write) (cPos (aCons (eCallC (posF 2 G_rules_of) (cPos (aCons (eVar 0) (aCons (eVar 1) aNil)))) (aCons (eMeth 2 (posF 1 G_TurnState_as_tuple) (eVar 2) cNil) (aCons (eVar 3) (aCons (eVar 4) aNil)))))) (eC (.int 0))) (kName 5))
 (sRet (eMake 2 (kwF 7 0 d_TurnState_init_s7 G_TurnState_init) (cStar (eVar 5)))))
noncomputable def G_written : List D → Hs → R D := runB 6 b_written
abbrev d_written_s4 : List D → List D → List D := dS [.d 0] [(.str "plain")] []
noncomputable def b_l_tell : En → Hs → S :=
 (sRet (eLst (aCons (eAttr [(2, 0)] (eVar 0)) (aCons (eAttr [(2, 1)] (eVar 0)) (aCons (eAttr [(2, 2)] (eVar 0)) (aCons (eAttr [(2, 3)] (eVar 0)) (aCons (eAttr [(2, 4)] (eVar 0)) (aCons (eAttr [(0, 2), (2, 5)] (eVar 0)) aNil))))))))
noncomputable def G_l_tell : List D → Hs → R D := runB 1 b_l_tell
noncomputable def b_l_sent : En → Hs → S :=
 (sCons (sAsg (eCall minD (aCons (eVar 1) (aCons (eVar 0) aNil))) (kName 4))
 (sCons (sAsg (eBin subD (eVar 0) (eVar 4)) (kName 5))
 (sCons (sAsg (eBin addD (eBin mulD (eVar 2) (eCall intTD (aCons (eBin eqD (eVar 4) (eC (.int 0))) aNil))) (eVar 5)) (kName 6))
 (sCons (sAsg (eOr (eBin eqD (eVar 5) (eC (.int 0))) (eAnd (eBin gtD (eVar 3) (eC (.int 0))) (eBin eqD (eBin modD (eCall intTD (aCons (eVar 6) aNil)) (eCall maxD (aCons (eC (.int 1)) (aCons (eVar 3) aNil)))) (eC (.int 0))))) (kName 7))
 (sRet (eTup (aCons (eBin subD (eVar 1) (eVar 4)) (aCons (eBin mulD (eBin modD (eCall intTD (aCons (eVar 6) aNil)) (eCall maxD (aCons (eC (.int 1)) (aCons (eVar 3) aNil)))) (eCall intTD (aCons (eBin gtD (eVar 3) (eC (.int 0))) aNil))) (aCons (eVar 7) aNil)))))))))
noncomputable def G_l_sent : List D → Hs → R D := runB 8 b_l_sent
noncomputable def b_l_first_due : En → Hs → S :=
 (sCons (sPar 4 5 (aCons (eBin fdivD (eVar 3) (eVar 0)) (aCons (eBin modD (eCall intTD (aCons (eVar 3) aNil)) (eVar 0)) aNil)))
 (sCons (sAsg (eCallC (posF 4 G_l_sent) (cPos (aCons (eVar 4) (aCons (eBin ixD (eVar 2) (eC (.int 2))) (aCons (eC (.int 0)) (aCons (eBin ixD (eVar 2) (eC (.int 1))) aNil)))))) (kTup 3 (ksCons (kName 6) (ksCons (kName 7) (ksCons (kName 8) ksNil)))))
 (sCons (sAsg (eAnd (eBin gtD (eVar 4) (eC (.int 0))) (eBin eqD (eVar 1) (eC (.str "all")))) (kName 9))
 (sCons (sAsg (eAnd (eVar 9) (eNot (eVar 8))) (kName 10))
 (sCons (sIf (eAndB (eTest (eBin gtD (eVar 5) (eC (.int 0)))) (eNotB (eTru (eVar 9)))) (sCons (sIf (eTest (eBin gtD (eVar 6) (eC (.int 0)))) (sRet (eLst (aCons (eC (.int 0)) (aCons (eC (.bl false)) (aCons (eBin neD (eVar 1) (eC (.str "off"))) (aCons (eC (.bl false)) (aCons (eC (.int 0)) (aCons (eBin subD (eVar 6) (eC (.int 1))) aNil)))))))) sNil)
 (sRet (eLst (aCons (eC (.int 0)) (aCons (eC (.bl false)) (aCons (eBin neD (eVar 1) (eC (.str "off"))) (aCons (eBin neD (eVar 1) (eC (.str "off"))) (aCons (eVar 7) (aCons (eC (.int 0)) aNil))))))))) sNil)
 (sRet (eLst (aCons (eVar 5) (aCons (eC (.bl false)) (aCons (eVar 9) (aCons (eVar 10) (aCons (eVar 7) (aCons (eVar 6) aNil)))))))))))))
noncomputable def G_l_first_due : List D → Hs → R D := runB 11 b_l_first_due
noncomputable def b_l_second_due : En → Hs → S :=
 (sCons (sAsg (eBin addD (eAttr [(2, 0)] (eVar 2)) (eVar 3)) (kName 4))
 (sCons (sAsg (eCallC (posF 4 G_l_sent) (cPos (aCons (eBin fdivD (eVar 4) (eVar 0)) (aCons (eAttr [(0, 2), (2, 5)] (eVar 2)) (aCons (eAttr [(2, 4)] (eVar 2)) (aCons (eBin ixD (eVar 1) (eC (.int 1))) aNil)))))) (kTup 3 (ksCons (kName 5) (ksCons (kName 6) (ksCons (kName 7) ksNil)))))
 (sRet (eLst (aCons (eBin modD (eCall intTD (aCons (eVar 4) aNil)) (eVar 0)) (aCons (eC (.bl false)) (aCons (eC (.bl true)) (aCons (eNot (eVar 7)) (aCons (eVar 6) (aCons (eVar 5) aNil))))))))))
noncomputable def G_l_second_due : List D → Hs → R D := runB 8 b_l_second_due
noncomputable def b_after_clearing : En → Hs → S :=
 (sCons (sIf (eOrB (eNotB (eTru (eBin ixD (eVar 1) (eC (.int 2))))) (eTru (eBin ixD (eVar 1) (eC (.int 3))))) (sRet (eTup (aCons (eVar 1) (aCons (eC (.int 0)) (aCons (eC (.int 0)) aNil))))) sNil)
 (sCons (sAsg (eBin addD (eBin addD (eSl slD (eVar 1) oNo (oSome (eC (.int 2)))) (eTup (aCons (eC (.bl false)) (aCons (eC (.bl false)) aNil)))) (eSl slD (eVar 1) (oSome (eC (.int 4))) oNo)) (kName 1))
 (sCons (sIf (eOrB (eTest (eBin eqD (eBin ixD (eVar 1) (eC (.int 0))) (eC (.int 0)))) (eTru (eBin ixD (eVar 1) (eC (.int 1))))) (sRet (eTup (aCons (eVar 1) (aCons (eC (.int 0)) (aCons (eC (.int 0)) aNil))))) sNil)
 (sCons (sAsg (eCallC (posF 2 G_with_partial) (cPos (aCons (eVar 0) (aCons (eVar 1) aNil)))) (kTup 2 (ksCons (kName 1) (ksCons (kName 2) ksNil))))
 (sRet (eTup (aCons (eVar 1) (aCons (eC (.int 1)) (aCons (eVar 2) aNil)))))))))
noncomputable def G_after_clearing : List D → Hs → R D := runB 3 b_after_clearing
noncomputable def b_cleared : En → Hs → S :=
 (sCons (sAsg (eBin ixD (eCallC (posF 2 G_after_clearing) (cPos (aCons (eCallC (posF 2 G_rules_of) (cPos (aCons (eVar 0) (aCons (eVar 1) aNil)))) (aCons (eMeth 2 (posF 1 G_TurnState_as_tuple) (eVar 2) cNil) aNil)))) (eC (.int 0))) (kName 3))
 (sRet (eMake 2 (kwF 7 0 d_TurnState_init_s7 G_TurnState_init) (cStar (eVar 3)))))
noncomputable def G_cleared : List D → Hs → R D := runB 4 b_cleared
noncomputable def b_TurnState_eq : En → Hs → S :=
 (sRet (eAnd (eIsi (.cls 2) [0, 1, 2] (eVar 1)) (eBin eqD (eMeth 2 (posF 1 G_TurnState_as_tuple) (eVar 0) cNil) (eMeth 2 (posF 1 G_TurnState_as_tuple) (eVar 1) cNil))))
noncomputable def G_TurnState_eq : List D → Hs → R D := runB 2 b_TurnState_eq
noncomputable def b_law : En → Hs → S :=
 (sCons (sFor (iRange1 (aCons (eCall maxD (aCons (eC (.int 2)) (aCons (eCall minD (aCons (eC (.int 8)) (aCons (eCall lenD (aCons (eVar 0) aNil)) aNil))) aNil))) aNil)) (kName 1) (sCons (sAsg (eCallC (posF 2 G_l_bag) (cPos (aCons (eVar 0) (aCons (eVar 1) aNil)))) (kName 2))
 (sCons (sAsg (eBin ixD (eLst (aCons (eBin addD (eC (.int 1)) (eCallC (posF 2 G_l_take) (cPos (aCons (eVar 2) (aCons (eBin powD (eC (.int 10)) (eC (.int 18))) aNil))))) (aCons (eBin addD (eC (.int 1)) (eCallC (posF 2 G_l_take) (cPos (aCons (eVar 2) (aCons (eC (.int 9)) aNil))))) (aCons (eBin addD (eC (.int 1)) (eCallC (posF 2 G_l_take) (cPos (aCons (eVar 2) (aCons (eBin powD (eC (.int 10)) (eC (.int 6))) aNil))))) aNil)))) (eCallC (posF 2 G_l_take) (cPos (aCons (eVar 2) (aCons (eC (.int 3)) aNil))))) (kName 3))
 (sFor (iRange1 (aCons (eC (.int 4)) aNil)) (kName 4) (sCons (sAsg (eBin ixD (eLst (aCons (eC (.str "off")) (aCons (eC (.str "partial")) (aCons (eC (.str "all")) (aCons (eC (.str "all")) aNil))))) (eCallC (posF 2 G_l_take) (cPos (aCons (eVar 2) (aCons (eC (.int 4)) aNil))))) (kName 5))
 (sCons (sAsg (eTup (aCons (eC (.str "off")) (aCons (eCallC (posF 2 G_l_take) (cPos (aCons (eVar 2) (aCons (eC (.int 10)) aNil)))) (aCons (eCallC (posF 2 G_l_take) (cPos (aCons (eVar 2) (aCons (eC (.int 5)) aNil)))) aNil)))) (kName 6))
 (sCons (sPar 7 8 (aCons (eCallC (posF 2 G_l_setting) (cPos (aCons (eVar 3) (aCons (eLst (aCons (eTup (aCons (eVar 5) (aCons (eC (.int 2)) (aCons (eC (.int 0)) aNil)))) (aCons (eVar 6) aNil))) aNil)))) (aCons (eCallC (posF 2 G_l_values) (cPos (aCons (eVar 2) (aCons (eVar 3) aNil)))) aNil)))
 (sCons (sAsg (eCallC (kwF 4 0 d_written_s4 G_written) (cPos (aCons (eVar 7) (aCons (eC (.int 0)) (aCons (eMake 2 (kwF 1 1 d_TurnState_init_s1_quick G_TurnState_init) (cKw 1 aNil (aCons (eBin ixD (eVar 6) (eC (.int 2))) aNil))) (aCons (eVar 8) aNil)))))) (kName 9))
 (sCons (sIf (eTest (eBin neD (eCallC (posF 1 G_l_tell) (cPos (aCons (eVar 9) aNil))) (eCallC (posF 4 G_l_first_due) (cPos (aCons (eVar 3) (aCons (eVar 5) (aCons (eVar 6) (aCons (eVar 8) aNil)))))))) (sRet (eC (.bl false))) sNil)
 (sCons (sIf (eAndB (eTest (eBin eqD (eVar 5) (eC (.str "all")))) (eTest (eBin gtD (eAttr [(2, 0)] (eVar 9)) (eC (.int 0))))) (sCons (sAsg (eCall maxD (aCons (eCallC (posF 2 G_l_values) (cPos (aCons (eVar 2) (aCons (eVar 3) aNil)))) (aCons (eBin subD (eVar 3) (eAttr [(2, 0)] (eVar 9))) aNil))) (kName 10))
 (sCons (sAsg (eCallC (kwF 4 0 d_written_s4 G_written) (cPos (aCons (eVar 7) (aCons (eC (.int 0)) (aCons (eVar 9) (aCons (eVar 10) aNil)))))) (kName 11))
 (sIf (eTest (eBin neD (eCallC (posF 1 G_l_tell) (cPos (aCons (eVar 11) aNil))) (eCallC (posF 4 G_l_second_due) (cPos (aCons (eVar 3) (aCons (eVar 6) (aCons (eVar 9) (aCons (eVar 10) aNil)))))))) (sRet (eC (.bl false))) sNil))) sNil)
 (sCons (sAsg (eCallC (posF 3 G_cleared) (cPos (aCons (eVar 7) (aCons (eC (.int 0)) (aCons (eCallC (posF 3 G_cleared) (cPos (aCons (eVar 7) (aCons (eC (.int 0)) (aCons (eVar 9) aNil))))) aNil))))) (kName 12))
 (sIf (eOrB (eTru (eAttr [(2, 1)] (eVar 9))) (eTest (eBin (neOwnD 2 (posF 2 G_TurnState_eq)) (eCallC (posF 3 G_cleared) (cPos (aCons (eVar 7) (aCons (eC (.int 0)) (aCons (eVar 12) aNil))))) (eVar 12)))) (sRet (eC (.bl false))) sNil))))))))))))
 (sRet (eC (.bl true))))
noncomputable def G_law : List D → Hs → R D := runB 13 b_law
end Ev
set_option Elab.async false
set_option linter.all false
set_option maxRecDepth 100000
set_option maxHeartbeats 4000000
namespace Ev
open PySem L2
def topS (i : Nat) : Stmt := PySem.Challenge.pw_latewords_k08_states_of_great_lengths.main.body.getD i (.Pass ⟨0, 0, 0, 0⟩)
variable {P : Program} {w : World} {K : PySem.W.Frag} {mg : Str → Option Value} {base : Heap}
abbrev st_l_bag : Stmt := topS 22
abbrev N_l_bag : List Str := ["_law_script", "_law_at", "_law_cell", "_law_digits"]
theorem sc_l_bag : FnScope N_l_bag ["_law_script", "_law_at"] (defScope st_l_bag) := ⟨rfl, rfl, rfl, by decide +kernel, rfl, by decide +kernel, by decide +kernel⟩
theorem ok_l_bag {f : Addr} (z_len : mg "len" = none) (z_abs : mg "abs" = none) (z_int : mg "int" = none) : BodyOk P w K mg base f "_law_bag" st_l_bag N_l_bag 0 b_l_bag := by
  intro cdv A outer s H E hr
  have nd := sc_l_bag.nd
  have tk : Takes (bodyCx P w K mg base N_l_bag "_law_bag" st_l_bag f cdv A outer s H E) (bodyW E) := takes_of rfl rfl rfl rfl
  have pp := passes_of (X := bodyCx P w K mg base N_l_bag "_law_bag" st_l_bag f cdv A outer s H E) rfl
  exact ⟨_, (ssj_cons (sj_set 2 nd (ej_if (tj_cmp op_lt opj_lt (ej_var 1) (ej_callB call_len caj_len rfl z_len (by decide +kernel) (aj_cons (ej_var 0) aj_nil)) (nomark _)) (ej_ix (ej_var 0) (ej_var 1)) ej_int))
 (ssj_cons (sj_set 3 nd (ej_bin opr_mul opj_mul (ej_callB call_abs caj_abs rfl z_abs (by decide +kernel) (aj_cons (ej_var 2) aj_nil)) (ej_callTy call_int1 caj_int rfl z_int (by decide +kernel) (aj_cons (ej_cmp op_ge opj_ge (ej_callB call_abs caj_abs rfl z_abs (by decide +kernel) (aj_cons (ej_var 2) aj_nil)) (ej_bin op_pow opj_pow ej_int ej_int) (nomark _)) aj_nil))))
 (ssj_one (sj_ret (ej_lstM (aj_cons (ej_var 3) (aj_cons (ej_bin opr_add opj_add (ej_bin opr_add opj_add (ej_bin op_mod opj_mod (ej_callTy call_int1 caj_int rfl z_int (by decide +kernel) (aj_cons (ej_var 2) aj_nil)) ej_int) (ej_bin opr_mul opj_mul ej_int (ej_var 1))) ej_int) (aj_cons ej_int aj_nil))))))))⟩
abbrev st_l_take : Stmt := topS 23
abbrev N_l_take : List Str := ["_law_bag_here", "_law_many", "_law_digit", "_law_found", "_law_reach", "_law_more"]
theorem sc_l_take : FnScope N_l_take ["_law_bag_here", "_law_many"] (defScope st_l_take) := ⟨rfl, rfl, rfl, by decide +kernel, rfl, by decide +kernel, by decide +kernel⟩
theorem ok_l_take {f : Addr} (z_int : mg "int" = none) : BodyOk P w K mg base f "_law_take" st_l_take N_l_take 0 b_l_take := by
  intro cdv A outer s H E hr
  have nd := sc_l_take.nd
  have tk : Takes (bodyCx P w K mg base N_l_take "_law_take" st_l_take f cdv A outer s H E) (bodyW E) := takes_of rfl rfl rfl rfl
  have pp := passes_of (X := bodyCx P w K mg base N_l_take "_law_take" st_l_take f cdv A outer s H E) rfl
  exact ⟨_, (ssj_cons (sj_if (tj_cmp op_gt opj_gt (ej_ix (ej_var 0) ej_int) ej_int (nomark _)) (ssj_cons (sj_set 2 nd (ej_bin op_mod opj_mod (ej_callTy call_int1 caj_int rfl z_int (by decide +kernel) (aj_cons (ej_ix (ej_var 0) ej_int) aj_nil)) (ej_var 1)))
 (ssj_cons (sj_setIx (ej_bin op_fdivW opj_fdiv (ej_ix (ej_var 0) ej_int) (ej_var 1)) (ej_var 0) ej_int)
 (ssj_one (sj_ret (ej_var 2))))) ssj_nil)
 (ssj_cons (sj_asg (ej_tup (aj_cons ej_int (aj_cons ej_int aj_nil))) (gj_tup rfl (gsj_cons (gj_name 3 nd) (gsj_cons (gj_name 4 nd) gsj_nil))))
 (ssj_cons (sj_while pp (tj_cmp op_lt opj_lt (ej_var 4) (ej_var 1) (nomark _)) (ssj_cons (sj_setIx (ej_bin opr_add opj_add (ej_ix (ej_var 0) ej_int) ej_int) (ej_var 0) ej_int)
 (ssj_cons (sj_setIx (ej_bin op_mod opj_mod (ej_callTy call_int1 caj_int rfl z_int (by decide +kernel) (aj_cons (ej_bin opr_add opj_add (ej_bin opr_add opj_add (ej_bin opr_mul opj_mul (ej_ix (ej_var 0) ej_int) ej_int) (ej_bin opr_mul opj_mul (ej_bin opr_mul opj_mul ej_int (ej_ix (ej_var 0) ej_int)) (ej_ix (ej_var 0) ej_int))) ej_int) aj_nil)) ej_int) (ej_var 0) ej_int)
 (ssj_cons (sj_set 5 nd (ej_bin op_mod opj_mod (ej_callTy call_int1 caj_int rfl z_int (by decide +kernel) (aj_cons (ej_bin opr_mul opj_mul (ej_bin op_fdivW opj_fdiv (ej_ix (ej_var 0) ej_int) ej_int) (ej_bin opr_add opj_add (ej_bin op_fdivW opj_fdiv (ej_ix (ej_var 0) ej_int) ej_int) (ej_ix (ej_var 0) ej_int))) aj_nil)) ej_int))
 (ssj_cons (sj_set 3 nd (ej_bin opr_add opj_add (ej_bin opr_mul opj_mul (ej_var 3) ej_int) (ej_bin op_mod opj_mod (ej_callTy call_int1 caj_int rfl z_int (by decide +kernel) (aj_cons (ej_bin op_fdivW opj_fdiv (ej_var 5) ej_int) aj_nil)) ej_int)))
 (ssj_one (sj_set 4 nd (ej_bin opr_mul opj_mul (ej_var 4) ej_int))))))))
 (ssj_one (sj_ret (ej_bin op_mod opj_mod (ej_var 3) (ej_var 1)))))))⟩
abbrev st_is_integer : Stmt := topS 17
abbrev N_is_integer : List Str := ["value"]
theorem sc_is_integer : FnScope N_is_integer ["value"] (defScope st_is_integer) := ⟨rfl, rfl, rfl, by decide +kernel, rfl, by decide +kernel, by decide +kernel⟩
theorem ok_is_integer {f : Addr} (z_isinstance : mg "isinstance" = none) (i_int : IsiF ci0 K mg .int [0, 1, 2] (.type "int")) (z_int : mg "int" = none) (i_bool : IsiF ci0 K mg .bool [0, 1, 2] (.type "bool")) (z_bool : mg "bool" = none) : BodyOk P w K mg base f "is_integer" st_is_integer N_is_integer 0 b_is_integer := by
  intro cdv A outer s H E hr
  have nd := sc_is_integer.nd
  have tk : Takes (bodyCx P w K mg base N_is_integer "is_integer" st_is_integer f cdv A outer s H E) (bodyW E) := takes_of rfl rfl rfl rfl
  have pp := passes_of (X := bodyCx P w K mg base N_is_integer "is_integer" st_is_integer f cdv A outer s H E) rfl
  exact ⟨_, (ssj_one (sj_ret (ej_and (ej_isiB .int [0, 1, 2] "int" z_isinstance z_int (ej_var 0) i_int) (ej_one (ej_not (ej_isiB .bool [0, 1, 2] "bool" z_isinstance z_bool (ej_var 0) i_bool))))))⟩
abbrev st_in_range : Stmt := topS 18
abbrev N_in_range : List Str := ["value", "least", "most"]
theorem sc_in_range : FnScope N_in_range ["value", "least", "most"] (defScope st_in_range) := ⟨rfl, rfl, rfl, by decide +kernel, rfl, by decide +kernel, by decide +kernel⟩
theorem ok_in_range {f : Addr} (c_is_integer : NameC ci0 P w K mg base "is_integer" 1 [] (posF 1 G_is_integer)) : BodyOk P w K mg base f "in_range" st_in_range N_in_range 1 b_in_range := by
  intro cdv A outer s H E hr
  have nd := sc_in_range.nd
  have tk : Takes (bodyCx P w K mg base N_in_range "in_range" st_in_range f cdv A outer s H E) (bodyW E) := takes_of rfl rfl rfl rfl
  have pp := passes_of (X := bodyCx P w K mg base N_in_range "in_range" st_in_range f cdv A outer s H E) rfl
  exact ⟨_, (ssj_one (sj_ret (ej_and (ej_fn c_is_integer (hr.mono (by decide)) tk (caj_pos (aj_cons (ej_var 0) aj_nil))) (ej_one (ej_chain op_le op_le opj_le opj_le (ej_var 1) (ej_var 0) (ej_var 2))))))⟩
abbrev st_Policy_init : Stmt := inClass (topS 19) 1
abbrev N_Policy_init : List Str := ["self", "hold", "every", "quick"]
theorem sc_Policy_init : FnScope N_Policy_init ["self", "hold", "every", "quick"] (defScope st_Policy_init) := ⟨rfl, rfl, rfl, by decide +kernel, rfl, by decide +kernel, by decide +kernel⟩
theorem ok_Policy_init {f : Addr} (z_isinstance : mg "isinstance" = none) (i_str : IsiF ci0 K mg .str [0, 1, 2] (.type "str")) (z_str : mg "str" = none) (k_Policy_HOLDS : ConC ci0 K mg "Policy" "HOLDS" (.tup [(.str "off"), (.str "partial"), (.str "all")])) (g_MOST_EVERY : GlC ci0 K mg "MOST_EVERY" (.int 9)) (c_in_range : NameC ci0 P w K mg base "in_range" 2 [] (posF 3 G_in_range)) (g_MOST_QUICK : GlC ci0 K mg "MOST_QUICK" (.int 4)) (f_Policy_hold : FldAt ci0 K mg "hold" 0 0) (f_Policy_every : FldAt ci0 K mg "every" 0 1) (f_Policy_quick : FldAt ci0 K mg "quick" 0 2) (f_TurnState_quick : FldAt ci0 K mg "quick" 2 5) : BodyOk P w K mg base f "Policy.__init__" st_Policy_init N_Policy_init 2 b_Policy_init := by
  intro cdv A outer s H E hr
  have nd := sc_Policy_init.nd
  have tk : Takes (bodyCx P w K mg base N_Policy_init "Policy.__init__" st_Policy_init f cdv A outer s H E) (bodyW E) := takes_of rfl rfl rfl rfl
  have pp := passes_of (X := bodyCx P w K mg base N_Policy_init "Policy.__init__" st_Policy_init f cdv A outer s H E) rfl
  exact ⟨_, (ssj_cons (sj_if (tj_w (twj_or (tj_not (tj_tru (ej_isiB .str [0, 1, 2] "str" z_isinstance z_str (ej_var 1) i_str))) (twj_or1 (tj_cmp (opr_notIn (Room.units65 hr)) opj_notIn (ej_var 1) (ej_con k_Policy_HOLDS) (by rfl))))) (ssj_one sj_bad) ssj_nil)
 (ssj_cons (sj_if (tj_not (tj_tru (ej_fn c_in_range (hr.mono (by decide)) tk (caj_pos (aj_cons (ej_var 2) (aj_cons ej_int (aj_cons (ej_gl g_MOST_EVERY) aj_nil))))))) (ssj_one sj_bad) ssj_nil)
 (ssj_cons (sj_if (tj_not (tj_tru (ej_fn c_in_range (hr.mono (by decide)) tk (caj_pos (aj_cons (ej_var 3) (aj_cons ej_int (aj_cons (ej_gl g_MOST_QUICK) aj_nil))))))) (ssj_one sj_bad) ssj_nil)
 (ssj_cons (sj_attr [(0, 0)] (ej_var 0) (ej_var 1) (tab1 f_Policy_hold))
 (ssj_cons (sj_attr [(0, 1)] (ej_var 0) (ej_var 2) (tab1 f_Policy_every))
 (ssj_one (sj_attr [(0, 2), (2, 5)] (ej_var 0) (ej_var 3) (tab2 f_Policy_quick f_TurnState_quick))))))))⟩
abbrev st_Setting_init : Stmt := inClass (topS 20) 0
abbrev N_Setting_init : List Str := ["self", "size", "policies", "both", "policy"]
theorem sc_Setting_init : FnScope N_Setting_init ["self", "size", "policies"] (defScope st_Setting_init) := ⟨rfl, rfl, rfl, by decide +kernel, rfl, by decide +kernel, by decide +kernel⟩
theorem ok_Setting_init {f : Addr} (g_MOST_SIZE : GlC ci0 K mg "MOST_SIZE" (.int 1000000000000000000)) (c_in_range : NameC ci0 P w K mg base "in_range" 2 [] (posF 3 G_in_range)) (z_len : mg "len" = none) (z_isinstance : mg "isinstance" = none) (i_Policy : IsiC ci0 K mg 0 [0, 1, 2]) (z_all : mg "all" = none) (m_Policy_s1 : MakeC ci0 P w K mg base 0 3 [] (kwF 1 0 d_Policy_init_s1 G_Policy_init)) (f_Setting_size : FldAt ci0 K mg "size" 1 0) (f_Setting_policies : FldAt ci0 K mg "policies" 1 1) : BodyOk P w K mg base f "Setting.__init__" st_Setting_init N_Setting_init 4 b_Setting_init := by
  intro cdv A outer s H E hr
  have nd := sc_Setting_init.nd
  have tk : Takes (bodyCx P w K mg base N_Setting_init "Setting.__init__" st_Setting_init f cdv A outer s H E) (bodyW E) := takes_of rfl rfl rfl rfl
  have pp := passes_of (X := bodyCx P w K mg base N_Setting_init "Setting.__init__" st_Setting_init f cdv A outer s H E) rfl
  exact ⟨_, (ssj_cons (sj_if (tj_not (tj_tru (ej_fn c_in_range (hr.mono (by decide)) tk (caj_pos (aj_cons (ej_var 1) (aj_cons ej_int (aj_cons (ej_gl g_MOST_SIZE) aj_nil))))))) (ssj_one sj_bad) ssj_nil)
 (ssj_cons (sj_if (tj_w (twj_or (tj_cmp op_gt opj_gt (ej_callB call_len caj_len rfl z_len (by decide +kernel) (aj_cons (ej_var 2) aj_nil)) ej_int (nomark _)) (twj_or1 (tj_not (tj_tru (ej_callB (cr_all rfl) caj_all rfl z_all (by decide +kernel) (aj_cons (ejJ_lc rfl nd (ij_seq (ej_var 2)) (blkOk_by (own := [("policy", 4)]) (N := N_Setting_init) (sc := defScope st_Setting_init) (by decide +kernel)) rfl (by decide) (fun _ _ _ _ _ => (gj_name 4 nd)) (fun _ _ _ _ _ => tsj_nil) (fun _ _ _ _ _ => (ej_isiC 0 [0, 1, 2] z_isinstance (ej_var 4) i_Policy))) aj_nil))))))) (ssj_one sj_bad) ssj_nil)
 (ssj_cons (sj_set 3 nd (ej_lst (aj_star (ej_var 2) (aj_star (ej_var 2) (aj_cons (ej_make 0 m_Policy_s1 (hr.mono (by decide)) tk caj_nil) (aj_cons (ej_make 0 m_Policy_s1 (hr.mono (by decide)) tk caj_nil) aj_nil))))))
 (ssj_cons (sj_attr [(1, 0)] (ej_var 0) (ej_var 1) (tab1 f_Setting_size))
 (ssj_one (sj_attr [(1, 1)] (ej_var 0) (ej_tup (aj_cons (ej_ix (ej_var 3) ej_int) (aj_cons (ej_ix (ej_var 3) ej_int) aj_nil))) (tab1 f_Setting_policies)))))))⟩
abbrev st_l_setting : Stmt := topS 24
abbrev N_l_setting : List Str := ["_law_width", "_law_rules", "_law_made", "_law_lets", "_law_some", "_law_soon"]
theorem sc_l_setting : FnScope N_l_setting ["_law_width", "_law_rules"] (defScope st_l_setting) := ⟨rfl, rfl, rfl, by decide +kernel, rfl, by decide +kernel, by decide +kernel⟩
theorem ok_l_setting {f : Addr} (m_Policy_s2_every_quick : MakeC ci0 P w K mg base 0 3 ["every", "quick"] (kwF 2 2 d_Policy_init_s2_every_quick G_Policy_init)) (m_Setting_star : MakeC ci0 P w K mg base 1 5 [] (starF 2 G_Setting_init)) : BodyOk P w K mg base f "_law_setting" st_l_setting N_l_setting 6 b_l_setting := by
  intro cdv A outer s H E hr
  have nd := sc_l_setting.nd
  have tk : Takes (bodyCx P w K mg base N_l_setting "_law_setting" st_l_setting f cdv A outer s H E) (bodyW E) := takes_of rfl rfl rfl rfl
  have pp := passes_of (X := bodyCx P w K mg base N_l_setting "_law_setting" st_l_setting f cdv A outer s H E) rfl
  exact ⟨_, (ssj_cons (sjJ_setLc 2 rfl nd (ij_seq (ej_var 1)) (blkOk_by (own := [("_law_lets", 3), ("_law_some", 4), ("_law_soon", 5)]) (N := N_l_setting) (sc := defScope st_l_setting) (by decide +kernel)) rfl (by decide) (fun _ _ _ _ _ => (gj_tup rfl (gsj_cons (gj_name 3 nd) (gsj_cons (gj_name 4 nd) (gsj_cons (gj_name 5 nd) gsj_nil))))) (fun _ _ _ _ _ => tsj_nil) (fun _ _ _ _ _ => (ej_make 0 m_Policy_s2_every_quick (hr.mono (by decide)) takes0 (caj_kw (aj_cons (ej_var 3) aj_nil) (kwj_cons (ej_var 4) (kwj_cons (ej_var 5) kwj_nil))))))
 (ssj_one (sj_ret (ej_make 1 m_Setting_star (hr.mono (by decide)) tk (caj_pos (aj_cons (ej_var 0) (aj_cons (ej_ix (ej_var 2) ej_int) (aj_cons (ej_ix (ej_var 2) ej_int) aj_nil))))))))⟩
abbrev st_l_values : Stmt := topS 25
abbrev N_l_values : List Str := ["_law_bag_here", "_law_width", "_law_near"]
theorem sc_l_values : FnScope N_l_values ["_law_bag_here", "_law_width"] (defScope st_l_values) := ⟨rfl, rfl, rfl, by decide +kernel, rfl, by decide +kernel, by decide +kernel⟩
theorem ok_l_values {f : Addr} (c_l_take : NameC ci0 P w K mg base "_law_take" 1 [] (posF 2 G_l_take)) (z_min : mg "min" = none) (z_max : mg "max" = none) : BodyOk P w K mg base f "_law_values" st_l_values N_l_values 1 b_l_values := by
  intro cdv A outer s H E hr
  have nd := sc_l_values.nd
  have tk : Takes (bodyCx P w K mg base N_l_values "_law_values" st_l_values f cdv A outer s H E) (bodyW E) := takes_of rfl rfl rfl rfl
  have pp := passes_of (X := bodyCx P w K mg base N_l_values "_law_values" st_l_values f cdv A outer s H E) rfl
  exact ⟨_, (ssj_cons (sj_set 2 nd (ej_bin op_sub opj_sub (ej_bin opr_add opj_add (ej_bin opr_mul opj_mul (ej_var 1) (ej_fn c_l_take (hr.mono (by decide)) tk (caj_pos (aj_cons (ej_var 0) (aj_cons (ej_bin opr_add opj_add ej_int (ej_bin op_fdivW opj_fdiv (ej_bin op_pow opj_pow ej_int ej_int) (ej_var 1))) aj_nil))))) (ej_fn c_l_take (hr.mono (by decide)) tk (caj_pos (aj_cons (ej_var 0) (aj_cons ej_int aj_nil))))) ej_int))
 (ssj_one (sj_ret (ej_ix (ej_lst (aj_cons (ej_bin opr_add opj_add ej_int (ej_fn c_l_take (hr.mono (by decide)) tk (caj_pos (aj_cons (ej_var 0) (aj_cons (ej_bin op_pow opj_pow ej_int ej_int) aj_nil))))) (aj_cons (ej_callB (call_max2 rfl) caj_max rfl z_max (by decide +kernel) (aj_cons ej_int (aj_cons (ej_callB (call_min2 rfl) caj_min rfl z_min (by decide +kernel) (aj_cons (ej_var 2) (aj_cons (ej_bin op_pow opj_pow ej_int ej_int) aj_nil))) aj_nil))) (aj_cons (ej_bin opr_add opj_add ej_int (ej_fn c_l_take (hr.mono (by decide)) tk (caj_pos (aj_cons (ej_var 0) (aj_cons (ej_callB (call_min2 rfl) caj_min rfl z_min (by decide +kernel) (aj_cons (ej_var 1) (aj_cons (ej_bin op_pow opj_pow ej_int ej_int) aj_nil))) aj_nil))))) aj_nil)))) (ej_fn c_l_take (hr.mono (by decide)) tk (caj_pos (aj_cons (ej_var 0) (aj_cons ej_int aj_nil))))))))⟩
abbrev st_TurnState_init : Stmt := inClass (topS 2) 0
abbrev N_TurnState_init : List Str := ["self", "rest", "kept", "blocked", "stuck", "pending", "quick"]
theorem sc_TurnState_init : FnScope N_TurnState_init ["self", "rest", "kept", "blocked", "stuck", "pending", "quick"] (defScope st_TurnState_init) := ⟨rfl, rfl, rfl, by decide +kernel, rfl, by decide +kernel, by decide +kernel⟩
theorem ok_TurnState_init {f : Addr} (f_TurnState_rest : FldAt ci0 K mg "rest" 2 0) (f_TurnState_kept : FldAt ci0 K mg "kept" 2 1) (f_TurnState_blocked : FldAt ci0 K mg "blocked" 2 2) (f_TurnState_stuck : FldAt ci0 K mg "stuck" 2 3) (f_TurnState_pending : FldAt ci0 K mg "pending" 2 4) (f_Policy_quick : FldAt ci0 K mg "quick" 0 2) (f_TurnState_quick : FldAt ci0 K mg "quick" 2 5) : BodyOk P w K mg base f "TurnState.__init__" st_TurnState_init N_TurnState_init 0 b_TurnState_init := by
  intro cdv A outer s H E hr
  have nd := sc_TurnState_init.nd
  have tk : Takes (bodyCx P w K mg base N_TurnState_init "TurnState.__init__" st_TurnState_init f cdv A outer s H E) (bodyW E) := takes_of rfl rfl rfl rfl
  have pp := passes_of (X := bodyCx P w K mg base N_TurnState_init "TurnState.__init__" st_TurnState_init f cdv A outer s H E) rfl
  exact ⟨_, (ssj_cons (sj_attr [(2, 0)] (ej_var 0) (ej_var 1) (tab1 f_TurnState_rest))
 (ssj_cons (sj_attr [(2, 1)] (ej_var 0) (ej_var 2) (tab1 f_TurnState_kept))
 (ssj_cons (sj_attr [(2, 2)] (ej_var 0) (ej_var 3) (tab1 f_TurnState_blocked))
 (ssj_cons (sj_attr [(2, 3)] (ej_var 0) (ej_var 4) (tab1 f_TurnState_stuck))
 (ssj_cons (sj_attr [(2, 4)] (ej_var 0) (ej_var 5) (tab1 f_TurnState_pending))
 (ssj_one (sj_attr [(0, 2), (2, 5)] (ej_var 0) (ej_var 6) (tab2 f_Policy_quick f_TurnState_quick))))))))⟩
abbrev st_TurnState_as_tuple : Stmt := inClass (topS 2) 1
abbrev N_TurnState_as_tuple : List Str := ["self"]
theorem sc_TurnState_as_tuple : FnScope N_TurnState_as_tuple ["self"] (defScope st_TurnState_as_tuple) := ⟨rfl, rfl, rfl, by decide +kernel, rfl, by decide +kernel, by decide +kernel⟩
theorem ok_TurnState_as_tuple {f : Addr} (f_Policy_quick : FldAt ci0 K mg "quick" 0 2) (f_TurnState_quick : FldAt ci0 K mg "quick" 2 5) (f_TurnState_pending : FldAt ci0 K mg "pending" 2 4) (f_TurnState_stuck : FldAt ci0 K mg "stuck" 2 3) (f_TurnState_blocked : FldAt ci0 K mg "blocked" 2 2) (f_TurnState_kept : FldAt ci0 K mg "kept" 2 1) (f_TurnState_rest : FldAt ci0 K mg "rest" 2 0) : BodyOk P w K mg base f "TurnState.as_tuple" st_TurnState_as_tuple N_TurnState_as_tuple 0 b_TurnState_as_tuple := by
  intro cdv A outer s H E hr
  have nd := sc_TurnState_as_tuple.nd
  have tk : Takes (bodyCx P w K mg base N_TurnState_as_tuple "TurnState.as_tuple" st_TurnState_as_tuple f cdv A outer s H E) (bodyW E) := takes_of rfl rfl rfl rfl
  have pp := passes_of (X := bodyCx P w K mg base N_TurnState_as_tuple "TurnState.as_tuple" st_TurnState_as_tuple f cdv A outer s H E) rfl
  exact ⟨_, (ssj_one (sj_ret (ej_tup (aj_cons (ej_attr [(2, 0)] (ej_var 0) (tab1 f_TurnState_rest)) (aj_cons (ej_attr [(2, 1)] (ej_var 0) (tab1 f_TurnState_kept)) (aj_cons (ej_attr [(2, 2)] (ej_var 0) (tab1 f_TurnState_blocked)) (aj_cons (ej_attr [(2, 3)] (ej_var 0) (tab1 f_TurnState_stuck)) (aj_cons (ej_attr [(2, 4)] (ej_var 0) (tab1 f_TurnState_pending)) (aj_cons (ej_attr [(0, 2), (2, 5)] (ej_var 0) (tab2 f_Policy_quick f_TurnState_quick)) aj_nil)))))))))⟩
abbrev st_rules_of : Stmt := topS 3
abbrev N_rules_of : List Str := ["setting", "speaker"]
theorem sc_rules_of : FnScope N_rules_of ["setting", "speaker"] (defScope st_rules_of) := ⟨rfl, rfl, rfl, by decide +kernel, rfl, by decide +kernel, by decide +kernel⟩
theorem ok_rules_of {f : Addr} (f_Setting_policies : FldAt ci0 K mg "policies" 1 1) (f_Policy_every : FldAt ci0 K mg "every" 0 1) (f_Policy_hold : FldAt ci0 K mg "hold" 0 0) (f_Setting_size : FldAt ci0 K mg "size" 1 0) : BodyOk P w K mg base f "rules_of" st_rules_of N_rules_of 0 b_rules_of := by
  intro cdv A outer s H E hr
  have nd := sc_rules_of.nd
  have tk : Takes (bodyCx P w K mg base N_rules_of "rules_of" st_rules_of f cdv A outer s H E) (bodyW E) := takes_of rfl rfl rfl rfl
  have pp := passes_of (X := bodyCx P w K mg base N_rules_of "rules_of" st_rules_of f cdv A outer s H E) rfl
  exact ⟨_, (ssj_one (sj_ret (ej_tup (aj_cons (ej_attr [(1, 0)] (ej_var 0) (tab1 f_Setting_size)) (aj_cons (ej_attr [(0, 0)] (ej_ix (ej_attr [(1, 1)] (ej_var 0) (tab1 f_Setting_policies)) (ej_var 1)) (tab1 f_Policy_hold)) (aj_cons (ej_attr [(0, 1)] (ej_ix (ej_attr [(1, 1)] (ej_var 0) (tab1 f_Setting_policies)) (ej_bin op_sub opj_sub ej_int (ej_var 1))) (tab1 f_Policy_every)) aj_nil))))))⟩
abbrev st_with_full : Stmt := topS 4
abbrev N_with_full : List Str := ["rules", "parts", "many", "size", "hold", "every", "rest", "kept", "blocked", "stuck", "pending", "quick", "soon", "late", "told"]
theorem sc_with_full : FnScope N_with_full ["rules", "parts", "many"] (defScope st_with_full) := ⟨rfl, rfl, rfl, by decide +kernel, rfl, by decide +kernel, by decide +kernel⟩
theorem ok_with_full {f : Addr} (z_min : mg "min" = none) : BodyOk P w K mg base f "with_full" st_with_full N_with_full 0 b_with_full := by
  intro cdv A outer s H E hr
  have nd := sc_with_full.nd
  have tk : Takes (bodyCx P w K mg base N_with_full "with_full" st_with_full f cdv A outer s H E) (bodyW E) := takes_of rfl rfl rfl rfl
  have pp := passes_of (X := bodyCx P w K mg base N_with_full "with_full" st_with_full f cdv A outer s H E) rfl
  exact ⟨_, (ssj_cons (sj_asg (ej_var 0) (gj_tup rfl (gsj_cons (gj_name 3 nd) (gsj_cons (gj_name 4 nd) (gsj_cons (gj_name 5 nd) gsj_nil)))))
 (ssj_cons (sj_asg (ej_var 1) (gj_tup rfl (gsj_cons (gj_name 6 nd) (gsj_cons (gj_name 7 nd) (gsj_cons (gj_name 8 nd) (gsj_cons (gj_name 9 nd) (gsj_cons (gj_name 10 nd) (gsj_cons (gj_name 11 nd) gsj_nil))))))))
 (ssj_cons (sj_if (tj_cmp (op_eqD hr.units) opj_eq (ej_var 2) ej_int (nomark _)) (ssj_one (sj_ret (ej_tup (aj_cons (ej_var 1) (aj_cons ej_int aj_nil))))) ssj_nil)
 (ssj_cons (sj_set 12 nd (ej_callB (call_min2 rfl) caj_min rfl z_min (by decide +kernel) (aj_cons (ej_var 11) (aj_cons (ej_var 2) aj_nil))))
 (ssj_cons (sj_set 13 nd (ej_bin op_sub opj_sub (ej_var 2) (ej_var 12)))
 (ssj_cons (sj_set 10 nd (ej_if (tj_cmp op_gt opj_gt (ej_var 12) ej_int (nomark _)) ej_int (ej_var 10)))
 (ssj_cons (sj_set 14 nd (ej_var 12))
 (ssj_cons (sj_if (tj_cmp op_gt opj_gt (ej_var 5) ej_int (nomark _)) (ssj_cons (sj_aug 14 nd ip_add (ej_bin op_fdivW opj_fdiv (ej_bin opr_add opj_add (ej_var 10) (ej_var 13)) (ej_var 5)))
 (ssj_one (sj_set 10 nd (ej_bin op_mod opj_mod (ej_bin opr_add opj_add (ej_var 10) (ej_var 13)) (ej_var 5))))) ssj_nil)
 (ssj_cons (sj_if (tj_cmp (op_eqD hr.units) opj_eq (ej_var 4) (ej_str) (nomark _)) (ssj_cons (sj_set 8 nd ej_bl)
 (ssj_one (sj_set 9 nd (ej_and (ej_cmp op_gt opj_gt (ej_var 13) ej_int (nomark _)) (ej_one (ej_or (ej_cmp (op_eqD hr.units) opj_eq (ej_var 5) ej_int (nomark _)) (ej_one (ej_cmp op_gt opj_gt (ej_var 10) ej_int (nomark _))))))))) ssj_nil)
 (ssj_cons (sj_if (tj_cmp (op_eqD hr.units) opj_eq (ej_var 4) (ej_str) (nomark _)) (ssj_one (sj_set 9 nd (ej_and (ej_var 9) (ej_one (ej_cmp (op_eqD hr.units) opj_eq (ej_var 14) ej_int (nomark _)))))) ssj_nil)
 (ssj_one (sj_ret (ej_tup (aj_cons (ej_tup (aj_cons (ej_var 6) (aj_cons (ej_var 7) (aj_cons (ej_var 8) (aj_cons (ej_var 9) (aj_cons (ej_var 10) (aj_cons (ej_bin op_sub opj_sub (ej_var 11) (ej_var 12)) aj_nil))))))) (aj_cons (ej_var 14) aj_nil)))))))))))))))⟩
abbrev st_with_partial : Stmt := topS 5
abbrev N_with_partial : List Str := ["rules", "parts", "blocked"]
theorem sc_with_partial : FnScope N_with_partial ["rules", "parts"] (defScope st_with_partial) := ⟨rfl, rfl, rfl, by decide +kernel, rfl, by decide +kernel, by decide +kernel⟩
theorem ok_with_partial {f : Addr}  : BodyOk P w K mg base f "with_partial" st_with_partial N_with_partial 0 b_with_partial := by
  intro cdv A outer s H E hr
  have nd := sc_with_partial.nd
  have tk : Takes (bodyCx P w K mg base N_with_partial "with_partial" st_with_partial f cdv A outer s H E) (bodyW E) := takes_of rfl rfl rfl rfl
  have pp := passes_of (X := bodyCx P w K mg base N_with_partial "with_partial" st_with_partial f cdv A outer s H E) rfl
  exact ⟨_, (ssj_cons (sj_set 2 nd (ej_cmp (op_neD hr.units) opj_ne (ej_ix (ej_var 0) ej_int) (ej_str) (nomark _)))
 (ssj_cons (sj_if (tj_cmp op_gt opj_gt (ej_ix (ej_var 1) ej_int) ej_int (nomark _)) (ssj_one (sj_ret (ej_tup (aj_cons (ej_tup (aj_cons ej_int (aj_cons ej_bl (aj_cons (ej_var 2) (aj_cons ej_bl (aj_cons ej_int (aj_cons (ej_bin op_sub opj_sub (ej_ix (ej_var 1) ej_int) ej_int) aj_nil))))))) (aj_cons ej_int aj_nil))))) ssj_nil)
 (ssj_one (sj_ret (ej_tup (aj_cons (ej_tup (aj_cons ej_int (aj_cons ej_bl (aj_cons (ej_var 2) (aj_cons (ej_var 2) (aj_cons (ej_ix (ej_var 1) ej_int) (aj_cons ej_int aj_nil))))))) (aj_cons ej_int aj_nil)))))))⟩
abbrev st_after_write : Stmt := topS 6
abbrev N_after_write : List Str := ["rules", "parts", "length", "mode", "many", "rest", "told", "more"]
theorem sc_after_write : FnScope N_after_write ["rules", "parts", "length", "mode"] (defScope st_after_write) := ⟨rfl, rfl, rfl, by decide +kernel, rfl, by decide +kernel, by decide +kernel⟩
theorem ok_after_write {f : Addr} (z_divmod : mg "divmod" = none) (c_with_full : NameC ci0 P w K mg base "with_full" 1 [] (posF 3 G_with_full)) (c_with_partial : NameC ci0 P w K mg base "with_partial" 1 [] (posF 2 G_with_partial)) : BodyOk P w K mg base f "after_write" st_after_write N_after_write 1 b_after_write := by
  intro cdv A outer s H E hr
  have nd := sc_after_write.nd
  have tk : Takes (bodyCx P w K mg base N_after_write "after_write" st_after_write f cdv A outer s H E) (bodyW E) := takes_of rfl rfl rfl rfl
  have pp := passes_of (X := bodyCx P w K mg base N_after_write "after_write" st_after_write f cdv A outer s H E) rfl
  exact ⟨_, (ssj_cons (sj_asg (ej_callB call_divmodW caj_divmod rfl z_divmod (by decide +kernel) (aj_cons (ej_bin opr_add opj_add (ej_ix (ej_var 1) ej_int) (ej_var 2)) (aj_cons (ej_ix (ej_var 0) ej_int) aj_nil))) (gj_tup rfl (gsj_cons (gj_name 4 nd) (gsj_cons (gj_name 5 nd) gsj_nil))))
 (ssj_cons (sj_asg (ej_fn c_with_full (hr.mono (by decide)) tk (caj_pos (aj_cons (ej_var 0) (aj_cons (ej_bin opr_add opj_add (ej_tup (aj_cons (ej_var 5) (aj_cons ej_bl aj_nil))) (ej_sl (ej_var 1) (oj_some ej_int) oj_no)) (aj_cons (ej_var 4) aj_nil))))) (gj_tup rfl (gsj_cons (gj_name 1 nd) (gsj_cons (gj_name 6 nd) gsj_nil))))
 (ssj_cons (sj_if (tj_w (twj_and (tj_cmp op_gt opj_gt (ej_var 5) ej_int (nomark _)) (twj_and1 (tj_cmp (op_eqD hr.units) opj_eq (ej_var 3) (ej_str) (nomark _))))) (ssj_one (sj_ret (ej_tup (aj_cons (ej_bin opr_add opj_add (ej_tup (aj_cons (ej_var 5) (aj_cons ej_bl aj_nil))) (ej_sl (ej_var 1) (oj_some ej_int) oj_no)) (aj_cons (ej_var 4) (aj_cons (ej_var 6) aj_nil)))))) ssj_nil)
 (ssj_cons (sj_if (tj_w (twj_and (tj_cmp op_gt opj_gt (ej_var 5) ej_int (nomark _)) (twj_and1 (tj_w (twj_or (tj_cmp (op_eqD hr.units) opj_eq (ej_var 3) (ej_str) (nomark _)) (twj_or1 (tj_not (tj_tru (ej_ix (ej_var 1) ej_int))))))))) (ssj_cons (sj_asg (ej_fn c_with_partial (hr.mono (by decide)) tk (caj_pos (aj_cons (ej_var 0) (aj_cons (ej_var 1) aj_nil)))) (gj_tup rfl (gsj_cons (gj_name 1 nd) (gsj_cons (gj_name 7 nd) gsj_nil))))
 (ssj_one (sj_ret (ej_tup (aj_cons (ej_var 1) (aj_cons (ej_bin opr_add opj_add (ej_var 4) ej_int) (aj_cons (ej_bin opr_add opj_add (ej_var 6) (ej_var 7)) aj_nil))))))) ssj_nil)
 (ssj_one (sj_ret (ej_tup (aj_cons (ej_var 1) (aj_cons (ej_var 4) (aj_cons (ej_var 6) aj_nil))))))))))⟩
abbrev st_written : Stmt := topS 8
abbrev N_written : List Str := ["setting", "speaker", "state", "length", "mode", "parts"]
theorem sc_written : FnScope N_written ["setting", "speaker", "state", "length", "mode"] (defScope st_written) := ⟨rfl, rfl, rfl, by decide +kernel, rfl, by decide +kernel, by decide +kernel⟩
theorem ok_written {f : Addr} (x_TurnState_as_tuple : MethC ci0 P w K mg base 2 "as_tuple" 1 [] (posF 1 G_TurnState_as_tuple)) (c_rules_of : NameC ci0 P w K mg base "rules_of" 1 [] (posF 2 G_rules_of)) (c_after_write : NameC ci0 P w K mg base "after_write" 2 [] (posF 4 G_after_write)) (m_TurnState_s7 : MakeC ci0 P w K mg base 2 1 [] (kwF 7 0 d_TurnState_init_s7 G_TurnState_init)) : BodyOk P w K mg base f "written" st_written N_written 2 b_written := by
  intro cdv A outer s H E hr
  have nd := sc_written.nd
  have tk : Takes (bodyCx P w K mg base N_written "written" st_written f cdv A outer s H E) (bodyW E) := takes_of rfl rfl rfl rfl
  have pp := passes_of (X := bodyCx P w K mg base N_written "written" st_written f cdv A outer s H E) rfl
  exact ⟨_, (ssj_cons (sj_set 5 nd (ej_ix (ej_fn c_after_write (hr.mono (by decide)) tk (caj_pos (aj_cons (ej_fn c_rules_of (hr.mono (by decide)) tk (caj_pos (aj_cons (ej_var 0) (aj_cons (ej_var 1) aj_nil)))) (aj_cons (ej_meth 2 (ej_var 2) x_TurnState_as_tuple (hr.mono (by decide)) tk caj_nil) (aj_cons (ej_var 3) (aj_cons (ej_var 4) aj_nil)))))) ej_int))
 (ssj_one (sj_ret (ej_make 2 m_TurnState_s7 (hr.mono (by decide)) tk (caj_star (ej_var 5))))))⟩
abbrev st_l_tell : Stmt := topS 28
abbrev N_l_tell : List Str := ["_law_state"]
theorem sc_l_tell : FnScope N_l_tell ["_law_state"] (defScope st_l_tell) := ⟨rfl, rfl, rfl, by decide +kernel, rfl, by decide +kernel, by decide +kernel⟩
theorem ok_l_tell {f : Addr} (f_Policy_quick : FldAt ci0 K mg "quick" 0 2) (f_TurnState_quick : FldAt ci0 K mg "quick" 2 5) (f_TurnState_pending : FldAt ci0 K mg "pending" 2 4) (f_TurnState_stuck : FldAt ci0 K mg "stuck" 2 3) (f_TurnState_blocked : FldAt ci0 K mg "blocked" 2 2) (f_TurnState_kept : FldAt ci0 K mg "kept" 2 1) (f_TurnState_rest : FldAt ci0 K mg "rest" 2 0) : BodyOk P w K mg base f "_law_tell" st_l_tell N_l_tell 0 b_l_tell := by
  intro cdv A outer s H E hr
  have nd := sc_l_tell.nd
  have tk : Takes (bodyCx P w K mg base N_l_tell "_law_tell" st_l_tell f cdv A outer s H E) (bodyW E) := takes_of rfl rfl rfl rfl
  have pp := passes_of (X := bodyCx P w K mg base N_l_tell "_law_tell" st_l_tell f cdv A outer s H E) rfl
  exact ⟨_, (ssj_one (sj_ret (ej_lst (aj_cons (ej_attr [(2, 0)] (ej_var 0) (tab1 f_TurnState_rest)) (aj_cons (ej_attr [(2, 1)] (ej_var 0) (tab1 f_TurnState_kept)) (aj_cons (ej_attr [(2, 2)] (ej_var 0) (tab1 f_TurnState_blocked)) (aj_cons (ej_attr [(2, 3)] (ej_var 0) (tab1 f_TurnState_stuck)) (aj_cons (ej_attr [(2, 4)] (ej_var 0) (tab1 f_TurnState_pending)) (aj_cons (ej_attr [(0, 2), (2, 5)] (ej_var 0) (tab2 f_Policy_quick f_TurnState_quick)) aj_nil)))))))))⟩
abbrev st_l_sent : Stmt := topS 26
abbrev N_l_sent : List Str := ["_law_fulls", "_law_soon", "_law_behind", "_law_some", "_law_early", "_law_late", "_law_pending", "_law_done"]
theorem sc_l_sent : FnScope N_l_sent ["_law_fulls", "_law_soon", "_law_behind", "_law_some"] (defScope st_l_sent) := ⟨rfl, rfl, rfl, by decide +kernel, rfl, by decide +kernel, by decide +kernel⟩
theorem ok_l_sent {f : Addr} (z_min : mg "min" = none) (z_int : mg "int" = none) (z_max : mg "max" = none) : BodyOk P w K mg base f "_law_sent" st_l_sent N_l_sent 0 b_l_sent := by
  intro cdv A outer s H E hr
  have nd := sc_l_sent.nd
  have tk : Takes (bodyCx P w K mg base N_l_sent "_law_sent" st_l_sent f cdv A outer s H E) (bodyW E) := takes_of rfl rfl rfl rfl
  have pp := passes_of (X := bodyCx P w K mg base N_l_sent "_law_sent" st_l_sent f cdv A outer s H E) rfl
  exact ⟨_, (ssj_cons (sj_set 4 nd (ej_callB (call_min2 rfl) caj_min rfl z_min (by decide +kernel) (aj_cons (ej_var 1) (aj_cons (ej_var 0) aj_nil))))
 (ssj_cons (sj_set 5 nd (ej_bin op_sub opj_sub (ej_var 0) (ej_var 4)))
 (ssj_cons (sj_set 6 nd (ej_bin opr_add opj_add (ej_bin opr_mul opj_mul (ej_var 2) (ej_callTy call_int1 caj_int rfl z_int (by decide +kernel) (aj_cons (ej_cmp (op_eqD hr.units) opj_eq (ej_var 4) ej_int (nomark _)) aj_nil))) (ej_var 5)))
 (ssj_cons (sj_set 7 nd (ej_or (ej_cmp (op_eqD hr.units) opj_eq (ej_var 5) ej_int (nomark _)) (ej_one (ej_and (ej_cmp op_gt opj_gt (ej_var 3) ej_int (nomark _)) (ej_one (ej_cmp (op_eqD hr.units) opj_eq (ej_bin op_mod opj_mod (ej_callTy call_int1 caj_int rfl z_int (by decide +kernel) (aj_cons (ej_var 6) aj_nil)) (ej_callB (call_max2 rfl) caj_max rfl z_max (by decide +kernel) (aj_cons ej_int (aj_cons (ej_var 3) aj_nil)))) ej_int (nomark _)))))))
 (ssj_one (sj_ret (ej_tup (aj_cons (ej_bin op_sub opj_sub (ej_var 1) (ej_var 4)) (aj_cons (ej_bin opr_mul opj_mul (ej_bin op_mod opj_mod (ej_callTy call_int1 caj_int rfl z_int (by decide +kernel) (aj_cons (ej_var 6) aj_nil)) (ej_callB (call_max2 rfl) caj_max rfl z_max (by decide +kernel) (aj_cons ej_int (aj_cons (ej_var 3) aj_nil)))) (ej_callTy call_int1 caj_int rfl z_int (by decide +kernel) (aj_cons (ej_cmp op_gt opj_gt (ej_var 3) ej_int (nomark _)) aj_nil))) (aj_cons (ej_var 7) aj_nil))))))))))⟩
abbrev st_l_first_due : Stmt := topS 27
abbrev N_l_first_due : List Str := ["_law_width", "_law_mine", "_law_other", "_law_length", "_law_fulls", "_law_rest", "_law_soon", "_law_pending", "_law_done", "_law_blocked", "_law_stuck"]
theorem sc_l_first_due : FnScope N_l_first_due ["_law_width", "_law_mine", "_law_other", "_law_length"] (defScope st_l_first_due) := ⟨rfl, rfl, rfl, by decide +kernel, rfl, by decide +kernel, by decide +kernel⟩
theorem ok_l_first_due {f : Addr} (z_int : mg "int" = none) (c_l_sent : NameC ci0 P w K mg base "_law_sent" 1 [] (posF 4 G_l_sent)) : BodyOk P w K mg base f "_law_first_due" st_l_first_due N_l_first_due 1 b_l_first_due := by
  intro cdv A outer s H E hr
  have nd := sc_l_first_due.nd
  have tk : Takes (bodyCx P w K mg base N_l_first_due "_law_first_due" st_l_first_due f cdv A outer s H E) (bodyW E) := takes_of rfl rfl rfl rfl
  have pp := passes_of (X := bodyCx P w K mg base N_l_first_due "_law_first_due" st_l_first_due f cdv A outer s H E) rfl
  exact ⟨_, (ssj_cons (sj_par (i := 4) (j := 5) rfl nd (aj_cons (ej_bin op_fdivW opj_fdiv (ej_var 3) (ej_var 0)) (aj_cons (ej_bin op_mod opj_mod (ej_callTy call_int1 caj_int rfl z_int (by decide +kernel) (aj_cons (ej_var 3) aj_nil)) (ej_var 0)) aj_nil)))
 (ssj_cons (sj_asg (ej_fn c_l_sent (hr.mono (by decide)) tk (caj_pos (aj_cons (ej_var 4) (aj_cons (ej_ix (ej_var 2) ej_int) (aj_cons ej_int (aj_cons (ej_ix (ej_var 2) ej_int) aj_nil)))))) (gj_tup rfl (gsj_cons (gj_name 6 nd) (gsj_cons (gj_name 7 nd) (gsj_cons (gj_name 8 nd) gsj_nil)))))
 (ssj_cons (sj_set 9 nd (ej_and (ej_cmp op_gt opj_gt (ej_var 4) ej_int (nomark _)) (ej_one (ej_cmp (op_eqD hr.units) opj_eq (ej_var 1) (ej_str) (nomark _)))))
 (ssj_cons (sj_set 10 nd (ej_and (ej_var 9) (ej_one (ej_not (ej_var 8)))))
 (ssj_cons (sj_if (tj_w (twj_and (tj_cmp op_gt opj_gt (ej_var 5) ej_int (nomark _)) (twj_and1 (tj_not (tj_tru (ej_var 9)))))) (ssj_cons (sj_if (tj_cmp op_gt opj_gt (ej_var 6) ej_int (nomark _)) (ssj_one (sj_ret (ej_lst (aj_cons ej_int (aj_cons ej_bl (aj_cons (ej_cmp (op_neD hr.units) opj_ne (ej_var 1) (ej_str) (nomark _)) (aj_cons ej_bl (aj_cons ej_int (aj_cons (ej_bin op_sub opj_sub (ej_var 6) ej_int) aj_nil))))))))) ssj_nil)
 (ssj_one (sj_ret (ej_lst (aj_cons ej_int (aj_cons ej_bl (aj_cons (ej_cmp (op_neD hr.units) opj_ne (ej_var 1) (ej_str) (nomark _)) (aj_cons (ej_cmp (op_neD hr.units) opj_ne (ej_var 1) (ej_str) (nomark _)) (aj_cons (ej_var 7) (aj_cons ej_int aj_nil)))))))))) ssj_nil)
 (ssj_one (sj_ret (ej_lst (aj_cons (ej_var 5) (aj_cons ej_bl (aj_cons (ej_var 9) (aj_cons (ej_var 10) (aj_cons (ej_var 7) (aj_cons (ej_var 6) aj_nil))))))))))))))⟩
abbrev st_l_second_due : Stmt := topS 29
abbrev N_l_second_due : List Str := ["_law_width", "_law_other", "_law_state", "_law_length", "_law_total", "_law_soon", "_law_pending", "_law_done"]
theorem sc_l_second_due : FnScope N_l_second_due ["_law_width", "_law_other", "_law_state", "_law_length"] (defScope st_l_second_due) := ⟨rfl, rfl, rfl, by decide +kernel, rfl, by decide +kernel, by decide +kernel⟩
theorem ok_l_second_due {f : Addr} (f_TurnState_rest : FldAt ci0 K mg "rest" 2 0) (f_TurnState_pending : FldAt ci0 K mg "pending" 2 4) (f_Policy_quick : FldAt ci0 K mg "quick" 0 2) (f_TurnState_quick : FldAt ci0 K mg "quick" 2 5) (c_l_sent : NameC ci0 P w K mg base "_law_sent" 1 [] (posF 4 G_l_sent)) (z_int : mg "int" = none) : BodyOk P w K mg base f "_law_second_due" st_l_second_due N_l_second_due 1 b_l_second_due := by
  intro cdv A outer s H E hr
  have nd := sc_l_second_due.nd
  have tk : Takes (bodyCx P w K mg base N_l_second_due "_law_second_due" st_l_second_due f cdv A outer s H E) (bodyW E) := takes_of rfl rfl rfl rfl
  have pp := passes_of (X := bodyCx P w K mg base N_l_second_due "_law_second_due" st_l_second_due f cdv A outer s H E) rfl
  exact ⟨_, (ssj_cons (sj_set 4 nd (ej_bin opr_add opj_add (ej_attr [(2, 0)] (ej_var 2) (tab1 f_TurnState_rest)) (ej_var 3)))
 (ssj_cons (sj_asg (ej_fn c_l_sent (hr.mono (by decide)) tk (caj_pos (aj_cons (ej_bin op_fdivW opj_fdiv (ej_var 4) (ej_var 0)) (aj_cons (ej_attr [(0, 2), (2, 5)] (ej_var 2) (tab2 f_Policy_quick f_TurnState_quick)) (aj_cons (ej_attr [(2, 4)] (ej_var 2) (tab1 f_TurnState_pending)) (aj_cons (ej_ix (ej_var 1) ej_int) aj_nil)))))) (gj_tup rfl (gsj_cons (gj_name 5 nd) (gsj_cons (gj_name 6 nd) (gsj_cons (gj_name 7 nd) gsj_nil)))))
 (ssj_one (sj_ret (ej_lst (aj_cons (ej_bin op_mod opj_mod (ej_callTy call_int1 caj_int rfl z_int (by decide +kernel) (aj_cons (ej_var 4) aj_nil)) (ej_var 0)) (aj_cons ej_bl (aj_cons ej_bl (aj_cons (ej_not (ej_var 7)) (aj_cons (ej_var 6) (aj_cons (ej_var 5) aj_nil)))))))))))⟩
abbrev st_after_clearing : Stmt := topS 7
abbrev N_after_clearing : List Str := ["rules", "parts", "told"]
theorem sc_after_clearing : FnScope N_after_clearing ["rules", "parts"] (defScope st_after_clearing) := ⟨rfl, rfl, rfl, by decide +kernel, rfl, by decide +kernel, by decide +kernel⟩
theorem ok_after_clearing {f : Addr} (c_with_partial : NameC ci0 P w K mg base "with_partial" 1 [] (posF 2 G_with_partial)) : BodyOk P w K mg base f "after_clearing" st_after_clearing N_after_clearing 1 b_after_clearing := by
  intro cdv A outer s H E hr
  have nd := sc_after_clearing.nd
  have tk : Takes (bodyCx P w K mg base N_after_clearing "after_clearing" st_after_clearing f cdv A outer s H E) (bodyW E) := takes_of rfl rfl rfl rfl
  have pp := passes_of (X := bodyCx P w K mg base N_after_clearing "after_clearing" st_after_clearing f cdv A outer s H E) rfl
  exact ⟨_, (ssj_cons (sj_if (tj_w (twj_or (tj_not (tj_tru (ej_ix (ej_var 1) ej_int))) (twj_or1 (tj_tru (ej_ix (ej_var 1) ej_int))))) (ssj_one (sj_ret (ej_tup (aj_cons (ej_var 1) (aj_cons ej_int (aj_cons ej_int aj_nil)))))) ssj_nil)
 (ssj_cons (sj_set 1 nd (ej_bin opr_add opj_add (ej_bin opr_add opj_add (ej_sl (ej_var 1) oj_no (oj_some ej_int)) (ej_tup (aj_cons ej_bl (aj_cons ej_bl aj_nil)))) (ej_sl (ej_var 1) (oj_some ej_int) oj_no)))
 (ssj_cons (sj_if (tj_w (twj_or (tj_cmp (op_eqD hr.units) opj_eq (ej_ix (ej_var 1) ej_int) ej_int (nomark _)) (twj_or1 (tj_tru (ej_ix (ej_var 1) ej_int))))) (ssj_one (sj_ret (ej_tup (aj_cons (ej_var 1) (aj_cons ej_int (aj_cons ej_int aj_nil)))))) ssj_nil)
 (ssj_cons (sj_asg (ej_fn c_with_partial (hr.mono (by decide)) tk (caj_pos (aj_cons (ej_var 0) (aj_cons (ej_var 1) aj_nil)))) (gj_tup rfl (gsj_cons (gj_name 1 nd) (gsj_cons (gj_name 2 nd) gsj_nil))))
 (ssj_one (sj_ret (ej_tup (aj_cons (ej_var 1) (aj_cons ej_int (aj_cons (ej_var 2) aj_nil))))))))))⟩
abbrev st_cleared : Stmt := topS 9
abbrev N_cleared : List Str := ["setting", "speaker", "state", "parts"]
theorem sc_cleared : FnScope N_cleared ["setting", "speaker", "state"] (defScope st_cleared) := ⟨rfl, rfl, rfl, by decide +kernel, rfl, by decide +kernel, by decide +kernel⟩
theorem ok_cleared {f : Addr} (x_TurnState_as_tuple : MethC ci0 P w K mg base 2 "as_tuple" 1 [] (posF 1 G_TurnState_as_tuple)) (c_rules_of : NameC ci0 P w K mg base "rules_of" 1 [] (posF 2 G_rules_of)) (c_after_clearing : NameC ci0 P w K mg base "after_clearing" 2 [] (posF 2 G_after_clearing)) (m_TurnState_s7 : MakeC ci0 P w K mg base 2 1 [] (kwF 7 0 d_TurnState_init_s7 G_TurnState_init)) : BodyOk P w K mg base f "cleared" st_cleared N_cleared 2 b_cleared := by
  intro cdv A outer s H E hr
  have nd := sc_cleared.nd
  have tk : Takes (bodyCx P w K mg base N_cleared "cleared" st_cleared f cdv A outer s H E) (bodyW E) := takes_of rfl rfl rfl rfl
  have pp := passes_of (X := bodyCx P w K mg base N_cleared "cleared" st_cleared f cdv A outer s H E) rfl
  exact ⟨_, (ssj_cons (sj_set 3 nd (ej_ix (ej_fn c_after_clearing (hr.mono (by decide)) tk (caj_pos (aj_cons (ej_fn c_rules_of (hr.mono (by decide)) tk (caj_pos (aj_cons (ej_var 0) (aj_cons (ej_var 1) aj_nil)))) (aj_cons (ej_meth 2 (ej_var 2) x_TurnState_as_tuple (hr.mono (by decide)) tk caj_nil) aj_nil)))) ej_int))
 (ssj_one (sj_ret (ej_make 2 m_TurnState_s7 (hr.mono (by decide)) tk (caj_star (ej_var 3))))))⟩
abbrev st_TurnState_eq : Stmt := inClass (topS 2) 2
abbrev N_TurnState_eq : List Str := ["self", "other"]
theorem sc_TurnState_eq : FnScope N_TurnState_eq ["self", "other"] (defScope st_TurnState_eq) := ⟨rfl, rfl, rfl, by decide +kernel, rfl, by decide +kernel, by decide +kernel⟩
theorem ok_TurnState_eq {f : Addr} (z_isinstance : mg "isinstance" = none) (i_TurnState : IsiC ci0 K mg 2 [0, 1, 2]) (x_TurnState_as_tuple : MethC ci0 P w K mg base 2 "as_tuple" 1 [] (posF 1 G_TurnState_as_tuple)) : BodyOk P w K mg base f "TurnState.__eq__" st_TurnState_eq N_TurnState_eq 1 b_TurnState_eq := by
  intro cdv A outer s H E hr
  have nd := sc_TurnState_eq.nd
  have tk : Takes (bodyCx P w K mg base N_TurnState_eq "TurnState.__eq__" st_TurnState_eq f cdv A outer s H E) (bodyW E) := takes_of rfl rfl rfl rfl
  have pp := passes_of (X := bodyCx P w K mg base N_TurnState_eq "TurnState.__eq__" st_TurnState_eq f cdv A outer s H E) rfl
  exact ⟨_, (ssj_one (sj_ret (ej_and (ej_isiC 2 [0, 1, 2] z_isinstance (ej_var 1) i_TurnState) (ej_one (ej_cmp (op_eqD hr.units) opj_eq (ej_meth 2 (ej_var 0) x_TurnState_as_tuple (hr.mono (by decide)) tk caj_nil) (ej_meth 2 (ej_var 1) x_TurnState_as_tuple (hr.mono (by decide)) tk caj_nil) (nomark _))))))⟩
abbrev st_law : Stmt := topS 30
abbrev N_law : List Str := ["_law_script", "_law_at", "_law_bag_here", "_law_width", "_law_step", "_law_mine", "_law_other", "_law_made", "_law_some", "_law_state", "_law_further", "_law_found", "_law_twice"]
theorem sc_law : FnScope N_law ["_law_script"] (defScope st_law) := ⟨rfl, rfl, rfl, by decide +kernel, rfl, by decide +kernel, by decide +kernel⟩
theorem ok_law {f : Addr} (z_len : mg "len" = none) (z_min : mg "min" = none) (z_max : mg "max" = none) (z_range : mg "range" = none) (c_l_bag : NameC ci0 P w K mg base "_law_bag" 1 [] (posF 2 G_l_bag)) (c_l_take : NameC ci0 P w K mg base "_law_take" 1 [] (posF 2 G_l_take)) (c_l_setting : NameC ci0 P w K mg base "_law_setting" 7 [] (posF 2 G_l_setting)) (c_l_values : NameC ci0 P w K mg base "_law_values" 2 [] (posF 2 G_l_values)) (m_TurnState_s1_quick : MakeC ci0 P w K mg base 2 1 ["quick"] (kwF 1 1 d_TurnState_init_s1_quick G_TurnState_init)) (c_written_s4 : NameC ci0 P w K mg base "written" 3 [] (kwF 4 0 d_written_s4 G_written)) (c_l_tell : NameC ci0 P w K mg base "_law_tell" 1 [] (posF 1 G_l_tell)) (c_l_first_due : NameC ci0 P w K mg base "_law_first_due" 2 [] (posF 4 G_l_first_due)) (f_TurnState_rest : FldAt ci0 K mg "rest" 2 0) (c_l_second_due : NameC ci0 P w K mg base "_law_second_due" 2 [] (posF 4 G_l_second_due)) (c_cleared : NameC ci0 P w K mg base "cleared" 3 [] (posF 3 G_cleared)) (f_TurnState_kept : FldAt ci0 K mg "kept" 2 1) (q_TurnState : EqC ci0 P w K mg base 2 2 (posF 2 G_TurnState_eq)) : BodyOk P w K mg base f "law" st_law N_law 7 b_law := by
  intro cdv A outer s H E hr
  have nd := sc_law.nd
  have tk : Takes (bodyCx P w K mg base N_law "law" st_law f cdv A outer s H E) (bodyW E) := takes_of rfl rfl rfl rfl
  have pp := passes_of (X := bodyCx P w K mg base N_law "law" st_law f cdv A outer s H E) rfl
  exact ⟨_, (ssj_cons (sj_for pp rfl (ij_range1 rfl z_range (aj_cons (ej_callB (call_max2 rfl) caj_max rfl z_max (by decide +kernel) (aj_cons ej_int (aj_cons (ej_callB (call_min2 rfl) caj_min rfl z_min (by decide +kernel) (aj_cons ej_int (aj_cons (ej_callB call_len caj_len rfl z_len (by decide +kernel) (aj_cons (ej_var 0) aj_nil)) aj_nil))) aj_nil))) aj_nil)) (gj_name 1 nd) (ssj_cons (sj_set 2 nd (ej_fn c_l_bag (hr.mono (by decide)) tk (caj_pos (aj_cons (ej_var 0) (aj_cons (ej_var 1) aj_nil)))))
 (ssj_cons (sj_set 3 nd (ej_ix (ej_lst (aj_cons (ej_bin opr_add opj_add ej_int (ej_fn c_l_take (hr.mono (by decide)) tk (caj_pos (aj_cons (ej_var 2) (aj_cons (ej_bin op_pow opj_pow ej_int ej_int) aj_nil))))) (aj_cons (ej_bin opr_add opj_add ej_int (ej_fn c_l_take (hr.mono (by decide)) tk (caj_pos (aj_cons (ej_var 2) (aj_cons ej_int aj_nil))))) (aj_cons (ej_bin opr_add opj_add ej_int (ej_fn c_l_take (hr.mono (by decide)) tk (caj_pos (aj_cons (ej_var 2) (aj_cons (ej_bin op_pow opj_pow ej_int ej_int) aj_nil))))) aj_nil)))) (ej_fn c_l_take (hr.mono (by decide)) tk (caj_pos (aj_cons (ej_var 2) (aj_cons ej_int aj_nil))))))
 (ssj_one (sj_for pp rfl (ij_range1 rfl z_range (aj_cons ej_int aj_nil)) (gj_name 4 nd) (ssj_cons (sj_set 5 nd (ej_ix (ej_lst (aj_cons (ej_str) (aj_cons (ej_str) (aj_cons (ej_str) (aj_cons (ej_str) aj_nil))))) (ej_fn c_l_take (hr.mono (by decide)) tk (caj_pos (aj_cons (ej_var 2) (aj_cons ej_int aj_nil))))))
 (ssj_cons (sj_set 6 nd (ej_tup (aj_cons (ej_str) (aj_cons (ej_fn c_l_take (hr.mono (by decide)) tk (caj_pos (aj_cons (ej_var 2) (aj_cons ej_int aj_nil)))) (aj_cons (ej_fn c_l_take (hr.mono (by decide)) tk (caj_pos (aj_cons (ej_var 2) (aj_cons ej_int aj_nil)))) aj_nil)))))
 (ssj_cons (sj_par (i := 7) (j := 8) rfl nd (aj_cons (ej_fn c_l_setting (hr.mono (by decide)) tk (caj_pos (aj_cons (ej_var 3) (aj_cons (ej_lst (aj_cons (ej_tup (aj_cons (ej_var 5) (aj_cons ej_int (aj_cons ej_int aj_nil)))) (aj_cons (ej_var 6) aj_nil))) aj_nil)))) (aj_cons (ej_fn c_l_values (hr.mono (by decide)) tk (caj_pos (aj_cons (ej_var 2) (aj_cons (ej_var 3) aj_nil)))) aj_nil)))
 (ssj_cons (sj_set 9 nd (ej_fn c_written_s4 (hr.mono (by decide)) tk (caj_pos (aj_cons (ej_var 7) (aj_cons ej_int (aj_cons (ej_make 2 m_TurnState_s1_quick (hr.mono (by decide)) tk (caj_kw0 (kwj_cons (ej_ix (ej_var 6) ej_int) kwj_nil))) (aj_cons (ej_var 8) aj_nil)))))))
 (ssj_cons (sj_if (tj_cmp (op_neD hr.units) opj_ne (ej_fn c_l_tell (hr.mono (by decide)) tk (caj_pos (aj_cons (ej_var 9) aj_nil))) (ej_fn c_l_first_due (hr.mono (by decide)) tk (caj_pos (aj_cons (ej_var 3) (aj_cons (ej_var 5) (aj_cons (ej_var 6) (aj_cons (ej_var 8) aj_nil)))))) (nomark _)) (ssj_one (sj_ret ej_bl)) ssj_nil)
 (ssj_cons (sj_if (tj_w (twj_and (tj_cmp (op_eqD hr.units) opj_eq (ej_var 5) (ej_str) (nomark _)) (twj_and1 (tj_cmp op_gt opj_gt (ej_attr [(2, 0)] (ej_var 9) (tab1 f_TurnState_rest)) ej_int (nomark _))))) (ssj_cons (sj_set 10 nd (ej_callB (call_max2 rfl) caj_max rfl z_max (by decide +kernel) (aj_cons (ej_fn c_l_values (hr.mono (by decide)) tk (caj_pos (aj_cons (ej_var 2) (aj_cons (ej_var 3) aj_nil)))) (aj_cons (ej_bin op_sub opj_sub (ej_var 3) (ej_attr [(2, 0)] (ej_var 9) (tab1 f_TurnState_rest))) aj_nil))))
 (ssj_cons (sj_set 11 nd (ej_fn c_written_s4 (hr.mono (by decide)) tk (caj_pos (aj_cons (ej_var 7) (aj_cons ej_int (aj_cons (ej_var 9) (aj_cons (ej_var 10) aj_nil)))))))
 (ssj_one (sj_if (tj_cmp (op_neD hr.units) opj_ne (ej_fn c_l_tell (hr.mono (by decide)) tk (caj_pos (aj_cons (ej_var 11) aj_nil))) (ej_fn c_l_second_due (hr.mono (by decide)) tk (caj_pos (aj_cons (ej_var 3) (aj_cons (ej_var 6) (aj_cons (ej_var 9) (aj_cons (ej_var 10) aj_nil)))))) (nomark _)) (ssj_one (sj_ret ej_bl)) ssj_nil)))) ssj_nil)
 (ssj_cons (sj_set 12 nd (ej_fn c_cleared (hr.mono (by decide)) tk (caj_pos (aj_cons (ej_var 7) (aj_cons ej_int (aj_cons (ej_fn c_cleared (hr.mono (by decide)) tk (caj_pos (aj_cons (ej_var 7) (aj_cons ej_int (aj_cons (ej_var 9) aj_nil))))) aj_nil))))))
 (ssj_one (sj_if (tj_w (twj_or (tj_tru (ej_attr [(2, 1)] (ej_var 9) (tab1 f_TurnState_kept))) (twj_or1 (tj_cmp (opr_neOwn q_TurnState (hr.mono (by decide))) opj_neOwn (ej_fn c_cleared (hr.mono (by decide)) tk (caj_pos (aj_cons (ej_var 7) (aj_cons ej_int (aj_cons (ej_var 12) aj_nil))))) (ej_var 12) (nomark _))))) (ssj_one (sj_ret ej_bl)) ssj_nil))))))))))))))
 (ssj_one (sj_ret ej_bl)))⟩
end Ev
set_option Elab.async false
set_option linter.all false
set_option maxRecDepth 100000
set_option maxHeartbeats 4000000
namespace Ev
open PySem L2
abbrev dd_l_bag : He.DefD := ⟨("_law_bag", none), "_law_bag", "_law_bag", defArgs st_l_bag, defBody st_l_bag, defScope st_l_bag, [], []⟩
abbrev dd_l_take : He.DefD := ⟨("_law_take", none), "_law_take", "_law_take", defArgs st_l_take, defBody st_l_take, defScope st_l_take, [], []⟩
abbrev dd_is_integer : He.DefD := ⟨("is_integer", none), "is_integer", "is_integer", defArgs st_is_integer, defBody st_is_integer, defScope st_is_integer, [], []⟩
abbrev dd_in_range : He.DefD := ⟨("in_range", none), "in_range", "in_range", defArgs st_in_range, defBody st_in_range, defScope st_in_range, [], []⟩
abbrev dd_Policy_init : He.DefD := ⟨("Policy", some "__init__"), "__init__", "Policy.__init__", defArgs st_Policy_init, defBody st_Policy_init, defScope st_Policy_init, [(.str "all")], [("every", (.int 2)), ("quick", (.int 0))]⟩
abbrev dd_Setting_init : He.DefD := ⟨("Setting", some "__init__"), "__init__", "Setting.__init__", defArgs st_Setting_init, defBody st_Setting_init, defScope st_Setting_init, [], []⟩
abbrev dd_l_setting : He.DefD := ⟨("_law_setting", none), "_law_setting", "_law_setting", defArgs st_l_setting, defBody st_l_setting, defScope st_l_setting, [], []⟩
abbrev dd_l_values : He.DefD := ⟨("_law_values", none), "_law_values", "_law_values", defArgs st_l_values, defBody st_l_values, defScope st_l_values, [], []⟩
abbrev dd_TurnState_init : He.DefD := ⟨("TurnState", some "__init__"), "__init__", "TurnState.__init__", defArgs st_TurnState_init, defBody st_TurnState_init, defScope st_TurnState_init, [(.int 0), (.bl false), (.bl false), (.bl false), (.int 0), (.int 0)], []⟩
abbrev dd_TurnState_as_tuple : He.DefD := ⟨("TurnState", some "as_tuple"), "as_tuple", "TurnState.as_tuple", defArgs st_TurnState_as_tuple, defBody st_TurnState_as_tuple, defScope st_TurnState_as_tuple, [], []⟩
abbrev dd_rules_of : He.DefD := ⟨("rules_of", none), "rules_of", "rules_of", defArgs st_rules_of, defBody st_rules_of, defScope st_rules_of, [], []⟩
abbrev dd_with_full : He.DefD := ⟨("with_full", none), "with_full", "with_full", defArgs st_with_full, defBody st_with_full, defScope st_with_full, [], []⟩
abbrev dd_with_partial : He.DefD := ⟨("with_partial", none), "with_partial", "with_partial", defArgs st_with_partial, defBody st_with_partial, defScope st_with_partial, [], []⟩
abbrev dd_after_write : He.DefD := ⟨("after_write", none), "after_write", "after_write", defArgs st_after_write, defBody st_after_write, defScope st_after_write, [], []⟩
abbrev dd_written : He.DefD := ⟨("written", none), "written", "written", defArgs st_written, defBody st_written, defScope st_written, [(.str "plain")], []⟩
abbrev dd_l_tell : He.DefD := ⟨("_law_tell", none), "_law_tell", "_law_tell", defArgs st_l_tell, defBody st_l_tell, defScope st_l_tell, [], []⟩
abbrev dd_l_sent : He.DefD := ⟨("_law_sent", none), "_law_sent", "_law_sent", defArgs st_l_sent, defBody st_l_sent, defScope st_l_sent, [], []⟩
abbrev dd_l_first_due : He.DefD := ⟨("_law_first_due", none), "_law_first_due", "_law_first_due", defArgs st_l_first_due, defBody st_l_first_due, defScope st_l_first_due, [], []⟩
abbrev dd_l_second_due : He.DefD := ⟨("_law_second_due", none), "_law_second_due", "_law_second_due", defArgs st_l_second_due, defBody st_l_second_due, defScope st_l_second_due, [], []⟩
abbrev dd_after_clearing : He.DefD := ⟨("after_clearing", none), "after_clearing", "after_clearing", defArgs st_after_clearing, defBody st_after_clearing, defScope st_after_clearing, [], []⟩
abbrev dd_cleared : He.DefD := ⟨("cleared", none), "cleared", "cleared", defArgs st_cleared, defBody st_cleared, defScope st_cleared, [], []⟩
abbrev dd_TurnState_eq : He.DefD := ⟨("TurnState", some "__eq__"), "__eq__", "TurnState.__eq__", defArgs st_TurnState_eq, defBody st_TurnState_eq, defScope st_TurnState_eq, [], []⟩
abbrev dd_law : He.DefD := ⟨("law", none), "law", "law", defArgs st_law, defBody st_law, defScope st_law, [], []⟩
def fn : List He.DefD := [dd_l_bag, dd_l_take, dd_is_integer, dd_in_range, dd_Policy_init, dd_Setting_init, dd_l_setting, dd_l_values, dd_TurnState_init, dd_TurnState_as_tuple, dd_rules_of, dd_with_full, dd_with_partial, dd_after_write, dd_written, dd_l_tell, dd_l_sent, dd_l_first_due, dd_l_second_due, dd_after_clearing, dd_cleared, dd_TurnState_eq, dd_law]
def fs : List (Fx.Fr → Bool) := [(He.Fa.free "len").ok,
 (He.Fa.free "abs").ok,
 (He.Fa.free "int").ok,
 (He.Fa.free "isinstance").ok,
 Fx.isiB ci0 .int [0, 1, 2] (fun _ => .type "int"),
 Fx.isiB ci0 .bool [0, 1, 2] (fun _ => .type "bool"),
 (He.Fa.free "bool").ok,
 (He.Fa.glo "is_integer").ok,
 Fx.isiB ci0 .str [0, 1, 2] (fun _ => .type "str"),
 (He.Fa.free "str").ok,
 Fx.conB "Policy" "HOLDS" (.tup [(.str "off"), (.str "partial"), (.str "all")]),
 Fx.glB "MOST_EVERY" (.int 9),
 (He.Fa.glo "in_range").ok,
 Fx.glB "MOST_QUICK" (.int 4),
 Fx.fldB "Policy" "hold",
 Fx.fldB "Policy" "every",
 Fx.fldB "Policy" "quick",
 Fx.fldB "TurnState" "quick",
 Fx.glB "MOST_SIZE" (.int 1000000000000000000),
 (He.Fa.glo "Policy").ok,
 Fx.isiB ci0 (.cls 0) [0, 1, 2] (fun K => .ref (He.ga K "Policy")),
 (He.Fa.free "all").ok,
 (He.Fa.mkr "Policy").ok,
 Fx.fldB "Setting" "size",
 Fx.fldB "Setting" "policies",
 (He.Fa.glo "Setting").ok,
 (He.Fa.mkr "Setting").ok,
 (He.Fa.glo "_law_take").ok,
 (He.Fa.free "min").ok,
 (He.Fa.free "max").ok,
 Fx.fldB "TurnState" "rest",
 Fx.fldB "TurnState" "kept",
 Fx.fldB "TurnState" "blocked",
 Fx.fldB "TurnState" "stuck",
 Fx.fldB "TurnState" "pending",
 (He.Fa.free "divmod").ok,
 (He.Fa.glo "with_full").ok,
 (He.Fa.glo "with_partial").ok,
 (He.Fa.glo "TurnState").ok,
 (He.Fa.cls "TurnState").ok,
 (He.Fa.meth "TurnState" "as_tuple").ok,
 (He.Fa.glo "rules_of").ok,
 (He.Fa.glo "after_write").ok,
 (He.Fa.mkr "TurnState").ok,
 (He.Fa.glo "_law_sent").ok,
 (He.Fa.glo "after_clearing").ok,
 Fx.isiB ci0 (.cls 2) [0, 1, 2] (fun K => .ref (He.ga K "TurnState")),
 (He.Fa.free "range").ok,
 (He.Fa.glo "_law_bag").ok,
 (He.Fa.glo "_law_setting").ok,
 (He.Fa.glo "_law_values").ok,
 (He.Fa.glo "written").ok,
 (He.Fa.glo "_law_tell").ok,
 (He.Fa.glo "_law_first_due").ok,
 (He.Fa.glo "_law_second_due").ok,
 (He.Fa.glo "cleared").ok,
 Fx.eqB "TurnState",
 (He.Fa.glo "law").ok]
theorem facts {P : Program} {w : World} {K : PySem.W.Frag} {mg : Str → Option Value} {h : Heap} {fa : Addr} (X : K.In h) (Gm : h.Ns mainGlobals mg) (hfa : mg "law" = some (.ref fa)) (c : He.SaysD [] fn K) (cx : Fx.allB fs K = true) :
    ∃ fd : FuncData, (∀ (s : Shared) (u : Value), BindsTo s fd ⟨[u], []⟩ [("_law_script", u)]) ∧ ∀ base : Heap, K.In base → base.Ns mainGlobals mg → FnOk P w K mg base (L2.CX P w) 8 fa fd ["_law_script"] (spG ⟨K, mg, ci0⟩ 1 G_law) := by
  have b_0 := Fx.at_ cx 0 (f := (He.Fa.free "len").ok) rfl
  have b_1 := Fx.at_ cx 1 (f := (He.Fa.free "abs").ok) rfl
  have b_2 := Fx.at_ cx 2 (f := (He.Fa.free "int").ok) rfl
  have b_3 := Fx.at_ cx 3 (f := (He.Fa.free "isinstance").ok) rfl
  have b_4 := Fx.at_ cx 4 (f := Fx.isiB ci0 .int [0, 1, 2] (fun _ => .type "int")) rfl
  have b_5 := Fx.at_ cx 5 (f := Fx.isiB ci0 .bool [0, 1, 2] (fun _ => .type "bool")) rfl
  have b_6 := Fx.at_ cx 6 (f := (He.Fa.free "bool").ok) rfl
  have b_7 := Fx.at_ cx 7 (f := (He.Fa.glo "is_integer").ok) rfl
  have b_8 := Fx.at_ cx 8 (f := Fx.isiB ci0 .str [0, 1, 2] (fun _ => .type "str")) rfl
  have b_9 := Fx.at_ cx 9 (f := (He.Fa.free "str").ok) rfl
  have b_10 := Fx.at_ cx 10 (f := Fx.conB "Policy" "HOLDS" (.tup [(.str "off"), (.str "partial"), (.str "all")])) rfl
  have b_11 := Fx.at_ cx 11 (f := Fx.glB "MOST_EVERY" (.int 9)) rfl
  have b_12 := Fx.at_ cx 12 (f := (He.Fa.glo "in_range").ok) rfl
  have b_13 := Fx.at_ cx 13 (f := Fx.glB "MOST_QUICK" (.int 4)) rfl
  have b_14 := Fx.at_ cx 14 (f := Fx.fldB "Policy" "hold") rfl
  have b_15 := Fx.at_ cx 15 (f := Fx.fldB "Policy" "every") rfl
  have b_16 := Fx.at_ cx 16 (f := Fx.fldB "Policy" "quick") rfl
  have b_17 := Fx.at_ cx 17 (f := Fx.fldB "TurnState" "quick") rfl
  have b_18 := Fx.at_ cx 18 (f := Fx.glB "MOST_SIZE" (.int 1000000000000000000)) rfl
  have b_19 := Fx.at_ cx 19 (f := (He.Fa.glo "Policy").ok) rfl
  have b_20 := Fx.at_ cx 20 (f := Fx.isiB ci0 (.cls 0) [0, 1, 2] (fun K => .ref (He.ga K "Policy"))) rfl
  have b_21 := Fx.at_ cx 21 (f := (He.Fa.free "all").ok) rfl
  have b_22 := Fx.at_ cx 22 (f := (He.Fa.mkr "Policy").ok) rfl
  have b_23 := Fx.at_ cx 23 (f := Fx.fldB "Setting" "size") rfl
  have b_24 := Fx.at_ cx 24 (f := Fx.fldB "Setting" "policies") rfl
  have b_25 := Fx.at_ cx 25 (f := (He.Fa.glo "Setting").ok) rfl
  have b_26 := Fx.at_ cx 26 (f := (He.Fa.mkr "Setting").ok) rfl
  have b_27 := Fx.at_ cx 27 (f := (He.Fa.glo "_law_take").ok) rfl
  have b_28 := Fx.at_ cx 28 (f := (He.Fa.free "min").ok) rfl
  have b_29 := Fx.at_ cx 29 (f := (He.Fa.free "max").ok) rfl
  have b_30 := Fx.at_ cx 30 (f := Fx.fldB "TurnState" "rest") rfl
  have b_31 := Fx.at_ cx 31 (f := Fx.fldB "TurnState" "kept") rfl
  have b_32 := Fx.at_ cx 32 (f := Fx.fldB "TurnState" "blocked") rfl
  have b_33 := Fx.at_ cx 33 (f := Fx.fldB "TurnState" "stuck") rfl
  have b_34 := Fx.at_ cx 34 (f := Fx.fldB "TurnState" "pending") rfl
  have b_35 := Fx.at_ cx 35 (f := (He.Fa.free "divmod").ok) rfl
  have b_36 := Fx.at_ cx 36 (f := (He.Fa.glo "with_full").ok) rfl
  have b_37 := Fx.at_ cx 37 (f := (He.Fa.glo "with_partial").ok) rfl
  have b_38 := Fx.at_ cx 38 (f := (He.Fa.glo "TurnState").ok) rfl
  have b_39 := Fx.at_ cx 39 (f := (He.Fa.cls "TurnState").ok) rfl
  have b_40 := Fx.at_ cx 40 (f := (He.Fa.meth "TurnState" "as_tuple").ok) rfl
  have b_41 := Fx.at_ cx 41 (f := (He.Fa.glo "rules_of").ok) rfl
  have b_42 := Fx.at_ cx 42 (f := (He.Fa.glo "after_write").ok) rfl
  have b_43 := Fx.at_ cx 43 (f := (He.Fa.mkr "TurnState").ok) rfl
  have b_44 := Fx.at_ cx 44 (f := (He.Fa.glo "_law_sent").ok) rfl
  have b_45 := Fx.at_ cx 45 (f := (He.Fa.glo "after_clearing").ok) rfl
  have b_46 := Fx.at_ cx 46 (f := Fx.isiB ci0 (.cls 2) [0, 1, 2] (fun K => .ref (He.ga K "TurnState"))) rfl
  have b_47 := Fx.at_ cx 47 (f := (He.Fa.free "range").ok) rfl
  have b_48 := Fx.at_ cx 48 (f := (He.Fa.glo "_law_bag").ok) rfl
  have b_49 := Fx.at_ cx 49 (f := (He.Fa.glo "_law_setting").ok) rfl
  have b_50 := Fx.at_ cx 50 (f := (He.Fa.glo "_law_values").ok) rfl
  have b_51 := Fx.at_ cx 51 (f := (He.Fa.glo "written").ok) rfl
  have b_52 := Fx.at_ cx 52 (f := (He.Fa.glo "_law_tell").ok) rfl
  have b_53 := Fx.at_ cx 53 (f := (He.Fa.glo "_law_first_due").ok) rfl
  have b_54 := Fx.at_ cx 54 (f := (He.Fa.glo "_law_second_due").ok) rfl
  have b_55 := Fx.at_ cx 55 (f := (He.Fa.glo "cleared").ok) rfl
  have b_56 := Fx.at_ cx 56 (f := Fx.eqB "TurnState") rfl
  have b_57 := Fx.at_ cx 57 (f := (He.Fa.glo "law").ok) rfl
  obtain ⟨fd_l_bag, F_l_bag⟩ := c.def_ 0 (d := dd_l_bag) rfl
  have F_l_bag : FunD K "_law_bag" "_law_bag" (defArgs st_l_bag) (defBody st_l_bag) (defScope st_l_bag) [] [] (He.fAd K ("_law_bag", none)) fd_l_bag := F_l_bag
  obtain ⟨fd_l_take, F_l_take⟩ := c.def_ 1 (d := dd_l_take) rfl
  have F_l_take : FunD K "_law_take" "_law_take" (defArgs st_l_take) (defBody st_l_take) (defScope st_l_take) [] [] (He.fAd K ("_law_take", none)) fd_l_take := F_l_take
  obtain ⟨fd_is_integer, F_is_integer⟩ := c.def_ 2 (d := dd_is_integer) rfl
  have F_is_integer : FunD K "is_integer" "is_integer" (defArgs st_is_integer) (defBody st_is_integer) (defScope st_is_integer) [] [] (He.fAd K ("is_integer", none)) fd_is_integer := F_is_integer
  obtain ⟨fd_in_range, F_in_range⟩ := c.def_ 3 (d := dd_in_range) rfl
  have F_in_range : FunD K "in_range" "in_range" (defArgs st_in_range) (defBody st_in_range) (defScope st_in_range) [] [] (He.fAd K ("in_range", none)) fd_in_range := F_in_range
  obtain ⟨fd_Policy_init, F_Policy_init⟩ := c.def_ 4 (d := dd_Policy_init) rfl
  have F_Policy_init : FunD K "__init__" "Policy.__init__" (defArgs st_Policy_init) (defBody st_Policy_init) (defScope st_Policy_init) [(.str "all")] [("every", (.int 2)), ("quick", (.int 0))] (He.fAd K ("Policy", some "__init__")) fd_Policy_init := F_Policy_init
  obtain ⟨fd_Setting_init, F_Setting_init⟩ := c.def_ 5 (d := dd_Setting_init) rfl
  have F_Setting_init : FunD K "__init__" "Setting.__init__" (defArgs st_Setting_init) (defBody st_Setting_init) (defScope st_Setting_init) [] [] (He.fAd K ("Setting", some "__init__")) fd_Setting_init := F_Setting_init
  obtain ⟨fd_l_setting, F_l_setting⟩ := c.def_ 6 (d := dd_l_setting) rfl
  have F_l_setting : FunD K "_law_setting" "_law_setting" (defArgs st_l_setting) (defBody st_l_setting) (defScope st_l_setting) [] [] (He.fAd K ("_law_setting", none)) fd_l_setting := F_l_setting
  obtain ⟨fd_l_values, F_l_values⟩ := c.def_ 7 (d := dd_l_values) rfl
  have F_l_values : FunD K "_law_values" "_law_values" (defArgs st_l_values) (defBody st_l_values) (defScope st_l_values) [] [] (He.fAd K ("_law_values", none)) fd_l_values := F_l_values
  obtain ⟨fd_TurnState_init, F_TurnState_init⟩ := c.def_ 8 (d := dd_TurnState_init) rfl
  have F_TurnState_init : FunD K "__init__" "TurnState.__init__" (defArgs st_TurnState_init) (defBody st_TurnState_init) (defScope st_TurnState_init) [(.int 0), (.bl false), (.bl false), (.bl false), (.int 0), (.int 0)] [] (He.fAd K ("TurnState", some "__init__")) fd_TurnState_init := F_TurnState_init
  obtain ⟨fd_TurnState_as_tuple, F_TurnState_as_tuple⟩ := c.def_ 9 (d := dd_TurnState_as_tuple) rfl
  have F_TurnState_as_tuple : FunD K "as_tuple" "TurnState.as_tuple" (defArgs st_TurnState_as_tuple) (defBody st_TurnState_as_tuple) (defScope st_TurnState_as_tuple) [] [] (He.fAd K ("TurnState", some "as_tuple")) fd_TurnState_as_tuple := F_TurnState_as_tuple
  obtain ⟨fd_rules_of, F_rules_of⟩ := c.def_ 10 (d := dd_rules_of) rfl
  have F_rules_of : FunD K "rules_of" "rules_of" (defArgs st_rules_of) (defBody st_rules_of) (defScope st_rules_of) [] [] (He.fAd K ("rules_of", none)) fd_rules_of := F_rules_of
  obtain ⟨fd_with_full, F_with_full⟩ := c.def_ 11 (d := dd_with_full) rfl
  have F_with_full : FunD K "with_full" "with_full" (defArgs st_with_full) (defBody st_with_full) (defScope st_with_full) [] [] (He.fAd K ("with_full", none)) fd_with_full := F_with_full
  obtain ⟨fd_with_partial, F_with_partial⟩ := c.def_ 12 (d := dd_with_partial) rfl
  have F_with_partial : FunD K "with_partial" "with_partial" (defArgs st_with_partial) (defBody st_with_partial) (defScope st_with_partial) [] [] (He.fAd K ("with_partial", none)) fd_with_partial := F_with_partial
  obtain ⟨fd_after_write, F_after_write⟩ := c.def_ 13 (d := dd_after_write) rfl
  have F_after_write : FunD K "after_write" "after_write" (defArgs st_after_write) (defBody st_after_write) (defScope st_after_write) [] [] (He.fAd K ("after_write", none)) fd_after_write := F_after_write
  obtain ⟨fd_written, F_written⟩ := c.def_ 14 (d := dd_written) rfl
  have F_written : FunD K "written" "written" (defArgs st_written) (defBody st_written) (defScope st_written) [(.str "plain")] [] (He.fAd K ("written", none)) fd_written := F_written
  obtain ⟨fd_l_tell, F_l_tell⟩ := c.def_ 15 (d := dd_l_tell) rfl
  have F_l_tell : FunD K "_law_tell" "_law_tell" (defArgs st_l_tell) (defBody st_l_tell) (defScope st_l_tell) [] [] (He.fAd K ("_law_tell", none)) fd_l_tell := F_l_tell
  obtain ⟨fd_l_sent, F_l_sent⟩ := c.def_ 16 (d := dd_l_sent) rfl
  have F_l_sent : FunD K "_law_sent" "_law_sent" (defArgs st_l_sent) (defBody st_l_sent) (defScope st_l_sent) [] [] (He.fAd K ("_law_sent", none)) fd_l_sent := F_l_sent
  obtain ⟨fd_l_first_due, F_l_first_due⟩ := c.def_ 17 (d := dd_l_first_due) rfl
  have F_l_first_due : FunD K "_law_first_due" "_law_first_due" (defArgs st_l_first_due) (defBody st_l_first_due) (defScope st_l_first_due) [] [] (He.fAd K ("_law_first_due", none)) fd_l_first_due := F_l_first_due
  obtain ⟨fd_l_second_due, F_l_second_due⟩ := c.def_ 18 (d := dd_l_second_due) rfl
  have F_l_second_due : FunD K "_law_second_due" "_law_second_due" (defArgs st_l_second_due) (defBody st_l_second_due) (defScope st_l_second_due) [] [] (He.fAd K ("_law_second_due", none)) fd_l_second_due := F_l_second_due
  obtain ⟨fd_after_clearing, F_after_clearing⟩ := c.def_ 19 (d := dd_after_clearing) rfl
  have F_after_clearing : FunD K "after_clearing" "after_clearing" (defArgs st_after_clearing) (defBody st_after_clearing) (defScope st_after_clearing) [] [] (He.fAd K ("after_clearing", none)) fd_after_clearing := F_after_clearing
  obtain ⟨fd_cleared, F_cleared⟩ := c.def_ 20 (d := dd_cleared) rfl
  have F_cleared : FunD K "cleared" "cleared" (defArgs st_cleared) (defBody st_cleared) (defScope st_cleared) [] [] (He.fAd K ("cleared", none)) fd_cleared := F_cleared
  obtain ⟨fd_TurnState_eq, F_TurnState_eq⟩ := c.def_ 21 (d := dd_TurnState_eq) rfl
  have F_TurnState_eq : FunD K "__eq__" "TurnState.__eq__" (defArgs st_TurnState_eq) (defBody st_TurnState_eq) (defScope st_TurnState_eq) [] [] (He.fAd K ("TurnState", some "__eq__")) fd_TurnState_eq := F_TurnState_eq
  obtain ⟨fd_law, F_law⟩ := c.def_ 22 (d := dd_law) rfl
  have F_law : FunD K "law" "law" (defArgs st_law) (defBody st_law) (defScope st_law) [] [] (He.fAd K ("law", none)) fd_law := F_law
  have e := hfa.symm.trans (He.glo_ok X Gm b_57)
  cases e
  refine ⟨fd_law, fun s u => FunD.bindsA (ps := ["_law_script"]) F_law (fun _ _ _ _ _ _ us hl => match us, hl with | [_], _ => rfl) s [u] rfl, fun base _ _ => ?_⟩
  have z_len : mg "len" = none := He.free_ok X Gm b_0
  have z_abs : mg "abs" = none := He.free_ok X Gm b_1
  have z_int : mg "int" = none := He.free_ok X Gm b_2
  have O_l_bag : FnOk P w K mg base (L2.CX P w) 1 (He.fAd K ("_law_bag", none)) fd_l_bag ["_law_script", "_law_at"] (spG ⟨K, mg, ci0⟩ 2 G_l_bag) := fn_bodyD F_l_bag sc_l_bag (ok_l_bag z_len z_abs z_int)
  have O_l_take : FnOk P w K mg base (L2.CX P w) 1 (He.fAd K ("_law_take", none)) fd_l_take ["_law_bag_here", "_law_many"] (spG ⟨K, mg, ci0⟩ 2 G_l_take) := fn_bodyD F_l_take sc_l_take (ok_l_take z_int)
  have z_isinstance : mg "isinstance" = none := He.free_ok X Gm b_3
  have i_int : IsiF ci0 K mg .int [0, 1, 2] (.type "int") := Fx.isi_ok (u := fun _ => .type "int") X Gm b_4
  have i_bool : IsiF ci0 K mg .bool [0, 1, 2] (.type "bool") := Fx.isi_ok (u := fun _ => .type "bool") X Gm b_5
  have z_bool : mg "bool" = none := He.free_ok X Gm b_6
  have O_is_integer : FnOk P w K mg base (L2.CX P w) 1 (He.fAd K ("is_integer", none)) fd_is_integer ["value"] (spG ⟨K, mg, ci0⟩ 1 G_is_integer) := fn_bodyD F_is_integer sc_is_integer (ok_is_integer z_isinstance i_int z_int i_bool z_bool)
  have c_is_integer : NameC ci0 P w K mg base "is_integer" 1 [] (posF 1 G_is_integer) := Fx.name_ok X Gm b_7 F_is_integer.kp (FnC.pos O_is_integer (FunD.bindsN F_is_integer fun _ _ _ _ _ _ us hl => match us, hl with | [_], _ => rfl))
  have O_in_range : FnOk P w K mg base (L2.CX P w) 2 (He.fAd K ("in_range", none)) fd_in_range ["value", "least", "most"] (spG ⟨K, mg, ci0⟩ 3 G_in_range) := fn_bodyD F_in_range sc_in_range (ok_in_range c_is_integer)
  have i_str : IsiF ci0 K mg .str [0, 1, 2] (.type "str") := Fx.isi_ok (u := fun _ => .type "str") X Gm b_8
  have z_str : mg "str" = none := He.free_ok X Gm b_9
  have k_Policy_HOLDS : ConC ci0 K mg "Policy" "HOLDS" (.tup [(.str "off"), (.str "partial"), (.str "all")]) := Fx.con_ok X Gm b_10
  have g_MOST_EVERY : GlC ci0 K mg "MOST_EVERY" (.int 9) := Fx.gl_ok X Gm b_11
  have c_in_range : NameC ci0 P w K mg base "in_range" 2 [] (posF 3 G_in_range) := Fx.name_ok X Gm b_12 F_in_range.kp (FnC.pos O_in_range (FunD.bindsN F_in_range fun _ _ _ _ _ _ us hl => match us, hl with | [_, _, _], _ => rfl))
  have g_MOST_QUICK : GlC ci0 K mg "MOST_QUICK" (.int 4) := Fx.gl_ok X Gm b_13
  have f_Policy_hold : FldAt ci0 K mg "hold" 0 0 := Fx.fld_ok X Gm (x := "Policy") b_14 rfl rfl (by decide +kernel)
  have f_Policy_every : FldAt ci0 K mg "every" 0 1 := Fx.fld_ok X Gm (x := "Policy") b_15 rfl rfl (by decide +kernel)
  have f_Policy_quick : FldAt ci0 K mg "quick" 0 2 := Fx.fld_ok X Gm (x := "Policy") b_16 rfl rfl (by decide +kernel)
  have f_TurnState_quick : FldAt ci0 K mg "quick" 2 5 := Fx.fld_ok X Gm (x := "TurnState") b_17 rfl rfl (by decide +kernel)
  have O_Policy_init : FnOk P w K mg base (L2.CX P w) 3 (He.fAd K ("Policy", some "__init__")) fd_Policy_init ["self", "hold", "every", "quick"] (spG ⟨K, mg, ci0⟩ 4 G_Policy_init) := fn_bodyD F_Policy_init sc_Policy_init (ok_Policy_init z_isinstance i_str z_str k_Policy_HOLDS g_MOST_EVERY c_in_range g_MOST_QUICK f_Policy_hold f_Policy_every f_Policy_quick f_TurnState_quick)
  have g_MOST_SIZE : GlC ci0 K mg "MOST_SIZE" (.int 1000000000000000000) := Fx.gl_ok X Gm b_18
  have i_Policy : IsiC ci0 K mg 0 [0, 1, 2] := Fx.isiC_ok X Gm (x := "Policy") b_19 rfl b_20
  have z_all : mg "all" = none := He.free_ok X Gm b_21
  obtain ⟨its_Policy_init_s1, mv_Policy_init_s1, kb_Policy_init_s1⟩ := kb_dk (ps := ["self", "hold", "every", "quick"]) F_Policy_init 1 [] [("every", (.int 2)), ("quick", (.int 0))] [.d 0, .m 0, .m 1] (by simp) (by simp) (by simp) fun T D doc pm an cdv ct us its mv ws h1 h2 h3 h4 => match us, h1, its, h2, mv, h3, ws, h4 with | [_], _, [_], _, [_, _], _, [], _ => ⟨_, rfl, ⟨_, _, _, _, _, _, rfl, rfl, ⟨_, _, _, _, _, _, rfl, rfl, rfl⟩⟩⟩
  have m_Policy_s1 : MakeC ci0 P w K mg base 0 3 [] (kwF 1 0 d_Policy_init_s1 G_Policy_init) := Fx.make_ok X Gm (x := "Policy") b_19 b_22 rfl (FnC.kwS 1 O_Policy_init kb_Policy_init_s1 (fun bs H => .cons (.str (by decide +kernel)) (.nil)) (fun bs H => .cons (.int 2) (.cons (.int 0) (.nil))) (by decide +kernel) rfl)
  have f_Setting_size : FldAt ci0 K mg "size" 1 0 := Fx.fld_ok X Gm (x := "Setting") b_23 rfl rfl (by decide +kernel)
  have f_Setting_policies : FldAt ci0 K mg "policies" 1 1 := Fx.fld_ok X Gm (x := "Setting") b_24 rfl rfl (by decide +kernel)
  have O_Setting_init : FnC ci0 P w K mg base 5 (He.fAd K ("Setting", some "__init__")) [] (starF 2 G_Setting_init) := fn_bodyS (ps := ["self", "size"]) (pv := "policies") rfl F_Setting_init sc_Setting_init (fun _ _ _ _ _ _ us rest hl => match us, rest, hl with | [_, _], [], _ => rfl | [_, _], _ :: _, _ => rfl) (ok_Setting_init g_MOST_SIZE c_in_range z_len z_isinstance i_Policy z_all m_Policy_s1 f_Setting_size f_Setting_policies)
  obtain ⟨its_Policy_init_s2_every_quick, mv_Policy_init_s2_every_quick, kb_Policy_init_s2_every_quick⟩ := kb_dk (ps := ["self", "hold", "every", "quick"]) F_Policy_init 2 ["every", "quick"] [] [.k 0, .k 1] (by simp) (by simp) (by simp) fun T D doc pm an cdv ct us its mv ws h1 h2 h3 h4 => match us, h1, its, h2, mv, h3, ws, h4 with | [_, _], _, [_], _, [], _, [_, _], _ => ⟨_, rfl, rfl⟩
  have m_Policy_s2_every_quick : MakeC ci0 P w K mg base 0 3 ["every", "quick"] (kwF 2 2 d_Policy_init_s2_every_quick G_Policy_init) := Fx.make_ok X Gm (x := "Policy") b_19 b_22 rfl (FnC.kwS 2 O_Policy_init kb_Policy_init_s2_every_quick (fun bs H => .cons (.str (by decide +kernel)) (.nil)) (fun bs H => .nil) (by decide +kernel) rfl)
  have m_Setting_star : MakeC ci0 P w K mg base 1 5 [] (starF 2 G_Setting_init) := Fx.make_ok X Gm (x := "Setting") b_25 b_26 rfl O_Setting_init
  have O_l_setting : FnOk P w K mg base (L2.CX P w) 7 (He.fAd K ("_law_setting", none)) fd_l_setting ["_law_width", "_law_rules"] (spG ⟨K, mg, ci0⟩ 2 G_l_setting) := fn_bodyD F_l_setting sc_l_setting (ok_l_setting m_Policy_s2_every_quick m_Setting_star)
  have c_l_take : NameC ci0 P w K mg base "_law_take" 1 [] (posF 2 G_l_take) := Fx.name_ok X Gm b_27 F_l_take.kp (FnC.pos O_l_take (FunD.bindsN F_l_take fun _ _ _ _ _ _ us hl => match us, hl with | [_, _], _ => rfl))
  have z_min : mg "min" = none := He.free_ok X Gm b_28
  have z_max : mg "max" = none := He.free_ok X Gm b_29
  have O_l_values : FnOk P w K mg base (L2.CX P w) 2 (He.fAd K ("_law_values", none)) fd_l_values ["_law_bag_here", "_law_width"] (spG ⟨K, mg, ci0⟩ 2 G_l_values) := fn_bodyD F_l_values sc_l_values (ok_l_values c_l_take z_min z_max)
  have f_TurnState_rest : FldAt ci0 K mg "rest" 2 0 := Fx.fld_ok X Gm (x := "TurnState") b_30 rfl rfl (by decide +kernel)
  have f_TurnState_kept : FldAt ci0 K mg "kept" 2 1 := Fx.fld_ok X Gm (x := "TurnState") b_31 rfl rfl (by decide +kernel)
  have f_TurnState_blocked : FldAt ci0 K mg "blocked" 2 2 := Fx.fld_ok X Gm (x := "TurnState") b_32 rfl rfl (by decide +kernel)
  have f_TurnState_stuck : FldAt ci0 K mg "stuck" 2 3 := Fx.fld_ok X Gm (x := "TurnState") b_33 rfl rfl (by decide +kernel)
  have f_TurnState_pending : FldAt ci0 K mg "pending" 2 4 := Fx.fld_ok X Gm (x := "TurnState") b_34 rfl rfl (by decide +kernel)
  have O_TurnState_init : FnOk P w K mg base (L2.CX P w) 1 (He.fAd K ("TurnState", some "__init__")) fd_TurnState_init ["self", "rest", "kept", "blocked", "stuck", "pending", "quick"] (spG ⟨K, mg, ci0⟩ 7 G_TurnState_init) := fn_bodyD F_TurnState_init sc_TurnState_init (ok_TurnState_init f_TurnState_rest f_TurnState_kept f_TurnState_blocked f_TurnState_stuck f_TurnState_pending f_Policy_quick f_TurnState_quick)
  have O_TurnState_as_tuple : FnOk P w K mg base (L2.CX P w) 1 (He.fAd K ("TurnState", some "as_tuple")) fd_TurnState_as_tuple ["self"] (spG ⟨K, mg, ci0⟩ 1 G_TurnState_as_tuple) := fn_bodyD F_TurnState_as_tuple sc_TurnState_as_tuple (ok_TurnState_as_tuple f_Policy_quick f_TurnState_quick f_TurnState_pending f_TurnState_stuck f_TurnState_blocked f_TurnState_kept f_TurnState_rest)
  have O_rules_of : FnOk P w K mg base (L2.CX P w) 1 (He.fAd K ("rules_of", none)) fd_rules_of ["setting", "speaker"] (spG ⟨K, mg, ci0⟩ 2 G_rules_of) := fn_bodyD F_rules_of sc_rules_of (ok_rules_of f_Setting_policies f_Policy_every f_Policy_hold f_Setting_size)
  have O_with_full : FnOk P w K mg base (L2.CX P w) 1 (He.fAd K ("with_full", none)) fd_with_full ["rules", "parts", "many"] (spG ⟨K, mg, ci0⟩ 3 G_with_full) := fn_bodyD F_with_full sc_with_full (ok_with_full z_min)
  have O_with_partial : FnOk P w K mg base (L2.CX P w) 1 (He.fAd K ("with_partial", none)) fd_with_partial ["rules", "parts"] (spG ⟨K, mg, ci0⟩ 2 G_with_partial) := fn_bodyD F_with_partial sc_with_partial (ok_with_partial )
  have z_divmod : mg "divmod" = none := He.free_ok X Gm b_35
  have c_with_full : NameC ci0 P w K mg base "with_full" 1 [] (posF 3 G_with_full) := Fx.name_ok X Gm b_36 F_with_full.kp (FnC.pos O_with_full (FunD.bindsN F_with_full fun _ _ _ _ _ _ us hl => match us, hl with | [_, _, _], _ => rfl))
  have c_with_partial : NameC ci0 P w K mg base "with_partial" 1 [] (posF 2 G_with_partial) := Fx.name_ok X Gm b_37 F_with_partial.kp (FnC.pos O_with_partial (FunD.bindsN F_with_partial fun _ _ _ _ _ _ us hl => match us, hl with | [_, _], _ => rfl))
  have O_after_write : FnOk P w K mg base (L2.CX P w) 2 (He.fAd K ("after_write", none)) fd_after_write ["rules", "parts", "length", "mode"] (spG ⟨K, mg, ci0⟩ 4 G_after_write) := fn_bodyD F_after_write sc_after_write (ok_after_write z_divmod c_with_full c_with_partial)
  have x_TurnState_as_tuple : MethC ci0 P w K mg base 2 "as_tuple" 1 [] (posF 1 G_TurnState_as_tuple) := Fx.meth_c X Gm (x := "TurnState") b_38 b_39 b_40 rfl (FnC.pos O_TurnState_as_tuple (FunD.bindsN F_TurnState_as_tuple fun _ _ _ _ _ _ us hl => match us, hl with | [_], _ => rfl))
  have c_rules_of : NameC ci0 P w K mg base "rules_of" 1 [] (posF 2 G_rules_of) := Fx.name_ok X Gm b_41 F_rules_of.kp (FnC.pos O_rules_of (FunD.bindsN F_rules_of fun _ _ _ _ _ _ us hl => match us, hl with | [_, _], _ => rfl))
  have c_after_write : NameC ci0 P w K mg base "after_write" 2 [] (posF 4 G_after_write) := Fx.name_ok X Gm b_42 F_after_write.kp (FnC.pos O_after_write (FunD.bindsN F_after_write fun _ _ _ _ _ _ us hl => match us, hl with | [_, _, _, _], _ => rfl))
  obtain ⟨its_TurnState_init_s7, mv_TurnState_init_s7, kb_TurnState_init_s7⟩ := kb_d (ps := ["self", "rest", "kept", "blocked", "stuck", "pending", "quick"]) F_TurnState_init 7 [] [] (by simp) fun T kV doc pm an cdv ct us its ws h1 h2 h3 => match us, h1, its, h2, ws, h3 with | [_, _, _, _, _, _, _], _, [_, _, _, _, _, _], _, [], _ => ⟨_, rfl, rfl⟩
  have m_TurnState_s7 : MakeC ci0 P w K mg base 2 1 [] (kwF 7 0 d_TurnState_init_s7 G_TurnState_init) := Fx.make_ok X Gm (x := "TurnState") b_38 b_43 rfl (FnC.kwS 7 O_TurnState_init kb_TurnState_init_s7 (fun bs H => .cons (.int 0) (.cons (.bl false) (.cons (.bl false) (.cons (.bl false) (.cons (.int 0) (.cons (.int 0) (.nil))))))) (fun bs H => .nil) (by decide +kernel) rfl)
  have O_written : FnOk P w K mg base (L2.CX P w) 3 (He.fAd K ("written", none)) fd_written ["setting", "speaker", "state", "length", "mode"] (spG ⟨K, mg, ci0⟩ 5 G_written) := fn_bodyD F_written sc_written (ok_written x_TurnState_as_tuple c_rules_of c_after_write m_TurnState_s7)
  have O_l_tell : FnOk P w K mg base (L2.CX P w) 1 (He.fAd K ("_law_tell", none)) fd_l_tell ["_law_state"] (spG ⟨K, mg, ci0⟩ 1 G_l_tell) := fn_bodyD F_l_tell sc_l_tell (ok_l_tell f_Policy_quick f_TurnState_quick f_TurnState_pending f_TurnState_stuck f_TurnState_blocked f_TurnState_kept f_TurnState_rest)
  have O_l_sent : FnOk P w K mg base (L2.CX P w) 1 (He.fAd K ("_law_sent", none)) fd_l_sent ["_law_fulls", "_law_soon", "_law_behind", "_law_some"] (spG ⟨K, mg, ci0⟩ 4 G_l_sent) := fn_bodyD F_l_sent sc_l_sent (ok_l_sent z_min z_int z_max)
  have c_l_sent : NameC ci0 P w K mg base "_law_sent" 1 [] (posF 4 G_l_sent) := Fx.name_ok X Gm b_44 F_l_sent.kp (FnC.pos O_l_sent (FunD.bindsN F_l_sent fun _ _ _ _ _ _ us hl => match us, hl with | [_, _, _, _], _ => rfl))
  have O_l_first_due : FnOk P w K mg base (L2.CX P w) 2 (He.fAd K ("_law_first_due", none)) fd_l_first_due ["_law_width", "_law_mine", "_law_other", "_law_length"] (spG ⟨K, mg, ci0⟩ 4 G_l_first_due) := fn_bodyD F_l_first_due sc_l_first_due (ok_l_first_due z_int c_l_sent)
  have O_l_second_due : FnOk P w K mg base (L2.CX P w) 2 (He.fAd K ("_law_second_due", none)) fd_l_second_due ["_law_width", "_law_other", "_law_state", "_law_length"] (spG ⟨K, mg, ci0⟩ 4 G_l_second_due) := fn_bodyD F_l_second_due sc_l_second_due (ok_l_second_due f_TurnState_rest f_TurnState_pending f_Policy_quick f_TurnState_quick c_l_sent z_int)
  have O_after_clearing : FnOk P w K mg base (L2.CX P w) 2 (He.fAd K ("after_clearing", none)) fd_after_clearing ["rules", "parts"] (spG ⟨K, mg, ci0⟩ 2 G_after_clearing) := fn_bodyD F_after_clearing sc_after_clearing (ok_after_clearing c_with_partial)
  have c_after_clearing : NameC ci0 P w K mg base "after_clearing" 2 [] (posF 2 G_after_clearing) := Fx.name_ok X Gm b_45 F_after_clearing.kp (FnC.pos O_after_clearing (FunD.bindsN F_after_clearing fun _ _ _ _ _ _ us hl => match us, hl with | [_, _], _ => rfl))
  have O_cleared : FnOk P w K mg base (L2.CX P w) 3 (He.fAd K ("cleared", none)) fd_cleared ["setting", "speaker", "state"] (spG ⟨K, mg, ci0⟩ 3 G_cleared) := fn_bodyD F_cleared sc_cleared (ok_cleared x_TurnState_as_tuple c_rules_of c_after_clearing m_TurnState_s7)
  have i_TurnState : IsiC ci0 K mg 2 [0, 1, 2] := Fx.isiC_ok X Gm (x := "TurnState") b_38 rfl b_46
  have O_TurnState_eq : FnOk P w K mg base (L2.CX P w) 2 (He.fAd K ("TurnState", some "__eq__")) fd_TurnState_eq ["self", "other"] (spG ⟨K, mg, ci0⟩ 2 G_TurnState_eq) := fn_bodyD F_TurnState_eq sc_TurnState_eq (ok_TurnState_eq z_isinstance i_TurnState x_TurnState_as_tuple)
  have z_range : mg "range" = none := He.free_ok X Gm b_47
  have c_l_bag : NameC ci0 P w K mg base "_law_bag" 1 [] (posF 2 G_l_bag) := Fx.name_ok X Gm b_48 F_l_bag.kp (FnC.pos O_l_bag (FunD.bindsN F_l_bag fun _ _ _ _ _ _ us hl => match us, hl with | [_, _], _ => rfl))
  have c_l_setting : NameC ci0 P w K mg base "_law_setting" 7 [] (posF 2 G_l_setting) := Fx.name_ok X Gm b_49 F_l_setting.kp (FnC.pos O_l_setting (FunD.bindsN F_l_setting fun _ _ _ _ _ _ us hl => match us, hl with | [_, _], _ => rfl))
  have c_l_values : NameC ci0 P w K mg base "_law_values" 2 [] (posF 2 G_l_values) := Fx.name_ok X Gm b_50 F_l_values.kp (FnC.pos O_l_values (FunD.bindsN F_l_values fun _ _ _ _ _ _ us hl => match us, hl with | [_, _], _ => rfl))
  obtain ⟨its_TurnState_init_s1_quick, mv_TurnState_init_s1_quick, kb_TurnState_init_s1_quick⟩ := kb_d (ps := ["self", "rest", "kept", "blocked", "stuck", "pending", "quick"]) F_TurnState_init 1 ["quick"] [.d 0, .d 1, .d 2, .d 3, .d 4, .k 0] (by simp) fun T kV doc pm an cdv ct us its ws h1 h2 h3 => match us, h1, its, h2, ws, h3 with | [_], _, [_, _, _, _, _, _], _, [_], _ => ⟨_, rfl, rfl⟩
  have m_TurnState_s1_quick : MakeC ci0 P w K mg base 2 1 ["quick"] (kwF 1 1 d_TurnState_init_s1_quick G_TurnState_init) := Fx.make_ok X Gm (x := "TurnState") b_38 b_43 rfl (FnC.kwS 1 O_TurnState_init kb_TurnState_init_s1_quick (fun bs H => .cons (.int 0) (.cons (.bl false) (.cons (.bl false) (.cons (.bl false) (.cons (.int 0) (.cons (.int 0) (.nil))))))) (fun bs H => .nil) (by decide +kernel) rfl)
  obtain ⟨its_written_s4, mv_written_s4, kb_written_s4⟩ := kb_d (ps := ["setting", "speaker", "state", "length", "mode"]) F_written 4 [] [.d 0] (by simp) fun T kV doc pm an cdv ct us its ws h1 h2 h3 => match us, h1, its, h2, ws, h3 with | [_, _, _, _], _, [_], _, [], _ => ⟨_, rfl, rfl⟩
  have c_written_s4 : NameC ci0 P w K mg base "written" 3 [] (kwF 4 0 d_written_s4 G_written) := Fx.name_ok X Gm b_51 F_written.kp (FnC.kwS 4 O_written kb_written_s4 (fun bs H => .cons (.str (by decide +kernel)) (.nil)) (fun bs H => .nil) (by decide +kernel) rfl)
  have c_l_tell : NameC ci0 P w K mg base "_law_tell" 1 [] (posF 1 G_l_tell) := Fx.name_ok X Gm b_52 F_l_tell.kp (FnC.pos O_l_tell (FunD.bindsN F_l_tell fun _ _ _ _ _ _ us hl => match us, hl with | [_], _ => rfl))
  have c_l_first_due : NameC ci0 P w K mg base "_law_first_due" 2 [] (posF 4 G_l_first_due) := Fx.name_ok X Gm b_53 F_l_first_due.kp (FnC.pos O_l_first_due (FunD.bindsN F_l_first_due fun _ _ _ _ _ _ us hl => match us, hl with | [_, _, _, _], _ => rfl))
  have c_l_second_due : NameC ci0 P w K mg base "_law_second_due" 2 [] (posF 4 G_l_second_due) := Fx.name_ok X Gm b_54 F_l_second_due.kp (FnC.pos O_l_second_due (FunD.bindsN F_l_second_due fun _ _ _ _ _ _ us hl => match us, hl with | [_, _, _, _], _ => rfl))
  have c_cleared : NameC ci0 P w K mg base "cleared" 3 [] (posF 3 G_cleared) := Fx.name_ok X Gm b_55 F_cleared.kp (FnC.pos O_cleared (FunD.bindsN F_cleared fun _ _ _ _ _ _ us hl => match us, hl with | [_, _, _], _ => rfl))
  have q_TurnState : EqC ci0 P w K mg base 2 2 (posF 2 G_TurnState_eq) := Fx.eq_ok X Gm (x := "TurnState") b_38 b_56 rfl (FnC.pos O_TurnState_eq (FunD.bindsN F_TurnState_eq fun _ _ _ _ _ _ us hl => match us, hl with | [_, _], _ => rfl))
  have O_law : FnOk P w K mg base (L2.CX P w) 8 (He.fAd K ("law", none)) fd_law ["_law_script"] (spG ⟨K, mg, ci0⟩ 1 G_law) := fn_bodyD F_law sc_law (ok_law z_len z_min z_max z_range c_l_bag c_l_take c_l_setting c_l_values m_TurnState_s1_quick c_written_s4 c_l_tell c_l_first_due f_TurnState_rest c_l_second_due c_cleared f_TurnState_kept q_TurnState)
  exact O_law
end Ev
set_option Elab.async false
set_option linter.all false
set_option maxRecDepth 100000
set_option maxHeartbeats 4000000
namespace Ev
open PySem PySem.Spec PyProof.Rows L2
def loose0 : List PySem.Str := ["_wall", "TurnState", "rules_of", "with_full", "with_partial", "after_write", "after_clearing", "written", "cleared", "LatewordsError", "BadSetting", "MOST_EVERY", "MOST_QUICK", "MOST_SIZE", "is_integer", "in_range", "Policy", "Setting", "_law_bag", "_law_take", "_law_setting", "_law_values", "_law_sent", "_law_first_due", "_law_tell", "_law_second_due"]
def loose : List PySem.Str := loose0
abbrev RR : PySem.W.OpenRow := PySem.W.OpenLaw.row PySem.Challenge.rw_latewords_k08_states_of_great_lengths
abbrev hk : PySem.W.Hook := Fx.hookZ 6 fn fs
def ob (s : PySem.W.SharedT) : Fx.AlZ := Fx.obsZ 6 fn fs (HandSHeadRun.getT s)
theorem ob_eq (s : PySem.W.SharedT) : ob s = hk.obs s.abs := Fx.obsZ_eq (HandSHeadRun.getT_eq s)
set_option maxHeartbeats 0 in
theorem run (w : World) : HandSHeadRun.RunEq RR (PySem.W.view RR.prog [30]) hk ob 4000 loose w := by
  intro os
  kernel_rfl
end Ev
set_option Elab.async false
set_option linter.all false
set_option maxRecDepth 100000
set_option maxHeartbeats 4000000
namespace Ev
open PySem L2
/-! ### cells -/
@[simp] theorem cellL_set {h : Hs} {n : Nat} {xs : List D} (e : n < h.length) : cellL (h.set n (.lst xs)) n = some xs := by
  unfold cellL
  simp [e]
theorem cellL_lt {h : Hs} {n : Nat} {xs : List D} (e : cellL h n = some xs) : n < h.length := by
  have := cellL_ok e
  exact (List.getElem?_eq_some_iff.mp this).1
theorem ixD_ref {h : Hs} {n : Nat} {xs : List D} {k : Int} (e : cellL h n = some xs) : ixD (.ref n) (.int k) h = match atI xs k with
  | some d => .ok d h
  | none => .bad := by
  show (match rdL h (.ref n) with
    | some xs => (match atI xs k with
      | some d => R.ok d h
      | none => .bad)
    | none => .bad) = _
  rw [show rdL h (.ref n) = cellL h n from rfl, e]
theorem setIx_ref {h : Hs} {n : Nat} {xs : List D} {k : Int} {j : Nat} {z : D} (e : cellL h n = some xs) (e2 : ixN xs.length k = some j) : setIx (.ref n) (.int k) z h = some (h.set n (.lst (xs.set j z))) := by
  unfold setIx
  simp [e, e2]
/-! ### the bag -/
structure BagS where
  a : Int
  b : Int
  c : Int
def BagS.o (s : BagS) : O := .lst [.int s.a, .int s.b, .int s.c]
structure BagS.Ok (s : BagS) (k : Int) : Prop where
  a0 : 0 ≤ s.a
  b0 : 0 ≤ s.b
  b1 : s.b < 4611686018427387904
  c0 : 0 ≤ s.c
  c1 : s.c ≤ k
def Bag (k : Int) (h : Hs) (n : Nat) : Prop := ∃ s : BagS, h[n]? = some s.o ∧ s.Ok k
theorem bag_cell {h : Hs} {n : Nat} {s : BagS} (e : h[n]? = some s.o) : cellL h n = some [.int s.a, .int s.b, .int s.c] := by
  unfold cellL
  rw [e]
  rfl
theorem bag_set {h : Hs} {n : Nat} {s t : BagS} (e : h[n]? = some s.o) : (h.set n t.o)[n]? = some t.o := by
  have := (List.getElem?_eq_some_iff.mp e).1
  simp [this]
noncomputable def takeC : En → Hs → R Bool := eTest (eBin ltD (eVar 4) (eVar 1))
noncomputable def takeB : En → Hs → S := (sCons (sSetIx (eVar 0) (eC (.int 2)) (eBin addD (eBin ixD (eVar 0) (eC (.int 2))) (eC (.int 1))))
 (sCons (sSetIx (eVar 0) (eC (.int 1)) (eBin modD (eCall intTD (aCons (eBin addD (eBin addD (eBin mulD (eBin ixD (eVar 0) (eC (.int 1))) (eC (.int 40014))) (eBin mulD (eBin mulD (eC (.int 7919)) (eBin ixD (eVar 0) (eC (.int 2)))) (eBin ixD (eVar 0) (eC (.int 2))))) (eC (.int 83))) aNil)) (eC (.int 2147483563))))
 (sCons (sAsg (eBin modD (eCall intTD (aCons (eBin mulD (eBin fdivD (eBin ixD (eVar 0) (eC (.int 1))) (eC (.int 7))) (eBin addD (eBin fdivD (eBin ixD (eVar 0) (eC (.int 1))) (eC (.int 131))) (eBin ixD (eVar 0) (eC (.int 2))))) aNil)) (eC (.int 2147483399))) (kName 5))
 (sCons (sAsg (eBin addD (eBin mulD (eVar 3) (eC (.int 33554432))) (eBin modD (eCall intTD (aCons (eBin fdivD (eVar 5) (eC (.int 64))) aNil)) (eC (.int 33554432)))) (kName 3))
 (sAsg (eBin mulD (eVar 4) (eC (.int 33554432))) (kName 4))))))
theorem take_body {h : Hs} {n : Nat} {s : BagS} {k many found reach : Int} {x2 x5 : Option D} (e : h[n]? = some s.o) (ok : s.Ok k) (hk : k < 1152921504606846976) (hf : 0 ≤ found) :
    ∃ (t : BagS) (found' : Int) (y : Int), takeB [some (.ref n), some (.int many), x2, some (.int found), some (.int reach), x5] h = .nx [some (.ref n), some (.int many), x2, some (.int found'), some (.int (reach * 33554432)), some (.int y)] (h.set n t.o) ∧ t.Ok (k + 1) ∧ 0 ≤ found' := by
  obtain ⟨a0, b0, b1, c0, c1⟩ := ok
  have hl : n < h.length := (List.getElem?_eq_some_iff.mp e).1
  have e1 := bag_cell e
  let b' : Int := (s.b * 40014 + 7919 * (s.c + 1) * (s.c + 1) + 83) % 2147483563
  let y : Int := (b' / 7 * (b' / 131 + (s.c + 1))) % 2147483399
  have hb0 : 0 ≤ b' := Int.emod_nonneg _ (by decide)
  have hb1 : b' < 2147483563 := Int.emod_lt_of_pos _ (by decide)
  have st1 : (h.set n (.lst [.int s.a, .int s.b, .int (s.c + 1)]))[n]? = some (BagS.mk s.a s.b (s.c + 1)).o := by simp [hl, BagS.o]
  have e2 := bag_cell st1
  have st2 : (h.set n (.lst [.int s.a, .int b', .int (s.c + 1)]))[n]? = some (BagS.mk s.a b' (s.c + 1)).o := by simp [hl, BagS.o]
  have e3 := bag_cell st2
  refine ⟨⟨s.a, b', s.c + 1⟩, found * 33554432 + y / 64 % 33554432, y, ?_, ⟨a0, hb0, by show b' < _; omega, by show 0 ≤ s.c + 1; omega, by show s.c + 1 ≤ k + 1; omega⟩, ?_⟩
  · have m1 : mulD (.int s.b) (.int 40014) (h.set n (.lst [.int s.a, .int s.b, .int (s.c + 1)])) = .ok (.int (s.b * 40014)) _ := mul_r (by decide) (by decide)
    have m2 : mulD (.int 7919) (.int (s.c + 1)) (h.set n (.lst [.int s.a, .int s.b, .int (s.c + 1)])) = .ok (.int (7919 * (s.c + 1))) _ := mul_l (by decide) (by decide)
    have m3 : mulD (.int (7919 * (s.c + 1))) (.int (s.c + 1)) (h.set n (.lst [.int s.a, .int s.b, .int (s.c + 1)])) = .ok (.int (7919 * (s.c + 1) * (s.c + 1))) _ := mul_r (by omega) (by omega)
    have m4 : mulD (.int (b' / 7)) (.int (b' / 131 + (s.c + 1))) (h.set n (.lst [.int s.a, .int b', .int (s.c + 1)])) = .ok (.int (b' / 7 * (b' / 131 + (s.c + 1)))) _ := mul_l (by omega) (by omega)
    have m5 : ∀ h', mulD (.int found) (.int 33554432) h' = .ok (.int (found * 33554432)) h' := fun h' => mul_r (by decide) (by decide)
    have m6 : ∀ h', mulD (.int reach) (.int 33554432) h' = .ok (.int (reach * 33554432)) h' := fun h' => mul_r (by decide) (by decide)
    have d1 : ∀ (x : Int) h', fdivD (.int x) (.int 7) h' = .ok (.int (x / 7)) h' := fun x h' => fdiv_sm (by decide) (by decide)
    have d2 : ∀ (x : Int) h', fdivD (.int x) (.int 131) h' = .ok (.int (x / 131)) h' := fun x h' => fdiv_sm (by decide) (by decide)
    have d3 : ∀ (x : Int) h', fdivD (.int x) (.int 64) h' = .ok (.int (x / 64)) h' := fun x h' => fdiv_sm (by decide) (by decide)
    have q1 : ∀ (x : Int) h', modD (.int x) (.int 2147483563) h' = .ok (.int (x % 2147483563)) h' := fun x h' => mod_ok (by decide)
    have q2 : ∀ (x : Int) h', modD (.int x) (.int 2147483399) h' = .ok (.int (x % 2147483399)) h' := fun x h' => mod_ok (by decide)
    have q3 : ∀ (x : Int) h', modD (.int x) (.int 33554432) h' = .ok (.int (x % 33554432)) h' := fun x h' => mod_ok (by decide)
    have w1 : setIx (.ref n) (.int 2) (.int (s.c + 1)) h = some (h.set n (.lst [.int s.a, .int s.b, .int (s.c + 1)])) := setIx_ref e1 (j := 2) rfl
    have w2 : setIx (.ref n) (.int 1) (.int b') (h.set n (.lst [.int s.a, .int s.b, .int (s.c + 1)])) = some (h.set n (.lst [.int s.a, .int b', .int (s.c + 1)])) := by
      rw [setIx_ref e2 (j := 1) rfl]
      simp
    have w1' := w1
    have w2' := w2
    unfold takeB
    simp only [sCons_ap, sSetIx_ap, eBin_ap, eVar_ap, eC_ap, List.getElem?_cons_zero, List.getElem?_cons_succ, R.bind_ok, ixD_ref e1, atI_2, addD_int, R.toS_ok, w1, S.seq_nx, ixD_ref e2, atI_1, m1, m2, m3, eCall_ap, aCons_ap, aNil_ap, intTD_int, q1,
      sAsg_ap, kName_ap]
    rw [show (s.b * 40014 + 7919 * (s.c + 1) * (s.c + 1) + 83) % 2147483563 = b' from rfl, w2]
    simp only [S.seq_nx, sCons_ap, sAsg_ap, eBin_ap, eVar_ap, eC_ap, List.getElem?_cons_zero, List.getElem?_cons_succ, R.bind_ok, ixD_ref e3, atI_1, atI_2, d1, d2, d3, addD_int, m4, eCall_ap, aCons_ap, aNil_ap, intTD_int, q2, R.toS_ok, kName_ap, List.set_cons_zero, List.set_cons_succ, m5, q3, m6]
    rfl
  · have := Int.emod_nonneg (y / 64) (show (33554432 : Int) ≠ 0 by decide)
    omega
theorem take_loop {n : Nat} {many : Int} {x2 : Option D} : ∀ (j : Nat) {h : Hs} {s : BagS} {k found reach : Int} {x5 : Option D}, h[n]? = some s.o → s.Ok k → k + j < 1152921504606846976 → 0 ≤ found → 0 < reach → many ≤ reach * 33554432 ^ j →
    ∃ (t : BagS) (found' reach' : Int) (y : Option D), sWhile takeC takeB [some (.ref n), some (.int many), x2, some (.int found), some (.int reach), x5] h = .nx [some (.ref n), some (.int many), x2, some (.int found'), some (.int reach'), y] (h.set n t.o) ∧ t.Ok (k + j) ∧ 0 ≤ found'
  | 0, h, s, k, found, reach, x5, e, ok, hk, hf, hr, hm => by
    refine ⟨s, found, reach, x5, ?_, by simpa using ok, hf⟩
    rw [sWhile_unroll]
    have hlt : ¬ reach < many := by simp at hm; omega
    have hs : h.set n s.o = h := by
      obtain ⟨hl, e'⟩ := List.getElem?_eq_some_iff.mp e
      rw [← e']; simp
    rw [hs]
    simp [takeC, hlt]
  | j + 1, h, s, k, found, reach, x5, e, ok, hk, hf, hr, hm => by
    by_cases hlt : reach < many
    · obtain ⟨t, f1, y1, h1, h2, h3⟩ := take_body (x2 := x2) (x5 := x5) (many := many) (reach := reach) e ok (by push_cast at hk; omega) hf
      obtain ⟨t2, f2, r2, y2, h4, h5, h6⟩ := take_loop j (h := h.set n t.o) (s := t) (k := k + 1) (found := f1) (reach := reach * 33554432) (x5 := some (.int y1)) (x2 := x2) (many := many) (bag_set e) h2 (by push_cast at hk; omega) h3 (by omega) (by
        rw [Int.pow_succ, Int.mul_comm (33554432 ^ j) 33554432, ← Int.mul_assoc] at hm; exact hm)
      refine ⟨t2, f2, r2, y2, ?_, by push_cast; rw [show k + ((j : Int) + 1) = k + 1 + j by omega]; exact h5, h6⟩
      rw [sWhile_unroll]
      have hc : takeC [some (.ref n), some (.int many), x2, some (.int found), some (.int reach), x5] h = .ok true h := by simp [takeC, hlt]
      rw [hc, R.toS_ok, if_pos rfl, h1]
      dsimp only
      rw [h4, List.set_set]
    · refine ⟨s, found, reach, x5, ?_, ⟨ok.a0, ok.b0, ok.b1, ok.c0, by have := ok.c1; push_cast; omega⟩, hf⟩
      have hs : h.set n s.o = h := by
        obtain ⟨hl, e'⟩ := List.getElem?_eq_some_iff.mp e
        rw [← e']; simp
      rw [sWhile_unroll, hs]
      simp [takeC, hlt]
/-- one number drawn -/
theorem take_ok {n : Nat} {many k : Int} {h : Hs} (hb : Bag k h n) (hk : k < 1152921504606846970) (h0 : 0 < many) (h1 : many ≤ 37778931862957161709568) :
    ∃ (r : Int) (t : BagS), G_l_take [.ref n, .int many] h = .ok (.int r) (h.set n t.o) ∧ 0 ≤ r ∧ r < many ∧ Bag (k + 3) (h.set n t.o) n := by
  obtain ⟨s, e, ok⟩ := hb
  have e1 := bag_cell e
  have hl : n < h.length := (List.getElem?_eq_some_iff.mp e).1
  by_cases ha : 0 < s.a
  · refine ⟨s.a % many, ⟨s.a / many, s.b, s.c⟩, ?_, Int.emod_nonneg _ (by omega), Int.emod_lt_of_pos _ h0, ⟨_, bag_set e, ⟨Int.ediv_nonneg ok.a0 (by omega), ok.b0, ok.b1, ok.c0, by show s.c ≤ k + 3; have := ok.c1; omega⟩⟩⟩
    refine runB_ret ?_
    have w1 : setIx (.ref n) (.int 0) (.int (s.a / many)) h = some (h.set n (BagS.mk (s.a / many) s.b s.c).o) := setIx_ref e1 (j := 0) rfl
    have f1 : fdivD (.int s.a) (.int many) h = .ok (.int (s.a / many)) h := fdiv_ok h0 (Int.lt_of_le_of_lt h1 (by decide +kernel))
    simp [b_l_take, ixD_ref e1, ha, mod_ok h0, f1, w1]
  · obtain ⟨t, f', r', y, g1, g2, g3⟩ := take_loop (n := n) (many := many) (x2 := none) 3 (h := h) (s := s) (k := k) (found := 0) (reach := 1) (x5 := none) e ok (by push_cast; omega) (Int.le_refl _) (by decide) (by omega)
    refine ⟨f' % many, t, ?_, Int.emod_nonneg _ (by omega), Int.emod_lt_of_pos _ h0, ⟨t, bag_set e, g2⟩⟩
    refine runB_ret ?_
    have g1' : sWhile takeC takeB [some (.ref n), some (.int many), none, some (.int 0), some (.int 1), none] h = _ := g1
    unfold takeC takeB at g1'
    simp [b_l_take, ixD_ref e1, ha, big, g1', mod_ok h0]
end Ev
set_option Elab.async false
set_option linter.all false
set_option maxRecDepth 100000
set_option maxHeartbeats 4000000
namespace Ev
open PySem L2
inductive Hold where
  | off | part | all
deriving DecidableEq
def Hold.s : Hold → Str
  | .off => "off"
  | .part => "partial"
  | .all => "all"
@[simp] theorem hs_off (x : Hold) : (x.s = Str.ofString "off") = (x = .off) := by cases x <;> decide +kernel
@[simp] theorem hs_part (x : Hold) : (x.s = Str.ofString "partial") = (x = .part) := by cases x <;> decide +kernel
@[simp] theorem hs_all (x : Hold) : (x.s = Str.ofString "all") = (x = .all) := by cases x <;> decide +kernel
structure Pt where
  rest : Int
  kept : Bool
  blocked : Bool
  stuck : Bool
  pending : Int
  quick : Int
def Pt.l (p : Pt) : List D := [.int p.rest, .bl p.kept, .bl p.blocked, .bl p.stuck, .int p.pending, .int p.quick]
abbrev Pt.d (p : Pt) : D := .tup p.l
abbrev Pt.o (p : Pt) : D := .obj 2 p.l
structure Rl where
  size : Int
  hold : Hold
  every : Int
def Rl.d (r : Rl) : D := .tup [.int r.size, .str r.hold.s, .int r.every]
def partialP (r : Rl) (p : Pt) : Pt × Int := if 0 < p.quick then (⟨0, false, !decide (r.hold = .off), false, 0, p.quick - 1⟩, 1) else (⟨0, false, !decide (r.hold = .off), !decide (r.hold = .off), p.pending, 0⟩, 0)
theorem with_partial_eq (r : Rl) (p : Pt) (h : Hs) : G_with_partial [r.d, p.d] h = .ok (.tup [(partialP r p).1.d, .int (partialP r p).2]) h := by
  by_cases hq : 0 < p.quick <;> simp [G_with_partial, b_with_partial, runB, big, hq, Rl.d, Pt.l, partialP]
def soonP (p : Pt) (many : Int) : Int := if many < p.quick then many else p.quick
def pend0P (p : Pt) (many : Int) : Int := if 0 < soonP p many then 0 else p.pending
def pendP (r : Rl) (p : Pt) (many : Int) : Int := if 0 < r.every then (pend0P p many + (many - soonP p many)) % r.every else pend0P p many
def toldP (r : Rl) (p : Pt) (many : Int) : Int := if 0 < r.every then soonP p many + (pend0P p many + (many - soonP p many)) / r.every else soonP p many
def stuckP (r : Rl) (p : Pt) (many : Int) : Bool := match r.hold with
  | .all => decide (soonP p many < many) && (decide (r.every = 0) || decide (0 < pendP r p many))
  | .part => p.stuck && decide (toldP r p many = 0)
  | .off => p.stuck
def fullP (r : Rl) (p : Pt) (many : Int) : Pt × Int := if many = 0 then (p, 0) else (⟨p.rest, p.kept, p.blocked || decide (r.hold = .all), stuckP r p many, pendP r p many, p.quick - soonP p many⟩, toldP r p many)
theorem with_full_eq (r : Rl) (p : Pt) (many : Int) (h : Hs) (he : r.every < 18446744073709551616) : G_with_full [r.d, p.d, .int many] h = .ok (.tup [(fullP r p many).1.d, .int (fullP r p many).2]) h := by
  by_cases hm : many = 0
  · simp [G_with_full, b_with_full, runB, big, hm, Rl.d, Pt.l, fullP]
  · obtain ⟨rest, kept, blocked, stuck, pending, quick⟩ := p
    obtain ⟨size, hold, every⟩ := r
    have s1 : (Str.ofString "all" = Str.ofString "partial") = False := by decide +kernel
    have s2 : (Str.ofString "partial" = Str.ofString "all") = False := by decide +kernel
    have s3 : (Str.ofString "off" = Str.ofString "all") = False := by decide +kernel
    have s4 : (Str.ofString "off" = Str.ofString "partial") = False := by decide +kernel
    simp only at he
    by_cases h1 : 0 < every
    · cases hold
      · simp [G_with_full, b_with_full, runB, big, hm, h1, mod_ok h1, fdiv_sm h1 he, Rl.d, Pt.l, Hold.s, fullP, stuckP, pendP, pend0P, toldP, soonP, s1, s2, s3, s4]
      · cases stuck <;> simp [G_with_full, b_with_full, runB, big, hm, h1, mod_ok h1, fdiv_sm h1 he, Rl.d, Pt.l, Hold.s, fullP, stuckP, pendP, pend0P, toldP, soonP, s1, s2, s3, s4]
      · by_cases h2 : (if many < quick then many else quick) < many
        · by_cases h3 : every = 0
          · omega
          · simp [G_with_full, b_with_full, runB, big, hm, h1, mod_ok h1, fdiv_sm h1 he, Rl.d, Pt.l, Hold.s, fullP, stuckP, pendP, pend0P, toldP, soonP, s1, s2, s3, s4, h2, h3]
        · simp [G_with_full, b_with_full, runB, big, hm, h1, mod_ok h1, fdiv_sm h1 he, Rl.d, Pt.l, Hold.s, fullP, stuckP, pendP, pend0P, toldP, soonP, s1, s2, s3, s4, h2]
    · cases hold
      · simp [G_with_full, b_with_full, runB, big, hm, h1, Rl.d, Pt.l, Hold.s, fullP, stuckP, pendP, pend0P, toldP, soonP, s1, s2, s3, s4]
      · cases stuck <;> simp [G_with_full, b_with_full, runB, big, hm, h1, Rl.d, Pt.l, Hold.s, fullP, stuckP, pendP, pend0P, toldP, soonP, s1, s2, s3, s4]
      · by_cases h2 : (if many < quick then many else quick) < many
        · by_cases h3 : every = 0
          · simp [G_with_full, b_with_full, runB, big, hm, h1, Rl.d, Pt.l, Hold.s, fullP, stuckP, pendP, pend0P, toldP, soonP, s1, s2, s3, s4, h2, h3]
          · simp [G_with_full, b_with_full, runB, big, hm, h1, Rl.d, Pt.l, Hold.s, fullP, stuckP, pendP, pend0P, toldP, soonP, s1, s2, s3, s4, h2, h3]
        · simp [G_with_full, b_with_full, runB, big, hm, h1, Rl.d, Pt.l, Hold.s, fullP, stuckP, pendP, pend0P, toldP, soonP, s1, s2, s3, s4, h2]
end Ev
set_option Elab.async false
set_option linter.all false
set_option maxRecDepth 100000
set_option maxHeartbeats 4000000
namespace Ev
open PySem L2
theorem sIx_nat {n d k : Nat} (hk : k ≤ n) : HT.sIx n d (some (k : Int)) = k := by
  unfold HT.sIx
  simp
  rw [if_neg (by omega)]
  omega
theorem cutD_from {xs : List D} {k : Nat} (hk : k ≤ xs.length) : cutD xs (some (k : Int)) none = xs.drop k := by
  unfold cutD
  rw [sIx_nat hk, show HT.sIx xs.length xs.length none = xs.length from rfl]
  apply List.take_of_length_le
  simp
theorem cutD_to {xs : List D} {k : Nat} (hk : k ≤ xs.length) : cutD xs none (some (k : Int)) = xs.take k := by
  unfold cutD
  rw [sIx_nat hk, show HT.sIx xs.length 0 none = 0 from rfl]
  simp
theorem cut2 {a b c d e f : D} : cutD [a, b, c, d, e, f] (some 2) none = [c, d, e, f] := cutD_from (k := 2) (by simp)
theorem cut4 {a b c d e f : D} : cutD [a, b, c, d, e, f] (some 4) none = [e, f] := cutD_from (k := 4) (by simp)
theorem cutTo2 {a b c d e f : D} : cutD [a, b, c, d, e, f] none (some 2) = [a, b] := cutD_to (k := 2) (by simp)
inductive Mode where
  | plain | more | push
deriving DecidableEq
def Mode.s : Mode → Str
  | .plain => "plain"
  | .more => "more"
  | .push => "push"
@[simp] theorem ms_plain (x : Mode) : (x.s = Str.ofString "plain") = (x = .plain) := by cases x <;> decide +kernel
@[simp] theorem ms_more (x : Mode) : (x.s = Str.ofString "more") = (x = .more) := by cases x <;> decide +kernel
@[simp] theorem ms_push (x : Mode) : (x.s = Str.ofString "push") = (x = .push) := by cases x <;> decide +kernel
def fullW (r : Rl) (p : Pt) (length : Int) : Pt × Int := fullP r ⟨(p.rest + length) % r.size, false, p.blocked, p.stuck, p.pending, p.quick⟩ ((p.rest + length) / r.size)
def writeA (r : Rl) (p : Pt) (length : Int) (m : Mode) : Pt × Int × Int :=
  if 0 < (p.rest + length) % r.size ∧ m = .more then (⟨(p.rest + length) % r.size, true, (fullW r p length).1.blocked, (fullW r p length).1.stuck, (fullW r p length).1.pending, (fullW r p length).1.quick⟩, (p.rest + length) / r.size, (fullW r p length).2)
  else if 0 < (p.rest + length) % r.size ∧ (m = .push ∨ (fullW r p length).1.blocked = false) then ((partialP r (fullW r p length).1).1, (p.rest + length) / r.size + 1, (fullW r p length).2 + (partialP r (fullW r p length).1).2)
  else ((fullW r p length).1, (p.rest + length) / r.size, (fullW r p length).2)
theorem after_write_eq (r : Rl) (p : Pt) (length : Int) (m : Mode) (h : Hs) (h0 : 0 < r.size) (h1 : r.size < 18446744073709551616) (he : r.every < 18446744073709551616) :
    G_after_write [r.d, p.d, .int length, .str m.s] h = .ok (.tup [(writeA r p length m).1.d, .int (writeA r p length m).2.1, .int (writeA r p length m).2.2]) h := by
  have dm : divmodD [.int (p.rest + length), .int r.size] h = .ok (.tup [.int ((p.rest + length) / r.size), .int ((p.rest + length) % r.size)]) h := divmod_ok h0 (Int.lt_trans h1 (by decide +kernel))
  have ef : G_with_full [r.d, _, _] h = .ok (.tup [(fullW r p length).1.d, .int (fullW r p length).2]) h := with_full_eq r ⟨(p.rest + length) % r.size, false, p.blocked, p.stuck, p.pending, p.quick⟩ ((p.rest + length) / r.size) h he
  have ep := with_partial_eq r (fullW r p length).1 h
  unfold writeA
  refine runB_ret ?_
  generalize fullW r p length = q at ef ep ⊢
  obtain ⟨⟨q1, q2, q3, q4, q5, q6⟩, q7⟩ := q
  simp only [Rl.d, Pt.d, Pt.l] at ef ep ⊢
  by_cases hr : 0 < (p.rest + length) % r.size
  · cases m <;> cases q3 <;> simp [b_after_write, cut2, dm, big, ef, ep, hr, Mode.s, ← ms_more, ← ms_push, show (Str.ofString "plain" = Str.ofString "more") = False by decide +kernel, show (Str.ofString "plain" = Str.ofString "push") = False by decide +kernel, show (Str.ofString "more" = Str.ofString "push") = False by decide +kernel, show (Str.ofString "push" = Str.ofString "more") = False by decide +kernel]
  · simp [b_after_write, cut2, dm, big, ef, hr]
/-! clearing -/
def clearA (r : Rl) (p : Pt) : Pt × Int × Int := if p.blocked = false ∨ p.stuck = true then (p, 0, 0) else if p.rest = 0 ∨ p.kept = true then (⟨p.rest, p.kept, false, false, p.pending, p.quick⟩, 0, 0) else ((partialP r ⟨p.rest, p.kept, false, false, p.pending, p.quick⟩).1, 1, (partialP r ⟨p.rest, p.kept, false, false, p.pending, p.quick⟩).2)
theorem after_clearing_eq (r : Rl) (p : Pt) (h : Hs) : G_after_clearing [r.d, p.d] h = .ok (.tup [(clearA r p).1.d, .int (clearA r p).2.1, .int (clearA r p).2.2]) h := by
  obtain ⟨rest, kept, blocked, stuck, pending, quick⟩ := p
  have ep := with_partial_eq r ⟨rest, kept, false, false, pending, quick⟩ h
  unfold clearA
  refine runB_ret ?_
  simp only [Rl.d, Pt.d, Pt.l] at ep ⊢
  cases blocked <;> cases stuck <;> cases kept <;> by_cases h0 : rest = 0 <;> simp [b_after_clearing, cut2, cut4, cutTo2, big, h0] <;> simp [ep, big]
end Ev
set_option Elab.async false
set_option linter.all false
set_option maxRecDepth 100000
set_option maxHeartbeats 4000000
namespace Ev
open PySem L2
theorem rules_of_eq {size : Int} {c d : D} {x y : Hold} {i j : Int} {h : Hs} : G_rules_of [.obj 1 [.int size, .tup [.obj 0 [.str x.s, .int i, c], .obj 0 [.str y.s, .int j, d]]], .int 0] h = .ok (Rl.d ⟨size, x, j⟩) h := by
  refine runB_ret ?_
  simp [b_rules_of, Rl.d, big]
theorem as_tuple_eq {p : Pt} {h : Hs} : G_TurnState_as_tuple [p.o] h = .ok p.d h := by
  refine runB_ret ?_
  simp [b_TurnState_as_tuple, Pt.l, big]
theorem ts_init {h : Hs} {a b c d e f : D} : G_TurnState_init [.ref h.length, a, b, c, d, e, f] (h ++ [.ins 2 []]) = .ok .non (h ++ [.ins 2 [a, b, c, d, e, f]]) := by
  refine runB_nx (env := [some (.ref h.length), some a, some b, some c, some d, some e, some f]) ?_
  simp [b_TurnState_init, putI]
theorem ts_make {env : En} {h : Hs} {p : Pt} {fd : En → Hs → R DD2} (e : fd env h = .ok (p.l, []) h) : eMake 2 (kwF 7 0 d_TurnState_init_s7 G_TurnState_init) fd env h = .ok p.o h := by
  refine eMake_ap (n' := 2) (fs := p.l) e ?_ (by simp [Pt.l, D.nrs, D.nr])
  simp [Pt.l, dS, gSeg, ts_init]
theorem written_eq {r : Rl} {c d : D} {i : Int} {y : Hold} {p : Pt} {length : Int} {m : Mode} {h : Hs} (h0 : 0 < r.size) (h1 : r.size < 18446744073709551616) (he : r.every < 18446744073709551616) :
    G_written [.obj 1 [.int r.size, .tup [.obj 0 [.str r.hold.s, .int i, c], .obj 0 [.str y.s, .int r.every, d]]], .int 0, p.o, .int length, .str m.s] h = .ok (writeA r p length m).1.o h := by
  refine runB_ret ?_
  have e1 : G_rules_of _ h = _ := rules_of_eq (size := r.size) (x := r.hold) (y := y) (i := i) (j := r.every) (c := c) (d := d)
  have e2 : G_TurnState_as_tuple _ h = _ := as_tuple_eq (p := p)
  have e3 := after_write_eq r p length m h h0 h1 he
  have e4 := fun env fd e => ts_make (env := env) (h := h) (p := (writeA r p length m).1) (fd := fd) e
  simp [b_written, e1, e2, e3]
  rw [e4]
  · rfl
  · simp
theorem cleared_eq {r : Rl} {c d : D} {i : Int} {y : Hold} {p : Pt} {h : Hs} :
    G_cleared [.obj 1 [.int r.size, .tup [.obj 0 [.str r.hold.s, .int i, c], .obj 0 [.str y.s, .int r.every, d]]], .int 0, p.o] h = .ok (clearA r p).1.o h := by
  refine runB_ret ?_
  have e1 : G_rules_of _ h = _ := rules_of_eq (size := r.size) (x := r.hold) (y := y) (i := i) (j := r.every) (c := c) (d := d)
  have e2 : G_TurnState_as_tuple _ h = _ := as_tuple_eq (p := p)
  have e3 := after_clearing_eq r p h
  have e4 := fun env fd e => ts_make (env := env) (h := h) (p := (clearA r p).1) (fd := fd) e
  simp [b_cleared, e1, e2, e3]
  rw [e4]
  · rfl
  · simp
theorem tell_eq {p : Pt} {h : Hs} : G_l_tell [p.o] h = .ok (.lst p.l) h := by
  refine runB_ret ?_
  simp [b_l_tell, Pt.l, big]
theorem ts_eq {p : Pt} {h : Hs} : G_TurnState_eq [p.o, p.o] h = .ok (.bl true) h := by
  refine runB_ret ?_
  have e2 : G_TurnState_as_tuple [p.o] h = _ := as_tuple_eq (p := p)
  have e3 : eqD p.d p.d h = .ok (.bl true) h := eqD_self (by simp [plainD, Pt.l])
  simp [b_TurnState_eq, e2, e3]
/-! settings -/
@[simp] theorem is_integer_eq {v : Int} {h : Hs} : G_is_integer [.int v] h = .ok (.bl true) h := by
  refine runB_ret ?_
  simp [b_is_integer]
theorem in_range_eq {v a b : Int} {h : Hs} : G_in_range [.int v, .int a, .int b] h = .ok (.bl (decide (a ≤ v) && decide (v ≤ b))) h := by
  refine runB_ret ?_
  by_cases h1 : a ≤ v <;> simp [b_in_range, h1]
theorem policy_init {h : Hs} {x : Hold} {i j : Int} (h1 : 0 ≤ i) (h2 : i ≤ 9) (h3 : 0 ≤ j) (h4 : j ≤ 4) : G_Policy_init [.ref h.length, .str x.s, .int i, .int j] (h ++ [.ins 0 []]) = .ok .non (h ++ [.ins 0 [.str x.s, .int i, .int j]]) := by
  refine runB_nx (env := [some (.ref h.length), some (.str x.s), some (.int i), some (.int j)]) ?_
  have e : ∀ h', notInD (.str x.s) (.tup [.str "off", .str "partial", .str "all"]) h' = .ok (.bl false) h' := fun h' => by
    cases x <;> rfl
  simp [b_Policy_init, putI, e, in_range_eq, h1, h2, h3, h4]
theorem policy_make {env : En} {h : Hs} {x : Hold} {i j : Int} {fd : En → Hs → R DD2} (h1 : 0 ≤ i) (h2 : i ≤ 9) (h3 : 0 ≤ j) (h4 : j ≤ 4) (e : fd env h = .ok ([.str x.s], [.int i, .int j]) h) : eMake 0 (kwF 2 2 d_Policy_init_s2_every_quick G_Policy_init) fd env h = .ok (.obj 0 [.str x.s, .int i, .int j]) h := by
  refine eMake_ap (n' := 0) (fs := [.str x.s, .int i, .int j]) e ?_ (by simp [D.nrs, D.nr])
  simp [dS, gSeg, policy_init h1 h2 h3 h4]
theorem policy_make0 {env : En} {h : Hs} : eMake 0 (kwF 1 0 d_Policy_init_s1 G_Policy_init) cNil env h = .ok (.obj 0 [.str "all", .int 2, .int 0]) h := by
  refine eMake_ap (n' := 0) (fs := [.str "all", .int 2, .int 0]) (cNil_ap) ?_ (by simp [D.nrs, D.nr])
  have := policy_init (h := h) (x := .all) (i := 2) (j := 0) (by decide) (by decide) (by decide) (by decide)
  simp [Hold.s] at this
  simp [dS, gSeg, this]
theorem setting_init {h : Hs} {size : Int} {fs gs : List D} (h1 : 1 ≤ size) (h2 : size ≤ 1000000000000000000) : G_Setting_init [.ref h.length, .int size, .tup [.obj 0 fs, .obj 0 gs]] (h ++ [.ins 1 []]) = .ok .non (h ++ [.ins 1 [.int size, .tup [.obj 0 fs, .obj 0 gs]]]) := by
  refine runB_nx (env := [some (.ref h.length), some (.int size), some (.tup [.obj 0 fs, .obj 0 gs]), some (.lst [.obj 0 fs, .obj 0 gs, .obj 0 fs, .obj 0 gs, .obj 0 [.str "all", .int 2, .int 0], .obj 0 [.str "all", .int 2, .int 0]]), none]) ?_
  · have e1 : ∀ h', eComp (iSeq (eVar 2)) (kName 4) bYes (eIsi (.cls 0) [0, 1, 2] (eVar 4)) [4] [some (.ref h.length), some (.int size), some (.tup [.obj 0 fs, .obj 0 gs]), none, none] h' = .ok (.lst [.bl true, .bl true]) h' := fun h' =>
      eComp_map (g := fun _ => .bl true) (xs := [.obj 0 fs, .obj 0 gs]) (by simp) (by
        intro x hx
        refine ⟨_, rfl, fun _ => rfl, fun h' => ?_⟩
        simp at hx
        rcases hx with rfl | rfl <;> simp [wipeE]) (by simp [big]) (by simp [D.nrs, D.nr])
    simp [b_Setting_init, in_range_eq, h1, h2, e1, allD, blsOf, policy_make0, big, putI]
theorem setting_make {env : En} {h : Hs} {size : Int} {fs gs : List D} {fd : En → Hs → R DD2} (h1 : 1 ≤ size) (h2 : size ≤ 1000000000000000000) (hn : D.nrs h.length fs = true) (hn2 : D.nrs h.length gs = true) (e : fd env h = .ok ([.int size, .obj 0 fs, .obj 0 gs], []) h) :
    eMake 1 (starF 2 G_Setting_init) fd env h = .ok (.obj 1 [.int size, .tup [.obj 0 fs, .obj 0 gs]]) h := by
  refine eMake_ap (n' := 1) (fs := [.int size, .tup [.obj 0 fs, .obj 0 gs]]) e ?_ (by simp [D.nrs, D.nr, hn, hn2])
  simp [big, setting_init h1 h2]
end Ev
set_option Elab.async false
set_option linter.all false
set_option maxRecDepth 100000
set_option maxHeartbeats 4000000
namespace Ev
open PySem L2
def earlyP (fulls soon : Int) : Int := if fulls < soon then fulls else soon
def behP (fulls soon behind : Int) : Int := behind * (if earlyP fulls soon = 0 then 1 else 0) + (fulls - earlyP fulls soon)
def mxP (every : Int) : Int := if 1 < every then every else 1
def doneP (fulls soon behind every : Int) : Bool := if fulls - earlyP fulls soon = 0 then true else decide (0 < every) && decide (behP fulls soon behind % mxP every = 0)
theorem sent_eq {fulls soon behind every : Int} {h : Hs} : G_l_sent [.int fulls, .int soon, .int behind, .int every] h = .ok (.tup [.int (soon - earlyP fulls soon), .int (behP fulls soon behind % mxP every * (if 0 < every then 1 else 0)), .bl (doneP fulls soon behind every)]) h := by
  refine runB_ret ?_
  have mx0 : 0 < mxP every := by unfold mxP; split <;> omega
  have m1 : ∀ (x : Int) (c : Prop) [Decidable c] h', mulD (.int x) (.int (if c then 1 else 0)) h' = .ok (.int (x * (if c then 1 else 0))) h' := fun x c _ h' => mul_r (by split <;> decide) (by split <;> decide)
  have m2 : ∀ (x : Int) h', mulD (.int x) (.int 1) h' = .ok (.int x) h' := fun x h' => by rw [mul_r (by decide) (by decide), Int.mul_one]
  have m3 : ∀ (x : Int) h', mulD (.int x) (.int 0) h' = .ok (.int 0) h' := fun x h' => by rw [mul_r (by decide) (by decide), Int.mul_zero]
  have q : ∀ (x : Int) h', modD (.int x) (.int (mxP every)) h' = .ok (.int (x % mxP every)) h' := fun x h' => mod_ok mx0
  have q' := q
  simp only [mxP] at q
  unfold doneP behP
  by_cases h1 : fulls - earlyP fulls soon = 0
  · have h1' := h1
    unfold earlyP at h1' ⊢
    simp [b_l_sent, m1, m2, m3, q, big, h1', mxP]
  · have h1' := h1
    unfold earlyP at h1' ⊢
    by_cases h2 : 0 < every
    · simp [b_l_sent, m1, m2, m3, q, big, h1', h2, mxP]
      exact decide_eq_decide.mpr Iff.rfl
    · simp [b_l_sent, m1, m2, m3, q, big, h1', h2, mxP]
def firstP (width : Int) (mine : Hold) (every quick length : Int) : Pt :=
  let m := length / width
  let t := length % width
  let soon := quick - earlyP m quick
  let pend := behP m quick 0 % mxP every * (if 0 < every then 1 else 0)
  let done := doneP m quick 0 every
  let bk := decide (0 < m) && decide (mine = .all)
  if 0 < t ∧ bk = false then (if 0 < soon then ⟨0, false, !decide (mine = .off), false, 0, soon - 1⟩ else ⟨0, false, !decide (mine = .off), !decide (mine = .off), pend, 0⟩)
  else ⟨t, false, bk, bk && !done, pend, soon⟩
theorem first_due_eq {width every quick length : Int} {mine : Hold} {x : D} {h : Hs} (h0 : 0 < width) (h1 : width < 18446744073709551616) : G_l_first_due [.int width, .str mine.s, .tup [x, .int every, .int quick], .int length] h = .ok (.lst (firstP width mine every quick length).l) h := by
  refine runB_ret ?_
  have f1 : fdivD (.int length) (.int width) h = .ok (.int (length / width)) h := fdiv_sm h0 h1
  have q1 : modD (.int length) (.int width) h = .ok (.int (length % width)) h := mod_ok h0
  have es := sent_eq (fulls := length / width) (soon := quick) (behind := 0) (every := every) (h := h)
  unfold firstP
  by_cases hm : 0 < length / width
  · by_cases ha : mine = .all
    · by_cases ht : 0 < length % width <;> simp [b_l_first_due, f1, q1, es, hm, ha, ht, big, Pt.l]
    · by_cases ht : 0 < length % width <;> by_cases hs : earlyP (length / width) quick < quick <;> simp [b_l_first_due, f1, q1, es, hm, ha, ht, hs, big, Pt.l]
  · by_cases ht : 0 < length % width <;> by_cases hs : earlyP (length / width) quick < quick <;> simp [b_l_first_due, f1, q1, es, hm, ht, hs, big, Pt.l]
def secondP (width every : Int) (p : Pt) (length : Int) : Pt :=
  let m := (p.rest + length) / width
  ⟨(p.rest + length) % width, false, true, !doneP m p.quick p.pending every, behP m p.quick p.pending % mxP every * (if 0 < every then 1 else 0), p.quick - earlyP m p.quick⟩
theorem second_due_eq {width every length : Int} {p : Pt} {x y : D} {h : Hs} (h0 : 0 < width) (h1 : width < 18446744073709551616) : G_l_second_due [.int width, .tup [x, .int every, y], p.o, .int length] h = .ok (.lst (secondP width every p length).l) h := by
  refine runB_ret ?_
  have f1 : fdivD (.int (p.rest + length)) (.int width) h = .ok (.int ((p.rest + length) / width)) h := fdiv_sm h0 h1
  have q1 : modD (.int (p.rest + length)) (.int width) h = .ok (.int ((p.rest + length) % width)) h := mod_ok h0
  have es := sent_eq (fulls := (p.rest + length) / width) (soon := p.quick) (behind := p.pending) (every := every) (h := h)
  unfold secondP
  simp [b_l_second_due, f1, q1, es, big, Pt.l]
/-! the plain law -/
theorem first_law {width every quick length : Int} {mine : Hold} (h0 : 0 < width) (hl : 0 ≤ length) (he : 0 ≤ every) (hq : 0 ≤ quick) : firstP width mine every quick length = (writeA ⟨width, mine, every⟩ ⟨0, false, false, false, 0, quick⟩ length .plain).1 := by
  have hm : 0 ≤ length / width := Int.ediv_nonneg hl (by omega)
  unfold firstP writeA fullW fullP
  simp only [Int.zero_add, Bool.false_or]
  generalize length / width = m at *
  generalize length % width = t at *
  by_cases m0 : m = 0
  · subst m0
    have e0 : earlyP 0 quick = 0 := by unfold earlyP; split <;> omega
    simp [doneP, behP, e0, partialP]
    by_cases ht : 0 < t <;> by_cases hs : 0 < quick <;> simp [ht, hs]
  · have mp : 0 < m := by omega
    have el : earlyP m quick = soonP ⟨t, false, false, false, 0, quick⟩ m := by unfold earlyP soonP; rfl
    have ebe : behP m quick 0 = m - earlyP m quick := by unfold behP; omega
    have pe : pend0P ⟨t, false, false, false, 0, quick⟩ m = 0 := by unfold pend0P; split <;> rfl
    have epd : behP m quick 0 % mxP every * (if 0 < every then 1 else 0) = pendP ⟨width, mine, every⟩ ⟨t, false, false, false, 0, quick⟩ m := by
      rw [ebe, el]
      unfold pendP
      rw [pe]
      by_cases h : 0 < every
      · have : mxP every = every := by unfold mxP; split <;> omega
        simp [h, this]
      · simp [h]
    have hle : soonP ⟨t, false, false, false, 0, quick⟩ m ≤ m := by unfold soonP; split <;> omega
    have edn : (!doneP m quick 0 every) = (decide (soonP ⟨t, false, false, false, 0, quick⟩ m < m) && (decide (every = 0) || decide (0 < pendP ⟨width, mine, every⟩ ⟨t, false, false, false, 0, quick⟩ m))) := by
      rw [← epd]
      unfold doneP
      rw [ebe, el]
      by_cases h : m - soonP ⟨t, false, false, false, 0, quick⟩ m = 0
      · have : ¬ soonP ⟨t, false, false, false, 0, quick⟩ m < m := by omega
        simp [h, this]
      · have h2 : soonP ⟨t, false, false, false, 0, quick⟩ m < m := by omega
        by_cases h3 : 0 < every
        · have h4 : ¬ every = 0 := by omega
          have h5 := Int.emod_nonneg (m - soonP ⟨t, false, false, false, 0, quick⟩ m) (show mxP every ≠ 0 by unfold mxP; split <;> omega)
          simp [h, h2, h3, h4]
          by_cases h6 : (m - soonP ⟨t, false, false, false, 0, quick⟩ m) % mxP every = 0
          · simp [h6]
          · simp [h6]; omega
        · have h4 : every = 0 := by omega
          simp [h, h2, h3, h4]
    rw [epd, el, edn]
    simp only [m0, if_false, mp, decide_true, Bool.true_and]
    cases mine
    · by_cases ht : 0 < t <;> by_cases hs : soonP ⟨t, false, false, false, 0, quick⟩ m < quick <;> simp [ht, stuckP, partialP, hs]
    · by_cases ht : 0 < t <;> by_cases hs : soonP ⟨t, false, false, false, 0, quick⟩ m < quick <;> simp [ht, stuckP, partialP, hs]
    · simp [stuckP]
end Ev
set_option Elab.async false
set_option linter.all false
set_option maxRecDepth 100000
set_option maxHeartbeats 4000000
namespace Ev
open PySem L2
theorem second_law {width every further : Int} {p : Pt} (h0 : 0 < width) (hq : 0 ≤ p.quick) (hp : 0 ≤ p.pending) (he : 0 ≤ every) (hz : every = 0 → p.pending = 0) (ht : width ≤ p.rest + further) : secondP width every p further = (writeA ⟨width, .all, every⟩ p further .plain).1 := by
  have mp : 0 < (p.rest + further) / width := by
    have : 1 ≤ (p.rest + further) / width := (Int.le_ediv_iff_mul_le h0).mpr (by omega)
    omega
  obtain ⟨rest, kept, blocked, stuck, pending, quick⟩ := p
  simp only at hq hp hz ht mp
  unfold secondP writeA fullW fullP
  dsimp only
  generalize (rest + further) / width = m at *
  generalize (rest + further) % width = t at *
  have m0 : ¬ m = 0 := by omega
  have el : earlyP m quick = soonP ⟨t, false, blocked, stuck, pending, quick⟩ m := by unfold earlyP soonP; rfl
  have e0 : 0 ≤ soonP ⟨t, false, blocked, stuck, pending, quick⟩ m := by unfold soonP; split <;> omega
  have ebe : behP m quick pending = pend0P ⟨t, false, blocked, stuck, pending, quick⟩ m + (m - soonP ⟨t, false, blocked, stuck, pending, quick⟩ m) := by
    unfold behP pend0P
    rw [el]
    by_cases h : soonP ⟨t, false, blocked, stuck, pending, quick⟩ m = 0
    · simp [h]
    · have : 0 < soonP ⟨t, false, blocked, stuck, pending, quick⟩ m := by omega
      simp [h, this]
  have epd : behP m quick pending % mxP every * (if 0 < every then 1 else 0) = pendP ⟨width, .all, every⟩ ⟨t, false, blocked, stuck, pending, quick⟩ m := by
    rw [ebe]
    unfold pendP
    by_cases h : 0 < every
    · have : mxP every = every := by unfold mxP; split <;> omega
      simp [h, this]
    · have : pending = 0 := hz (by omega)
      simp [h, pend0P, this]
  have hle : soonP ⟨t, false, blocked, stuck, pending, quick⟩ m ≤ m := by unfold soonP; split <;> omega
  have edn : (!doneP m quick pending every) = stuckP ⟨width, .all, every⟩ ⟨t, false, blocked, stuck, pending, quick⟩ m := by
    unfold stuckP
    dsimp only
    rw [← epd]
    unfold doneP
    rw [el]
    by_cases h : m - soonP ⟨t, false, blocked, stuck, pending, quick⟩ m = 0
    · have : ¬ soonP ⟨t, false, blocked, stuck, pending, quick⟩ m < m := by omega
      simp [h, this]
    · have h2 : soonP ⟨t, false, blocked, stuck, pending, quick⟩ m < m := by omega
      by_cases h3 : 0 < every
      · have h4 : ¬ every = 0 := by omega
        have h5 := Int.emod_nonneg (behP m quick pending) (show mxP every ≠ 0 by unfold mxP; split <;> omega)
        simp [h, h2, h3, h4]
        by_cases h6 : behP m quick pending % mxP every = 0
        · simp [h6]
        · simp [h6]; omega
      · have h4 : every = 0 := by omega
        simp [h, h2, h3, h4]
  rw [epd, edn, el]
  simp [m0]
theorem clear_law (r : Rl) (p : Pt) : (clearA r (clearA r (clearA r p).1).1).1 = (clearA r (clearA r p).1).1 := by
  obtain ⟨rest, kept, blocked, stuck, pending, quick⟩ := p
  obtain ⟨size, hold, every⟩ := r
  by_cases hq : 0 < quick <;> by_cases h0 : rest = 0 <;> cases hold <;> cases kept <;> cases blocked <;> cases stuck <;> simp [clearA, partialP, hq, h0]
theorem setting_eq {width o1 o2 : Int} {mine : Hold} {h : Hs} (h1 : 1 ≤ width) (h2 : width ≤ 1000000000000000000) (a1 : 0 ≤ o1) (a2 : o1 ≤ 9) (a3 : 0 ≤ o2) (a4 : o2 ≤ 4) :
    G_l_setting [.int width, .lst [.tup [.str mine.s, .int 2, .int 0], .tup [.str "off", .int o1, .int o2]]] h = .ok (.obj 1 [.int width, .tup [.obj 0 [.str mine.s, .int 2, .int 0], .obj 0 [.str Hold.off.s, .int o1, .int o2]]]) h := by
  refine runB_ret ?_
  have e1 : ∀ h', eComp (iSeq (eVar 1)) (kTup 3 (ksCons (kName 3) (ksCons (kName 4) (ksCons (kName 5) ksNil)))) bYes (eMake 0 (kwF 2 2 d_Policy_init_s2_every_quick G_Policy_init) (cKw 2 (aCons (eVar 3) aNil) (aCons (eVar 4) (aCons (eVar 5) aNil)))) [3, 4, 5]
      [some (.int width), some (.lst [.tup [.str mine.s, .int 2, .int 0], .tup [.str "off", .int o1, .int o2]]), none, none, none, none] h' = .ok (.lst [.obj 0 [.str mine.s, .int 2, .int 0], .obj 0 [.str Hold.off.s, .int o1, .int o2]]) h' := fun h' =>
    eComp_map (g := fun x => match x with
      | .tup xs => .obj 0 xs
      | x => x) (xs := [.tup [.str mine.s, .int 2, .int 0], .tup [.str "off", .int o1, .int o2]]) (by simp) (by
      intro x hx
      simp at hx
      rcases hx with rfl | rfl
      · exact ⟨_, rfl, fun _ => rfl, fun h' => policy_make (x := mine) (i := 2) (j := 0) (by decide) (by decide) (by decide) (by decide) (by simp [wipeE])⟩
      · exact ⟨_, rfl, fun _ => rfl, fun h' => policy_make (x := .off) (i := o1) (j := o2) a1 a2 a3 a4 (by simp [wipeE, Hold.s])⟩) (by simp [big]) (by simp [D.nrs, D.nr])
  have e2 := fun env fd e => setting_make (env := env) (h := h) (size := width) (fs := [.str mine.s, .int 2, .int 0]) (gs := [.str Hold.off.s, .int o1, .int o2]) (fd := fd) h1 h2 (by simp [D.nrs, D.nr]) (by simp [D.nrs, D.nr]) e
  simp [b_l_setting, e1]
  rw [e2]
  · rfl
  · simp
theorem pow_ok {a b : Int} {h : Hs} (h1 : 0 ≤ b) (h2 : b ≤ 1000000) (h3 : a.natAbs < 18446744073709551616) : powD (.int a) (.int b) h = .ok (.int (a ^ b.toNat)) h := by
  show (match (if 0 ≤ b ∧ b ≤ 1000000 ∧ a.natAbs < 2 ^ 64 then some (D.int (a ^ b.toNat)) else none) with
    | some d => R.ok d h
    | none => .bad) = _
  rw [if_pos ⟨h1, h2, h3⟩]
@[simp] theorem pow18 {h : Hs} : powD (.int 10) (.int 18) h = .ok (.int 1000000000000000000) h := by rw [pow_ok (by decide) (by decide) (by decide)]; rfl
@[simp] theorem pow6 {h : Hs} : powD (.int 10) (.int 6) h = .ok (.int 1000000) h := by rw [pow_ok (by decide) (by decide) (by decide)]; rfl
theorem atI_of {xs : List D} {r : Int} {n : Nat} (e : r = n) : atI xs r = xs[n]? := by rw [e]; exact atI_nat
theorem values_ok {n : Nat} {width k : Int} {h : Hs} (hb : Bag k h n) (hk : k < 1000000000000000000) (h1 : 1 ≤ width) (h2 : width ≤ 1000000000000000000) :
    ∃ (v : Int) (t : BagS), G_l_values [.ref n, .int width] h = .ok (.int v) (h.set n t.o) ∧ 1 ≤ v ∧ Bag (k + 15) (h.set n t.o) n := by
  have hd : fdivD (.int 1000000000000000000) (.int width) h = .ok (.int (1000000000000000000 / width)) h := fdiv_sm (by omega) (by omega)
  have hd0 : 0 ≤ 1000000000000000000 / width := Int.ediv_nonneg (by decide) (by omega)
  have hd1 : 1000000000000000000 / width ≤ 1000000000000000000 := Int.ediv_le_self _ (by decide)
  obtain ⟨r1, t1, e1, a1, b1, c1⟩ := take_ok (many := 1 + 1000000000000000000 / width) hb (by omega) (by omega) (by omega)
  obtain ⟨r2, t2, e2, a2, b2, c2⟩ := take_ok (many := 3) c1 (by omega) (by omega) (by omega)
  obtain ⟨r3, t3, e3, a3, b3, c3⟩ := take_ok (many := 1000000000000000000) c2 (by omega) (by omega) (by omega)
  obtain ⟨r4, t4, e4, a4, b4, c4⟩ := take_ok (many := if 1000000000000000000 < width then 1000000000000000000 else width) c3 (by omega) (by omega) (by omega)
  obtain ⟨r5, t5, e5, a5, b5, c5⟩ := take_ok (many := 3) c4 (by omega) (by omega) (by omega)
  simp only [List.set_set] at e1 e2 e3 e4 e5 c5
  have m1 : mulD (.int width) (.int r1) (h.set n t1.o) = .ok (.int (width * r1)) (h.set n t1.o) := mul_l (by omega) (by omega)
  have c5' : Bag (k + 15) (h.set n t5.o) n := by
    obtain ⟨s, x, y⟩ := c5
    exact ⟨s, x, ⟨y.a0, y.b0, y.b1, y.c0, by have := y.c1; omega⟩⟩
  rcases (show r5 = 0 ∨ r5 = 1 ∨ r5 = 2 by omega) with rfl | rfl | rfl
  · refine ⟨1 + r3, t5, runB_ret ?_, by omega, c5'⟩
    simp [b_l_values, hd, e1, e2, m1, e3, e4, e5, big]
  · refine ⟨_, t5, runB_ret (d := .int (if (if 1000000000000000000 < width * r1 + r2 - 1 then 1000000000000000000 else width * r1 + r2 - 1) > 1 then (if 1000000000000000000 < width * r1 + r2 - 1 then 1000000000000000000 else width * r1 + r2 - 1) else 1)) ?_, ?_, c5'⟩
    · simp [b_l_values, hd, e1, e2, m1, e3, e4, e5, big]
    · split <;> omega
  · refine ⟨1 + r4, t5, runB_ret ?_, by omega, c5'⟩
    simp [b_l_values, hd, e1, e2, m1, e3, e4, e5, big]
theorem bag_eq {ns : List Int} {at_ : Nat} {h : Hs} (ha : at_ < 64) : ∃ o : BagS, G_l_bag [.rol (ns.map D.int), .int at_] h = .ok (.ref h.length) (h ++ [o.o]) ∧ o.Ok 0 := by
  have fin : ∀ cell : Int, ∃ o : BagS, eLstM (aCons (eVar 3) (aCons (eBin addD (eBin addD (eBin modD (eCall intTD (aCons (eVar 2) aNil)) (eC (.int 2147483563))) (eBin mulD (eC (.int 40009)) (eVar 1))) (eC (.int 61))) (aCons (eC (.int 0)) aNil)))
      [some (.rol (ns.map D.int)), some (.int at_), some (.int cell), some (.int ((if cell < 0 then -cell else cell) * (if 1000000000000000000 ≤ (if cell < 0 then -cell else cell) then 1 else 0)))] h = .ok (.ref h.length) (h ++ [o.o]) ∧ o.Ok 0 := fun cell => by
    have m : mulD (.int 40009) (.int at_) h = .ok (.int (40009 * at_)) h := mul_l (by decide) (by decide)
    have q : modD (.int cell) (.int 2147483563) h = .ok (.int (cell % 2147483563)) h := mod_ok (by decide)
    refine ⟨⟨(if cell < 0 then -cell else cell) * (if 1000000000000000000 ≤ (if cell < 0 then -cell else cell) then 1 else 0), cell % 2147483563 + 40009 * at_ + 61, 0⟩, by simp [m, q, BagS.o, big], ⟨?_, ?_, ?_, Int.le_refl _, Int.le_refl _⟩⟩
    · show 0 ≤ (if cell < 0 then -cell else cell) * (if 1000000000000000000 ≤ (if cell < 0 then -cell else cell) then 1 else 0)
      exact Int.mul_nonneg (by split <;> omega) (by split <;> omega)
    · have := Int.emod_nonneg cell (show (2147483563 : Int) ≠ 0 by decide)
      show 0 ≤ cell % 2147483563 + 40009 * at_ + 61
      omega
    · have := Int.emod_lt_of_pos cell (show (0 : Int) < 2147483563 by decide)
      show cell % 2147483563 + 40009 * at_ + 61 < _
      omega
  have m2 : ∀ (x : Int) (c : Prop) [Decidable c] h', mulD (.int x) (.int (if c then 1 else 0)) h' = .ok (.int (x * (if c then 1 else 0))) h' := fun x c _ h' => mul_r (by split <;> decide) (by split <;> decide)
  by_cases hl : at_ < ns.length
  · obtain ⟨o, e, ok⟩ := fin ns[at_]
    refine ⟨o, runB_ret ?_, ok⟩
    have hl' : (at_ : Int) < ns.length := by omega
    have hc : atI (ns.map D.int) (at_ : Int) = some (.int ns[at_]) := by rw [atI_nat]; simp [hl]
    simp only [eLstM_ap] at e
    simp [b_l_bag, hl', hc, m2] at e ⊢
    simp [e]
  · obtain ⟨o, e, ok⟩ := fin 0
    refine ⟨o, runB_ret ?_, ok⟩
    have hl' : ¬ (at_ : Int) < ns.length := by omega
    have m0 : ∀ h', mulD (.int 0) (.int 0) h' = .ok (.int 0) h' := fun h' => mul_r (by decide) (by decide)
    simp [m0] at e
    simp [b_l_bag, hl', m2, m0]
    simp [e]
theorem ts_make1 {env : En} {h : Hs} {q : Int} {fd : En → Hs → R DD2} (e : fd env h = .ok ([], [.int q]) h) : eMake 2 (kwF 1 1 d_TurnState_init_s1_quick G_TurnState_init) fd env h = .ok (Pt.o ⟨0, false, false, false, 0, q⟩) h := by
  refine eMake_ap (n' := 2) (fs := Pt.l ⟨0, false, false, false, 0, q⟩) e ?_ (by simp [Pt.l, D.nrs, D.nr])
  simp [Pt.l, dS, gSeg, ts_init]
end Ev
set_option Elab.async false
set_option linter.all false
set_option maxRecDepth 100000
set_option maxHeartbeats 8000000
namespace Ev
open PySem L2
noncomputable def lawInner : En → Hs → S := (sCons (sAsg (eBin ixD (eLst (aCons (eC (.str "off")) (aCons (eC (.str "partial")) (aCons (eC (.str "all")) (aCons (eC (.str "all")) aNil))))) (eCallC (posF 2 G_l_take) (cPos (aCons (eVar 2) (aCons (eC (.int 4)) aNil))))) (kName 5))
 (sCons (sAsg (eTup (aCons (eC (.str "off")) (aCons (eCallC (posF 2 G_l_take) (cPos (aCons (eVar 2) (aCons (eC (.int 10)) aNil)))) (aCons (eCallC (posF 2 G_l_take) (cPos (aCons (eVar 2) (aCons (eC (.int 5)) aNil)))) aNil)))) (kName 6))
 (sCons (sPar 7 8 (aCons (eCallC (posF 2 G_l_setting) (cPos (aCons (eVar 3) (aCons (eLst (aCons (eTup (aCons (eVar 5) (aCons (eC (.int 2)) (aCons (eC (.int 0)) aNil)))) (aCons (eVar 6) aNil))) aNil)))) (aCons (eCallC (posF 2 G_l_values) (cPos (aCons (eVar 2) (aCons (eVar 3) aNil)))) aNil)))
 (sCons (sAsg (eCallC (kwF 4 0 d_written_s4 G_written) (cPos (aCons (eVar 7) (aCons (eC (.int 0)) (aCons (eMake 2 (kwF 1 1 d_TurnState_init_s1_quick G_TurnState_init) (cKw 1 aNil (aCons (eBin ixD (eVar 6) (eC (.int 2))) aNil))) (aCons (eVar 8) aNil)))))) (kName 9))
 (sCons (sIf (eTest (eBin neD (eCallC (posF 1 G_l_tell) (cPos (aCons (eVar 9) aNil))) (eCallC (posF 4 G_l_first_due) (cPos (aCons (eVar 3) (aCons (eVar 5) (aCons (eVar 6) (aCons (eVar 8) aNil)))))))) (sRet (eC (.bl false))) sNil)
 (sCons (sIf (eAndB (eTest (eBin eqD (eVar 5) (eC (.str "all")))) (eTest (eBin gtD (eAttr [(2, 0)] (eVar 9)) (eC (.int 0))))) (sCons (sAsg (eCall maxD (aCons (eCallC (posF 2 G_l_values) (cPos (aCons (eVar 2) (aCons (eVar 3) aNil)))) (aCons (eBin subD (eVar 3) (eAttr [(2, 0)] (eVar 9))) aNil))) (kName 10))
 (sCons (sAsg (eCallC (kwF 4 0 d_written_s4 G_written) (cPos (aCons (eVar 7) (aCons (eC (.int 0)) (aCons (eVar 9) (aCons (eVar 10) aNil)))))) (kName 11))
 (sIf (eTest (eBin neD (eCallC (posF 1 G_l_tell) (cPos (aCons (eVar 11) aNil))) (eCallC (posF 4 G_l_second_due) (cPos (aCons (eVar 3) (aCons (eVar 6) (aCons (eVar 9) (aCons (eVar 10) aNil)))))))) (sRet (eC (.bl false))) sNil))) sNil)
 (sCons (sAsg (eCallC (posF 3 G_cleared) (cPos (aCons (eVar 7) (aCons (eC (.int 0)) (aCons (eCallC (posF 3 G_cleared) (cPos (aCons (eVar 7) (aCons (eC (.int 0)) (aCons (eVar 9) aNil))))) aNil))))) (kName 12))
 (sIf (eOrB (eTru (eAttr [(2, 1)] (eVar 9))) (eTest (eBin (neOwnD 2 (posF 2 G_TurnState_eq)) (eCallC (posF 3 G_cleared) (cPos (aCons (eVar 7) (aCons (eC (.int 0)) (aCons (eVar 12) aNil))))) (eVar 12)))) (sRet (eC (.bl false))) sNil))))))))
noncomputable def lawOuter : En → Hs → S := (sCons (sAsg (eCallC (posF 2 G_l_bag) (cPos (aCons (eVar 0) (aCons (eVar 1) aNil)))) (kName 2))
 (sCons (sAsg (eBin ixD (eLst (aCons (eBin addD (eC (.int 1)) (eCallC (posF 2 G_l_take) (cPos (aCons (eVar 2) (aCons (eBin powD (eC (.int 10)) (eC (.int 18))) aNil))))) (aCons (eBin addD (eC (.int 1)) (eCallC (posF 2 G_l_take) (cPos (aCons (eVar 2) (aCons (eC (.int 9)) aNil))))) (aCons (eBin addD (eC (.int 1)) (eCallC (posF 2 G_l_take) (cPos (aCons (eVar 2) (aCons (eBin powD (eC (.int 10)) (eC (.int 6))) aNil))))) aNil)))) (eCallC (posF 2 G_l_take) (cPos (aCons (eVar 2) (aCons (eC (.int 3)) aNil))))) (kName 3))
 (sFor (iRange1 (aCons (eC (.int 4)) aNil)) (kName 4) lawInner)))
theorem pick4 {r : Int} (h0 : 0 ≤ r) (h1 : r < 4) : ∃ m : Hold, atI [D.str (Str.ofString "off"), .str (Str.ofString "partial"), .str (Str.ofString "all"), .str (Str.ofString "all")] r = some (.str m.s) := by
  rcases (show r = 0 ∨ r = 1 ∨ r = 2 ∨ r = 3 by omega) with rfl | rfl | rfl | rfl
  · exact ⟨.off, rfl⟩
  · exact ⟨.part, rfl⟩
  · exact ⟨.all, rfl⟩
  · exact ⟨.all, rfl⟩
theorem firstP_facts {width every quick length : Int} {mine : Hold} (hm : 0 ≤ length / width) (hq : 0 ≤ quick) (he : 0 ≤ every) : (firstP width mine every quick length).kept = false ∧ 0 ≤ (firstP width mine every quick length).quick ∧ 0 ≤ (firstP width mine every quick length).pending ∧ (every = 0 → (firstP width mine every quick length).pending = 0) := by
  have hs : 0 ≤ quick - earlyP (length / width) quick := by unfold earlyP; split <;> omega
  have hp : 0 ≤ behP (length / width) quick 0 % mxP every * (if 0 < every then 1 else 0) := Int.mul_nonneg (Int.emod_nonneg _ (by unfold mxP; split <;> omega)) (by split <;> omega)
  have hz : every = 0 → behP (length / width) quick 0 % mxP every * (if 0 < every then 1 else 0) = 0 := fun e => by subst e; simp
  unfold firstP
  dsimp only
  split
  · split
    · exact ⟨rfl, by show 0 ≤ quick - _ - 1; omega, Int.le_refl _, fun _ => rfl⟩
    · exact ⟨rfl, Int.le_refl _, hp, hz⟩
  · exact ⟨rfl, hs, hp, hz⟩
theorem ne_own {p : Pt} {h : Hs} : neOwnD 2 (posF 2 G_TurnState_eq) p.o p.o h = .ok (.bl false) h := by
  unfold neOwnD eqOwnD
  simp [ts_eq]
def InnerI (script : D) (n : Nat) (at_ width k : Int) (env : En) (h : Hs) : Prop := ∃ e4 e5 e6 e7 e8 e9 e10 e11 e12, env = [some script, some (.int at_), some (.ref n), some (.int width), e4, e5, e6, e7, e8, e9, e10, e11, e12] ∧ Bag k h n
theorem inner_ok {script : D} {n : Nat} {at_ width k : Int} {env : En} {h : Hs} (h1 : 1 ≤ width) (h2 : width ≤ 1000000000000000000) (hk : k < 1000000000) (hi : InnerI script n at_ width k env h) : ∃ e2 h2, lawInner env h = .nx e2 h2 ∧ InnerI script n at_ width (k + 60) e2 h2 := by
  obtain ⟨e4, e5, e6, e7, e8, e9, e10, e11, e12, rfl, hb⟩ := hi
  obtain ⟨r1, t1, q1, a1, b1, c1⟩ := take_ok (many := 4) hb (by omega) (by omega) (by omega)
  obtain ⟨o1, t2, q2, a2, b2, c2⟩ := take_ok (many := 10) c1 (by omega) (by omega) (by omega)
  obtain ⟨o2, t3, q3, a3, b3, c3⟩ := take_ok (many := 5) c2 (by omega) (by omega) (by omega)
  obtain ⟨v, t4, q4, a4, c4⟩ := values_ok c3 (by omega) h1 h2
  obtain ⟨mine, em⟩ := pick4 a1 b1
  simp only [List.set_set] at q1 q2 q3 q4 c4
  have es := setting_eq (width := width) (o1 := o1) (o2 := o2) (mine := mine) (h := h.set n t3.o) h1 h2 a2 (by omega) a3 (by omega)
  have hw := fun p length h' => written_eq (r := ⟨width, mine, o1⟩) (c := .int 0) (d := .int o2) (i := 2) (y := .off) (p := p) (length := length) (m := .plain) (h := h') (by show 0 < width; omega) (by show width < _; omega) (by show o1 < _; omega)
  have hc := fun p h' => cleared_eq (r := ⟨width, mine, o1⟩) (c := .int 0) (d := .int o2) (i := 2) (y := .off) (p := p) (h := h')
  have hts := fun env fd e => ts_make1 (env := env) (h := h.set n t4.o) (q := o2) (fd := fd) e
  have fl := first_law (width := width) (every := o1) (quick := o2) (length := v) (mine := mine) (by omega) (by omega) a2 a3
  have ff := firstP_facts (width := width) (every := o1) (quick := o2) (length := v) (mine := mine) (Int.ediv_nonneg (by omega) (by omega)) a3 a2
  have fd := first_due_eq (width := width) (every := o1) (quick := o2) (length := v) (mine := mine) (x := .str (Str.ofString "off")) (h := h.set n t4.o) (by omega) (by omega)
  rw [fl] at ff fd
  generalize hp1 : (writeA ⟨width, mine, o1⟩ ⟨0, false, false, false, 0, o2⟩ v .plain).1 = p1 at ff fd
  obtain ⟨fk, fq, fp, fz⟩ := ff
  have hw1 := hw ⟨0, false, false, false, 0, o2⟩ v (h.set n t4.o)
  rw [hp1] at hw1
  have ht1 := fun h' => tell_eq (p := p1) (h := h')
  have hne := fun (p : Pt) h' => neD_self (d := .lst p.l) (h := h') (by simp [plainD, Pt.l])
  have hcc := fun h' => hc p1 h'
  generalize hcl1 : (clearA ⟨width, mine, o1⟩ p1).1 = c1p at hcc
  have hcc2 := fun h' => hc c1p h'
  generalize hcl2 : (clearA ⟨width, mine, o1⟩ c1p).1 = c2p at hcc2
  have hcc3 := fun h' => hc c2p h'
  have hlaw := clear_law ⟨width, mine, o1⟩ p1
  rw [hcl1, hcl2] at hlaw
  rw [hlaw] at hcc3
  have hno := fun h' => ne_own (p := c2p) (h := h')
  have bm : ∀ {k1 k2 : Int} {hh : Hs}, k1 ≤ k2 → Bag k1 hh n → Bag k2 hh n := fun hk ⟨s, x, y⟩ => ⟨s, x, ⟨y.a0, y.b0, y.b1, y.c0, by have := y.c1; omega⟩⟩
  have el0 : (Pt.l p1)[0]? = some (.int p1.rest) := rfl
  have el1 : (Pt.l p1)[1]? = some (.bl p1.kept) := rfl
  have pl : (Str.ofString "plain") = Mode.plain.s := rfl
  by_cases hcase : mine = .all ∧ 0 < p1.rest
  · obtain ⟨rfl, hr⟩ := hcase
    obtain ⟨v2, t5, q5, a5, c5⟩ := values_ok c4 (by omega) h1 h2
    simp only [List.set_set] at q5 c5
    have hf := hw p1 (if width - p1.rest > v2 then width - p1.rest else v2) (h.set n t5.o)
    have sl := second_law (width := width) (every := o1) (further := if width - p1.rest > v2 then width - p1.rest else v2) (p := p1) (by omega) fq fp a2 fz (by split <;> omega)
    have sd := second_due_eq (width := width) (every := o1) (length := if width - p1.rest > v2 then width - p1.rest else v2) (p := p1) (x := .str (Str.ofString "off")) (y := .int o2) (h := h.set n t5.o) (by omega) (by omega)
    rw [sl] at sd
    generalize (writeA ⟨width, .all, o1⟩ p1 (if width - p1.rest > v2 then width - p1.rest else v2) .plain).1 = p2 at hf sd
    have ht2 := fun h' => tell_eq (p := p2) (h := h')
    refine ⟨[some script, some (.int at_), some (.ref n), some (.int width), e4, some (.str Hold.all.s), some (.tup [.str (Str.ofString "off"), .int o1, .int o2]), some (.obj 1 [.int width, .tup [.obj 0 [.str Hold.all.s, .int 2, .int 0], .obj 0 [.str Hold.off.s, .int o1, .int o2]]]), some (.int v), some p1.o, some (.int (if width - p1.rest > v2 then width - p1.rest else v2)), some p2.o, some c2p.o], h.set n t5.o, ?_, ⟨_, _, _, _, _, _, _, _, _, rfl, bm (by omega) c5⟩⟩
    simp [lawInner, q1, em, q2, q3, es, q4, hts, hw1, ht1, fd, hne, q5, hf, ht2, sd, hcc, hcc2, hcc3, hno, big, dS, gSeg, pl, el0, el1, hr, fk]
  · refine ⟨[some script, some (.int at_), some (.ref n), some (.int width), e4, some (.str mine.s), some (.tup [.str (Str.ofString "off"), .int o1, .int o2]), some (.obj 1 [.int width, .tup [.obj 0 [.str mine.s, .int 2, .int 0], .obj 0 [.str Hold.off.s, .int o1, .int o2]]]), some (.int v), some p1.o, e10, e11, some c2p.o], h.set n t4.o, ?_, ⟨_, _, _, _, _, _, _, _, _, rfl, bm (by omega) c4⟩⟩
    by_cases hm : mine = .all
    · have hr : ¬ 0 < p1.rest := fun z => hcase ⟨hm, z⟩
      subst hm
      simp [lawInner, q1, em, q2, q3, es, q4, hts, hw1, ht1, fd, hne, hcc, hcc2, hcc3, hno, big, dS, gSeg, pl, el0, el1, hr, fk]
    · simp [lawInner, q1, em, q2, q3, es, q4, hts, hw1, ht1, fd, hne, hcc, hcc2, hcc3, hno, big, dS, gSeg, pl, el0, el1, hm, fk]
theorem inner_loop {script : D} {n : Nat} {at_ width : Int} (h1 : 1 ≤ width) (h2 : width ≤ 1000000000000000000) : ∀ {env : En} {h : Hs}, InnerI script n at_ width 12 env h →
    ∃ e2 h2, sFor (iRange1 (aCons (eC (.int 4)) aNil)) (kName 4) lawInner env h = .nx e2 h2 ∧ InnerI script n at_ width 252 e2 h2 := by
  intro env h hi
  obtain ⟨e2, h2', q1, q2⟩ := forL_invI (k := kName 4) (f := lawInner) (fun i e hh => InnerI script n at_ width (12 + 60 * i) e hh) (xs := (List.range 4).map fun (i : Nat) => D.int (i : Int)) (n := 0) (by
    intro i x hx e hh hi
    have hi4 : i < 4 := by
      have := (List.getElem?_eq_some_iff.mp hx).1
      simpa using this
    obtain ⟨e4, e5, e6, e7, e8, e9, e10, e11, e12, rfl, hb⟩ := hi
    have hI : InnerI script n at_ width (12 + 60 * ((0 + i : Nat) : Int)) ([some script, some (.int at_), some (.ref n), some (.int width), e4, e5, e6, e7, e8, e9, e10, e11, e12].set 4 (some x)) hh := ⟨some x, e5, e6, e7, e8, e9, e10, e11, e12, by simp, hb⟩
    obtain ⟨e2, h2', r1, r2⟩ := inner_ok h1 h2 (by omega) hI
    exact ⟨_, e2, h2', kName_ap, r1, by rw [show ((0 + i + 1 : Nat) : Int) = ((0 + i : Nat) : Int) + 1 by omega, show (12 : Int) + 60 * (((0 + i : Nat) : Int) + 1) = 12 + 60 * ((0 + i : Nat) : Int) + 60 by omega]; exact r2⟩) (env := env) (h := h) (by simpa using hi)
  refine ⟨e2, h2', ?_, by simpa using q2⟩
  rw [← q1]
  exact sFor_range (m := 4) (by simp) (by decide)
theorem outer_ok {ns : List Int} {at_ : Nat} {env : En} {h : Hs} (ha : at_ < 8) (he : ∃ r, env = some (.rol (ns.map D.int)) :: some (.int at_) :: r ∧ r.length = 11) : ∃ e2 h2, lawOuter env h = .nx e2 h2 ∧ ∃ x r, e2 = some (.rol (ns.map D.int)) :: x :: r ∧ r.length = 11 := by
  obtain ⟨r, rfl, hr⟩ := he
  obtain ⟨x2, x3, x4, x5, x6, x7, x8, x9, x10, x11, x12, rfl⟩ : ∃ x2 x3 x4 x5 x6 x7 x8 x9 x10 x11 x12, r = [x2, x3, x4, x5, x6, x7, x8, x9, x10, x11, x12] := by
    match r, hr with
    | [x2, x3, x4, x5, x6, x7, x8, x9, x10, x11, x12], _ => exact ⟨x2, x3, x4, x5, x6, x7, x8, x9, x10, x11, x12, rfl⟩
  obtain ⟨o, q0, ok⟩ := bag_eq (ns := ns) (at_ := at_) (h := h) (by omega)
  have hb : Bag 0 (h ++ [o.o]) h.length := ⟨o, by simp, ok⟩
  obtain ⟨r1, t1, q1, a1, b1, c1⟩ := take_ok (many := 1000000000000000000) hb (by omega) (by omega) (by omega)
  obtain ⟨r2, t2, q2, a2, b2, c2⟩ := take_ok (many := 9) c1 (by omega) (by omega) (by omega)
  obtain ⟨r3, t3, q3, a3, b3, c3⟩ := take_ok (many := 1000000) c2 (by omega) (by omega) (by omega)
  obtain ⟨r4, t4, q4, a4, b4, c4⟩ := take_ok (many := 3) c3 (by omega) (by omega) (by omega)
  have hs : ∀ a b : O, (h ++ [a]).set h.length b = h ++ [b] := fun a b => by simp
  simp only [hs] at q1 q2 q3 q4 c4
  obtain ⟨width, hw, w1, w2⟩ : ∃ width : Int, atI [D.int (1 + r1), .int (1 + r2), .int (1 + r3)] r4 = some (.int width) ∧ 1 ≤ width ∧ width ≤ 1000000000000000000 := by
    rcases (show r4 = 0 ∨ r4 = 1 ∨ r4 = 2 by omega) with rfl | rfl | rfl
    · exact ⟨_, rfl, by omega, by omega⟩
    · exact ⟨_, rfl, by omega, by omega⟩
    · exact ⟨_, rfl, by omega, by omega⟩
  have hI : InnerI (.rol (ns.map D.int)) h.length at_ width 12 [some (.rol (ns.map D.int)), some (.int at_), some (.ref h.length), some (.int width), x4, x5, x6, x7, x8, x9, x10, x11, x12] (h ++ [t4.o]) := ⟨_, _, _, _, _, _, _, _, _, rfl, c4⟩
  obtain ⟨e2, h2, z1, e4, e5, e6, e7, e8, e9, e10, e11, e12, rfl, z2⟩ := inner_loop w1 w2 hI
  refine ⟨_, h2, ?_, some (.int at_), [some (.ref h.length), some (.int width), e4, e5, e6, e7, e8, e9, e10, e11, e12], rfl, rfl⟩
  unfold lawOuter
  rw [seq_of (env1 := [some (.rol (ns.map D.int)), some (.int at_), some (.ref h.length), x3, x4, x5, x6, x7, x8, x9, x10, x11, x12]) (h1 := h ++ [o.o]) (by simp [q0])]
  rw [seq_of (env1 := [some (.rol (ns.map D.int)), some (.int at_), some (.ref h.length), some (.int width), x4, x5, x6, x7, x8, x9, x10, x11, x12]) (h1 := (h ++ [t4.o])) (by
    simp only [sAsg_ap, eBin_ap, eLst_ap, aCons_ap, aNil_ap, eC_ap, eCallC_ap, cPos_ap, eVar_ap, List.getElem?_cons_zero, List.getElem?_cons_succ, R.bind_ok, pow18, pow6, posF_ap, List.length_cons, List.length_nil, if_true, q1, q2, q3, q4, addD_int, ixD_lst, hw, R.toS_ok, kName_ap]
    simp [q1, q2, q3, q4, hw, big])]
  exact z1
theorem law_true : ∀ ns : List Int, ns.length ≤ 63 → (∀ z ∈ ns, Builtin.Int.intBits z ≤ 1048576) → ∃ h', G_law [.rol (ns.map D.int)] [] = .ok (.bl true) h' := by
  intro ns hl hb
  have hN : ∃ m : Nat, m ≤ 8 ∧ (if (2:Int) < (if (ns.length : Int) < 8 then (ns.length : Int) else 8) then (if (ns.length : Int) < 8 then (ns.length : Int) else 8) else 2) = (m : Int) := by
    by_cases h1 : (ns.length : Int) < 8
    · by_cases h2 : (2:Int) < ns.length
      · exact ⟨ns.length, by omega, by simp [h1, h2]⟩
      · exact ⟨2, by omega, by simp [h1, h2]⟩
    · exact ⟨8, by omega, by simp [h1]⟩
  obtain ⟨m, hm, em⟩ := hN
  obtain ⟨e2, h2, q1, x, r, rfl, hr⟩ := forL_invI (k := kName 1) (f := lawOuter) (fun _ e _ => ∃ x r, e = some (.rol (ns.map D.int)) :: x :: r ∧ r.length = 11) (xs := (List.range m).map fun (i : Nat) => D.int (i : Int)) (n := 0) (by
    intro i y hy e hh ⟨x, r, he, hr⟩
    subst he
    have hi : i < m := by
      have := (List.getElem?_eq_some_iff.mp hy).1
      simpa using this
    have hy' : y = .int (i : Int) := by
      rw [List.getElem?_map, List.getElem?_range hi] at hy
      exact (Option.some.inj hy).symm
    subst hy'
    obtain ⟨e2, h2, z1, z2⟩ := outer_ok (ns := ns) (at_ := i) (env := some (.rol (ns.map D.int)) :: some (.int i) :: r) (h := hh) (by omega) ⟨r, rfl, hr⟩
    exact ⟨_, e2, h2, kName_ap, z1, z2⟩) (env := [some (.rol (ns.map D.int)), none, none, none, none, none, none, none, none, none, none, none, none]) (h := []) ⟨none, _, rfl, rfl⟩
  refine ⟨h2, runB_ret ?_⟩
  have hb : b_law = sCons (sFor (iRange1 (aCons (eCall maxD (aCons (eC (.int 2)) (aCons (eCall minD (aCons (eC (.int 8)) (aCons (eCall lenD (aCons (eVar 0) aNil)) aNil))) aNil))) aNil)) (kName 1) lawOuter) (sRet (eC (.bl true))) := rfl
  rw [hb]
  refine Eq.trans (seq_of (env1 := some (.rol (ns.map D.int)) :: x :: r) (h1 := h2) ?_) rfl
  rw [← q1]
  refine sFor_range (m := m) ?_ (by omega)
  simp [em]
end Ev
set_option Elab.async false
set_option linter.all false
set_option maxRecDepth 100000
set_option maxHeartbeats 4000000
open PySem PySem.W PySem.Calls PyProof.Rows
set_option maxHeartbeats 0 in
theorem PySem.Challenge.cw_latewords_k08_states_of_great_lengths_holds : PySem.Challenge.rw_latewords_k08_states_of_great_lengths.Holds := by
  w_on; o_law
  refine HandSHeadRun.head_any (r := OpenLaw.row PySem.Challenge.rw_latewords_k08_states_of_great_lengths) (q := view (OpenLaw.row PySem.Challenge.rw_latewords_k08_states_of_great_lengths).prog [30]) (H := Ev.hk) (ob := Ev.ob) (M := 4000) (loose := Ev.loose) (d := HandSHeadRun.topDef (OpenLaw.row PySem.Challenge.rw_latewords_k08_states_of_great_lengths).prog 30) (kwd := []) Ev.ob_eq
    (by kernel_rfl) (fun s => by kernel_rfl) Ev.run (by kernel_rfl) (by kernel_rfl) (by kernel_rfl) (by rfl) (by first | assumption | decide +kernel) (by decide +kernel) ⟨rfl, rfl, rfl, rfl, rfl, by decide +kernel⟩ ?hw ?hc
  case hw => w_witness2
  case hc =>
    exact Ev.walk_Z (l := PySem.Challenge.rw_latewords_k08_states_of_great_lengths) (n := 63) (k := 8) (x := "_law_script") (nm := "law") (G := Ev.G_law) (ci := Ev.ci0) rfl (by decide) (by kernel_rfl) (by kernel_rfl) ⟨rfl, by decide, by decide⟩ Ev.law_true
      fun w K mg fa h KX c cx G hmg => Ev.facts KX G hmg c cx
