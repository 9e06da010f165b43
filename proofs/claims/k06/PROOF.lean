import PyProof.Rows.All
import Wide.All
import OpenK.AllK
import Wide.FinOn
import PyProof.EqAt
import PyProof.EqKinds
import PyProof.TupleCall
import HandS.ForMost
import HandS.Exc
import HandS.TryOnly
import HandS.ExcOwn
import HandS.WordsExc
import HandS.Zip
import HandS.Rev
import HandS.RevRange
import HandS.TupAny
import HandS.Wide
import HandS.IsInst
import HandS.TupLen
import HandS.Deep
import HandS.SortInts
import HandS.Conv
import KE.KEqDict
import HandS.Text
import HandS.Iter
import HandS.SetFor
import HandS.More
import KE.SortData
import HandS.EndBits
import HandS.TupLe
import HandS.SetKeys
import PyProof.DictMoreH
import KE.KDictWalk
import KE.KDictList
import PyProof.SeqIndex
import HandS.FStr
import HandS.TupSets
import KE.DataCmp
import HandS.TupMul
import PySem.Challenge.RW_askwithin_k06_questions_told
set_option Elab.async false
set_option linter.all false
set_option maxRecDepth 100000
namespace VS
open PySem PySem.Spec L2
open PyProof.Rows hiding St

/-! ### values as trees -/
inductive Tg where
  | own | shr | prt | brw | fzn
  deriving DecidableEq

inductive T where
  | non | bl (b : Bool) | int (i : Int) | str (x : Str)
  | tup (ts : List T) | tupN (ts : List T) | lst (g : Tg) (ts : List T) | dct (g : Tg) (kvs : List (T × T))

inductive R (α : Type) where
  | ok (a : α) | exc (c : Nat) | bad

def R.bind {α β : Type} : R α → (α → R β) → R β
  | .ok a, f => f a
  | .exc c, _ => .exc c
  | .bad, _ => .bad
instance : Monad R where
  pure := R.ok
  bind := R.bind
@[simp] theorem R.ok_bind {α β : Type} (a : α) (f : α → R β) : (R.ok a >>= f) = f a := id rfl
@[simp] theorem R.exc_bind {α β : Type} (c : Nat) (f : α → R β) : ((R.exc c : R α) >>= f) = R.exc c := id rfl
@[simp] theorem R.bad_bind {α β : Type} (f : α → R β) : ((R.bad : R α) >>= f) = R.bad := id rfl
@[simp] theorem R.pure_eq {α : Type} (a : α) : (pure a : R α) = R.ok a := id rfl

mutual
def T.tag (f : Tg → Tg) : T → T
  | .non => .non
  | .bl b => .bl b
  | .int i => .int i
  | .str x => .str x
  | .tup ts => .tup (T.tags f ts)
  | .tupN ts => .tupN (T.tags f ts)
  | .lst g ts => .lst (f g) (T.tags f ts)
  | .dct g kvs => .dct (f g) (T.tagD f kvs)
def T.tags (f : Tg → Tg) : List T → List T
  | [] => []
  | t :: ts => T.tag f t :: T.tags f ts
def T.tagD (f : Tg → Tg) : List (T × T) → List (T × T)
  | [] => []
  | (k, t) :: ts => (k, T.tag f t) :: T.tagD f ts
end
mutual
def T.has (g : Tg) : T → Bool
  | .tup ts => T.hasL g ts
  | .tupN ts => T.hasL g ts
  | .lst g' ts => decide (g' = g) || T.hasL g ts
  | .dct g' kvs => decide (g' = g) || T.hasD g kvs
  | _ => false
def T.hasL (g : Tg) : List T → Bool
  | [] => false
  | t :: ts => T.has g t || T.hasL g ts
def T.hasD (g : Tg) : List (T × T) → Bool
  | [] => false
  | (_, t) :: ts => T.has g t || T.hasD g ts
end

/-! ### a tree stands in the heap -/
abbrev Al := Tg → Addr → Prop
def kT : Key → T
  | .inl i => .int i
  | .inr x => .str x
def tT (ks : List Key) : T := .tup (ks.map kT)
/-- a dict's pairs, its keys as trees -/
def DIs (o : HO) (es : List (T × V)) : Prop :=
  (∃ ks : List (Key × V), o = .dK ks ∧ (ks.map (·.1)).Nodup ∧ es = ks.map fun p => (kT p.1, p.2)) ∨
  (∃ ks : List (List Key × V), o = .dT ks ∧ ks ≠ [] ∧ (ks.map (·.1)).Nodup ∧ es = ks.map fun p => (tT p.1, p.2))
/-- a list that is only read: the script -/
def FzL (K : PySem.W.Frag) (H : Hp) (a : Addr) (vs : List V) : Prop := (∃ ob, H a = some (.frz ob (.lst vs))) ∨
  ∃ (o : Obj) (its : Array Value) (n : Nat), K.lookup a = some o ∧ o.cls = .type "list" ∧ o.dict = none ∧ o.data = .seq its n ∧ its.size ≤ sizeLine ∧ Vals vs its.toList
def LAt (K : PySem.W.Frag) (H : Hp) (P : Al) (g : Tg) (a : Addr) (vs : List V) : Prop :=
  match g with
  | .own => H a = some (.lst vs)
  | .fzn => FzL K H a vs
  | g => H a = some (.lst vs) ∧ P g a
def DAt (H : Hp) (P : Al) (g : Tg) (a : Addr) (es : List (T × V)) : Prop :=
  match g with
  | .own => ∃ o, H a = some o ∧ DIs o es
  | .brw => (∃ o, H a = some o ∧ DIs o es) ∧ P .brw a
  | .fzn => False
  | g => (∃ o, Rd H a o ∧ DIs o es) ∧ P g a
def Fp (g : Tg) (a : Addr) (G F : List Addr) : Prop :=
  match g with
  | .own => F = a :: G
  | _ => G = [] ∧ F = []
/-- a tuple of which it is known that it has no dict of its own -/
def NAt (H : Hp) (a : Addr) (vs : List V) : Prop := ∃ ob : Obj, H a = some (.frz ob (.tup vs)) ∧ ob.dict = none
mutual
def Rep (K : PySem.W.Frag) (H : Hp) (P : Al) : T → V → List Addr → Prop
  | .non, v, F => v = .non ∧ F = []
  | .bl b, v, F => v = .bl b ∧ F = []
  | .int i, v, F => v = .int i ∧ F = []
  | .str x, v, F => v = .str x ∧ F = []
  | .tup ts, v, F => ∃ a vs, v = .ref a ∧ H a = some (.tup vs) ∧ Reps K H P ts vs F
  | .tupN ts, v, F => ∃ a vs, v = .ref a ∧ NAt H a vs ∧ Reps K H P ts vs F
  | .lst g ts, v, F => ∃ a vs G, v = .ref a ∧ LAt K H P g a vs ∧ Fp g a G F ∧ Reps K H P ts vs G
  | .dct g kvs, v, F => ∃ a es G, v = .ref a ∧ DAt H P g a es ∧ Fp g a G F ∧ RepD K H P kvs es G
def Reps (K : PySem.W.Frag) (H : Hp) (P : Al) : List T → List V → List Addr → Prop
  | [], vs, F => vs = [] ∧ F = []
  | t :: ts, vs, F => ∃ v r F1 F2, vs = v :: r ∧ F = F1 ++ F2 ∧ Rep K H P t v F1 ∧ Reps K H P ts r F2
def RepD (K : PySem.W.Frag) (H : Hp) (P : Al) : List (T × T) → List (T × V) → List Addr → Prop
  | [], es, F => es = [] ∧ F = []
  | (k, t) :: ts, es, F => ∃ v r F1 F2, es = (k, v) :: r ∧ F = F1 ++ F2 ∧ Rep K H P t v F1 ∧ RepD K H P ts r F2
end

theorem NAt.sqt {K : PySem.W.Frag} {H : Hp} {a : Addr} {vs : List V} (h : NAt H a vs) : SqT K H a vs := let ⟨ob, e, _⟩ := h; .inl (.inr ⟨ob, e⟩)
/-! ### what a change of the heap leaves -/
/-- all is kept but what is in W; W holds no tuples and nothing locked -/
structure Kp (W : Addr → Prop) (H H' : Hp) : Prop where
  keep : ∀ a o, H a = some o → ¬ W a → H' a = some o
  tup : ∀ a xs, W a → H a ≠ some (.tup xs)
  frz : ∀ a ob u, W a → H a ≠ some (.frz ob u)
section
variable {K : PySem.W.Frag} {H H' : Hp} {P P' : Al} {W : Addr → Prop}
theorem Kp.rd {a : Addr} {o : HO} (k : Kp W H H') (h : ¬ W a) (r : Rd H a o) : Rd H' a o := by
  rcases r with r | ⟨ob, r⟩
  · exact .inl (k.keep a _ r h)
  · exact .inr ⟨ob, k.keep a _ r h⟩
theorem Kp.seq {a : Addr} {vs : List V} (k : Kp W H H') (h : ¬ W a) (r : SqL K H a vs) : SqL K H' a vs := by
  rcases r with r | r
  · exact .inl (k.rd h r)
  · exact .inr r
theorem Kp.sqt {a : Addr} {vs : List V} (k : Kp W H H') (r : H a = some (.tup vs)) : H' a = some (.tup vs) := k.keep a _ r fun w => k.tup a _ w r
theorem Kp.nat {a : Addr} {vs : List V} (k : Kp W H H') (r : NAt H a vs) : NAt H' a vs := let ⟨ob, e, d⟩ := r; ⟨ob, k.keep a _ e fun w => k.frz a _ _ w e, d⟩
theorem FzL.keep {a : Addr} {vs : List V} (k : Kp W H H') (r : FzL K H a vs) : FzL K H' a vs := by
  rcases r with ⟨ob, r⟩ | r
  · exact .inl ⟨ob, k.keep a _ r fun w => k.frz a _ _ w r⟩
  · exact .inr r
theorem FzL.seq {a : Addr} {vs : List V} (r : FzL K H a vs) : SqL K H a vs := by
  rcases r with ⟨ob, r⟩ | r
  · exact .inl (.inr ⟨ob, r⟩)
  · exact .inr r
theorem LAt.keep {g : Tg} {a : Addr} {vs : List V} (k : Kp W H H') (h : ¬ W a) (hP : P g a → P' g a) (r : LAt K H P g a vs) : LAt K H' P' g a vs := by
  cases g with
  | own => exact k.keep a _ r h
  | shr => exact ⟨k.keep a _ r.1 h, hP r.2⟩
  | prt => exact ⟨k.keep a _ r.1 h, hP r.2⟩
  | brw => exact ⟨k.keep a _ r.1 h, hP r.2⟩
  | fzn => exact FzL.keep k r
theorem DAt.keep {g : Tg} {a : Addr} {es : List (T × V)} (k : Kp W H H') (h : ¬ W a) (hP : P g a → P' g a) (r : DAt H P g a es) : DAt H' P' g a es := by
  cases g with
  | own => obtain ⟨o, e, d⟩ := r; exact ⟨o, k.keep a _ e h, d⟩
  | shr => obtain ⟨⟨o, e, d⟩, p⟩ := r; exact ⟨⟨o, k.rd h e, d⟩, hP p⟩
  | prt => obtain ⟨⟨o, e, d⟩, p⟩ := r; exact ⟨⟨o, k.rd h e, d⟩, hP p⟩
  | brw => obtain ⟨⟨o, e, d⟩, p⟩ := r; exact ⟨⟨o, k.keep a _ e h, d⟩, hP p⟩
  | fzn => exact r.elim
theorem Fp.notW {g : Tg} {a : Addr} {G F : List Addr} (f : Fp g a G F) (hF : ∀ b ∈ F, ¬ W b) (hg : g ≠ .own → ¬ W a) : ¬ W a ∧ ∀ b ∈ G, ¬ W b := by
  cases g with
  | own => have e : F = a :: G := f; subst e; exact ⟨hF a (by simp), fun b hb => hF b (by simp [hb])⟩
  | shr => obtain ⟨rfl, rfl⟩ := f; exact ⟨hg (by simp), by simp⟩
  | prt => obtain ⟨rfl, rfl⟩ := f; exact ⟨hg (by simp), by simp⟩
  | brw => obtain ⟨rfl, rfl⟩ := f; exact ⟨hg (by simp), by simp⟩
  | fzn => obtain ⟨rfl, rfl⟩ := f; exact ⟨hg (by simp), by simp⟩
theorem rd_dom {H : Hp} {a : Addr} {o : HO} (r : Rd H a o) : H a ≠ none := by
  rcases r with r | ⟨ob, r⟩ <;> rw [r] <;> simp
theorem LAt.dom {K : PySem.W.Frag} {H : Hp} {P : Al} {g : Tg} {a : Addr} {vs : List V} (r : LAt K H P g a vs) (hz : g ≠ .fzn) : H a ≠ none := by
  cases g with
  | own => intro z; have r' : H a = some (.lst vs) := r; rw [z] at r'; cases r'
  | shr => exact rd_dom (.inl r.1)
  | prt => exact rd_dom (.inl r.1)
  | brw => exact rd_dom (.inl r.1)
  | fzn => exact absurd rfl hz
theorem DAt.dom {H : Hp} {P : Al} {g : Tg} {a : Addr} {es : List (T × V)} (r : DAt H P g a es) : H a ≠ none := by
  cases g with
  | own => obtain ⟨o, e, _⟩ := r; rw [e]; simp
  | shr => obtain ⟨⟨o, e, _⟩, _⟩ := r; exact rd_dom e
  | prt => obtain ⟨⟨o, e, _⟩, _⟩ := r; exact rd_dom e
  | brw => obtain ⟨⟨o, e, _⟩, _⟩ := r; exact rd_dom (.inl e)
  | fzn => exact r.elim
theorem LAt.al {g : Tg} {a : Addr} {vs : List V} (r : LAt K H P g a vs) (hg : g ≠ .own) (hz : g ≠ .fzn) : P g a := by
  cases g with
  | own => exact absurd rfl hg
  | shr => exact r.2
  | prt => exact r.2
  | brw => exact r.2
  | fzn => exact absurd rfl hz
theorem DAt.al {g : Tg} {a : Addr} {es : List (T × V)} (r : DAt H P g a es) (hg : g ≠ .own) : P g a := by
  cases g with
  | own => exact absurd rfl hg
  | shr => exact r.2
  | prt => exact r.2
  | brw => exact r.2
  | fzn => exact r.elim
mutual
theorem Rep.keep (k : Kp W H H') : ∀ (t : T) (v : V) (F : List Addr), (∀ g a, t.has g = true → g ≠ .own → H a ≠ none → P g a → P' g a ∧ ¬ W a) → (∀ a ∈ F, ¬ W a) → Rep K H P t v F → Rep K H' P' t v F
  | .non, v, F, _, _, x => x
  | .bl b, v, F, _, _, x => x
  | .int _, v, F, _, _, x => x
  | .str _, v, F, _, _, x => x
  | .tup ts, v, F, hP, hF, ⟨a, vs, e, s, r⟩ => ⟨a, vs, e, k.sqt s, Reps.keep k ts vs F (fun g b h => hP g b (by simpa [T.has] using h)) hF r⟩
  | .tupN ts, v, F, hP, hF, ⟨a, vs, e, s, r⟩ => ⟨a, vs, e, k.nat s, Reps.keep k ts vs F (fun g b h => hP g b (by simpa [T.has] using h)) hF r⟩
  | .lst g ts, v, F, hP, hF, ⟨a, vs, G, e, l, f, r⟩ => by
    by_cases hz : g = .fzn
    · subst hz
      obtain ⟨rfl, rfl⟩ : G = [] ∧ F = [] := f
      exact ⟨a, vs, [], e, FzL.keep k l, ⟨rfl, rfl⟩, Reps.keep k ts vs [] (fun g' b h => hP g' b (by simp [T.has, h])) (by simp) r⟩
    have hg : g ≠ .own → ¬ W a := fun n => (hP g a (by simp [T.has]) n (l.dom hz) (l.al n hz)).2
    have z := f.notW hF hg
    refine ⟨a, vs, G, e, ?_, f, Reps.keep k ts vs G (fun g' b h => hP g' b (by simp [T.has, h])) z.2 r⟩
    by_cases n : g = .own
    · subst n; exact l.keep k z.1 (fun p => p)
    · exact l.keep k z.1 (fun p => (hP g a (by simp [T.has]) n (l.dom hz) p).1)
  | .dct g kvs, v, F, hP, hF, ⟨a, es, G, e, l, f, r⟩ => by
    have hg : g ≠ .own → ¬ W a := fun n => (hP g a (by simp [T.has]) n l.dom (l.al n)).2
    have z := f.notW hF hg
    refine ⟨a, es, G, e, ?_, f, RepD.keep k kvs es G (fun g' b h => hP g' b (by simp [T.has, h])) z.2 r⟩
    by_cases n : g = .own
    · subst n; exact l.keep k z.1 (fun p => p)
    · exact l.keep k z.1 (fun p => (hP g a (by simp [T.has]) n l.dom p).1)
theorem Reps.keep (k : Kp W H H') : ∀ (ts : List T) (vs : List V) (F : List Addr), (∀ g a, T.hasL g ts = true → g ≠ .own → H a ≠ none → P g a → P' g a ∧ ¬ W a) → (∀ a ∈ F, ¬ W a) → Reps K H P ts vs F → Reps K H' P' ts vs F
  | [], _, _, _, _, x => x
  | t :: ts, vs, F, hP, hF, ⟨v, r, F1, F2, a, b, c, d⟩ => ⟨v, r, F1, F2, a, b,
      Rep.keep k t v F1 (fun g x h => hP g x (by simp [T.hasL, h])) (fun x hx => hF x (by simp [b, hx])) c,
      Reps.keep k ts r F2 (fun g x h => hP g x (by simp [T.hasL, h])) (fun x hx => hF x (by simp [b, hx])) d⟩
theorem RepD.keep (k : Kp W H H') : ∀ (ts : List (T × T)) (es : List (T × V)) (F : List Addr), (∀ g a, T.hasD g ts = true → g ≠ .own → H a ≠ none → P g a → P' g a ∧ ¬ W a) → (∀ a ∈ F, ¬ W a) → RepD K H P ts es F → RepD K H' P' ts es F
  | [], _, _, _, _, x => x
  | (kk, t) :: ts, vs, F, hP, hF, ⟨v, r, F1, F2, a, b, c, d⟩ => ⟨v, r, F1, F2, a, b,
      Rep.keep k t v F1 (fun g x h => hP g x (by simp [T.hasD, h])) (fun x hx => hF x (by simp [b, hx])) c,
      RepD.keep k ts r F2 (fun g x h => hP g x (by simp [T.hasD, h])) (fun x hx => hF x (by simp [b, hx])) d⟩
end
end
def Ext (H H' : Hp) : Prop := ∀ a o, H a = some o → H' a = some o
theorem Ext.refl (H : Hp) : Ext H H := fun _ _ e => e
theorem Ext.trans {H H1 H2 : Hp} (a : Ext H H1) (b : Ext H1 H2) : Ext H H2 := fun x o e => b x o (a x o e)
theorem Ext.kp {H H' : Hp} (e : Ext H H') : Kp (fun _ => False) H H' := ⟨fun a o h _ => e a o h, fun _ _ w => w.elim, fun _ _ _ w => w.elim⟩
theorem Ext.new {H : Hp} {p : Addr} {o : HO} (h : H p = none) : Ext H (upd H p o) := fun a u e => by
  rw [upd_ne (ne_of_none e h)]; exact e
theorem Rep.mono {K : PySem.W.Frag} {H H' : Hp} {P P' : Al} (e : Ext H H') {t : T} {v : V} {F : List Addr} (hP : ∀ g a, t.has g = true → g ≠ .own → H a ≠ none → P g a → P' g a) (r : Rep K H P t v F) : Rep K H' P' t v F :=
  Rep.keep e.kp t v F (fun g a h n d p => ⟨hP g a h n d p, fun z => z⟩) (fun _ _ z => z) r
theorem Reps.mono {K : PySem.W.Frag} {H H' : Hp} {P P' : Al} (e : Ext H H') {t : List T} {v : List V} {F : List Addr} (hP : ∀ g a, T.hasL g t = true → g ≠ .own → H a ≠ none → P g a → P' g a) (r : Reps K H P t v F) : Reps K H' P' t v F :=
  Reps.keep e.kp t v F (fun g a h n d p => ⟨hP g a h n d p, fun z => z⟩) (fun _ _ z => z) r
theorem Rep.ext {K : PySem.W.Frag} {H H' : Hp} {P : Al} (e : Ext H H') {t : T} {v : V} {F : List Addr} (r : Rep K H P t v F) : Rep K H' P t v F := r.mono e fun _ _ _ _ _ p => p
theorem Reps.ext {K : PySem.W.Frag} {H H' : Hp} {P : Al} (e : Ext H H') {t : List T} {v : List V} {F : List Addr} (r : Reps K H P t v F) : Reps K H' P t v F := r.mono e fun _ _ _ _ _ p => p

/-! ### other tags -/
/-- which tags turn to which: nothing that may be locked turns to what may not -/
structure TagOk (f : Tg → Tg) : Prop where
  fz : f .fzn = .fzn
  nb : ∀ g, f g = .brw → g = .brw ∨ g = .own
  nf : ∀ g, g ≠ .fzn → f g ≠ .fzn

section
variable {K : PySem.W.Frag} {H : Hp} {P P' : Al} {f : Tg → Tg}
/-- where own nodes stay own -/
theorem LAt.tagK {g : Tg} {a : Addr} {vs : List V} (hf : f .own = .own) (hn : ∀ g, g ≠ .own → f g ≠ .own) (hz : TagOk f) (hP : ∀ g a, g ≠ .own → P g a → P' (f g) a) (l : LAt K H P g a vs) : LAt K H P' (f g) a vs := by
  by_cases n : g = .own
  · subst n; rw [hf]; exact l
  · by_cases z : g = .fzn
    · subst z
      rw [hz.fz]; exact l
    · have p := hP g a n (l.al n z)
      have m := hn g n
      have s : H a = some (.lst vs) := by cases g <;> first | exact absurd rfl n | exact absurd rfl z | exact l.1
      have q := hz.nf g z
      cases e : f g <;> rw [e] at p m q <;> first | exact absurd rfl m | exact absurd rfl q | exact ⟨s, p⟩
theorem DAt.rd {H : Hp} {P : Al} {g : Tg} {a : Addr} {es : List (T × V)} (l : DAt H P g a es) : ∃ o, Rd H a o ∧ DIs o es := by
  cases g with
  | own => obtain ⟨o, e, d⟩ := l; exact ⟨o, .inl e, d⟩
  | brw => obtain ⟨⟨o, e, d⟩, _⟩ := l; exact ⟨o, .inl e, d⟩
  | shr => exact l.1
  | prt => exact l.1
  | fzn => exact l.elim
theorem DAt.tagK {g : Tg} {a : Addr} {vs : List (T × V)} (hf : f .own = .own) (hn : ∀ g, g ≠ .own → f g ≠ .own) (hz : TagOk f) (hP : ∀ g a, g ≠ .own → P g a → P' (f g) a) (l : DAt H P g a vs) : DAt H P' (f g) a vs := by
  by_cases n : g = .own
  · subst n; rw [hf]; exact l
  · have p := hP g a n (l.al n)
    have m := hn g n
    have s := l.rd
    have nz : g ≠ .fzn := fun z => by subst z; exact l.elim
    cases e : f g with
    | own => exact absurd e m
    | brw =>
      rw [e] at p
      have := (hz.nb g e).resolve_right n
      subst this
      exact ⟨l.1, p⟩
    | shr => rw [e] at p; exact ⟨s, p⟩
    | prt => rw [e] at p; exact ⟨s, p⟩
    | fzn => exact absurd e (hz.nf g nz)
theorem Fp.tagK {g : Tg} {a : Addr} {G F : List Addr} (hf : f .own = .own) (hn : ∀ g, g ≠ .own → f g ≠ .own) (h : Fp g a G F) : Fp (f g) a G F := by
  by_cases n : g = .own
  · subst n; rw [hf]; exact h
  · have m := hn g n
    have s : G = [] ∧ F = [] := by cases g <;> first | exact absurd rfl n | exact h
    cases e : f g <;> rw [e] at m <;> first | exact absurd rfl m | exact s
mutual
theorem Rep.tagK (hf : f .own = .own) (hn : ∀ g, g ≠ .own → f g ≠ .own) (hz : TagOk f) (hP : ∀ g a, g ≠ .own → P g a → P' (f g) a) : ∀ (t : T) (v : V) (F : List Addr), Rep K H P t v F → Rep K H P' (t.tag f) v F
  | .non, v, F, x => x
  | .bl b, v, F, x => x
  | .int _, v, F, x => x
  | .str _, v, F, x => x
  | .tup ts, v, F, ⟨a, vs, e, s, r⟩ => ⟨a, vs, e, s, Reps.tagK hf hn hz hP ts vs F r⟩
  | .tupN ts, v, F, ⟨a, vs, e, s, r⟩ => ⟨a, vs, e, s, Reps.tagK hf hn hz hP ts vs F r⟩
  | .lst g ts, v, F, ⟨a, vs, G, e, l, p, r⟩ => ⟨a, vs, G, e, l.tagK hf hn hz hP, p.tagK hf hn, Reps.tagK hf hn hz hP ts vs G r⟩
  | .dct g kvs, v, F, ⟨a, es, G, e, l, p, r⟩ => ⟨a, es, G, e, l.tagK hf hn hz hP, p.tagK hf hn, RepD.tagK hf hn hz hP kvs es G r⟩
theorem Reps.tagK (hf : f .own = .own) (hn : ∀ g, g ≠ .own → f g ≠ .own) (hz : TagOk f) (hP : ∀ g a, g ≠ .own → P g a → P' (f g) a) : ∀ (ts : List T) (vs : List V) (F : List Addr), Reps K H P ts vs F → Reps K H P' (T.tags f ts) vs F
  | [], _, _, x => x
  | t :: ts, vs, F, ⟨v, r, F1, F2, a, b, c, d⟩ => ⟨v, r, F1, F2, a, b, Rep.tagK hf hn hz hP t v F1 c, Reps.tagK hf hn hz hP ts r F2 d⟩
theorem RepD.tagK (hf : f .own = .own) (hn : ∀ g, g ≠ .own → f g ≠ .own) (hz : TagOk f) (hP : ∀ g a, g ≠ .own → P g a → P' (f g) a) : ∀ (ts : List (T × T)) (es : List (T × V)) (F : List Addr), RepD K H P ts es F → RepD K H P' (T.tagD f ts) es F
  | [], _, _, x => x
  | (kk, t) :: ts, vs, F, ⟨v, r, F1, F2, a, b, c, d⟩ => ⟨v, r, F1, F2, a, b, Rep.tagK hf hn hz hP t v F1 c, RepD.tagK hf hn hz hP ts r F2 d⟩
end
/-- where own nodes become others -/
theorem LAt.tagN {g : Tg} {a : Addr} {vs : List V} {G F : List Addr} (hn : ∀ g, f g ≠ .own) (hz : TagOk f) (hP : ∀ g a, g ≠ .own → P g a → P' (f g) a) (hp : Fp g a G F) (hF : ∀ b ∈ F, P' (f .own) b) (l : LAt K H P g a vs) : LAt K H P' (f g) a vs := by
  have m := hn g
  by_cases z : g = .fzn
  · subst z
    rw [hz.fz]; exact l
  · have s : H a = some (.lst vs) ∧ P' (f g) a := by
      by_cases n : g = .own
      · subst n
        have e : F = a :: G := hp
        exact ⟨l, hF a (by rw [e]; simp)⟩
      · refine ⟨?_, hP g a n (l.al n z)⟩
        cases g <;> first | exact absurd rfl n | exact absurd rfl z | exact l.1
    have q := hz.nf g z
    cases e : f g <;> rw [e] at s m q <;> first | exact absurd rfl m | exact absurd rfl q | exact s
theorem DAt.tagN {g : Tg} {a : Addr} {vs : List (T × V)} {G F : List Addr} (hn : ∀ g, f g ≠ .own) (hz : TagOk f) (hP : ∀ g a, g ≠ .own → P g a → P' (f g) a) (hp : Fp g a G F) (hF : ∀ b ∈ F, P' (f .own) b) (l : DAt H P g a vs) : DAt H P' (f g) a vs := by
  have m := hn g
  have s := l.rd
  have nz : g ≠ .fzn := fun z => by subst z; exact l.elim
  have q : P' (f g) a := by
    by_cases n : g = .own
    · subst n
      have e : F = a :: G := hp
      exact hF a (by rw [e]; simp)
    · exact hP g a n (l.al n)
  cases e : f g with
  | own => exact absurd e m
  | brw =>
    rw [e] at q
    rcases hz.nb g e with z | z
    · subst z; exact ⟨l.1, q⟩
    · subst z; exact ⟨l, q⟩
  | shr => rw [e] at q; exact ⟨s, q⟩
  | prt => rw [e] at q; exact ⟨s, q⟩
  | fzn => exact absurd e (hz.nf g nz)
theorem Fp.sub {g : Tg} {a : Addr} {G F : List Addr} (h : Fp g a G F) : ∀ b ∈ G, b ∈ F := by
  cases g with
  | own => have e : F = a :: G := h; subst e; intro b hb; simp [hb]
  | shr => obtain ⟨rfl, rfl⟩ := h; simp
  | prt => obtain ⟨rfl, rfl⟩ := h; simp
  | brw => obtain ⟨rfl, rfl⟩ := h; simp
  | fzn => obtain ⟨rfl, rfl⟩ := h; simp
theorem Fp.nil {g : Tg} {a : Addr} (h : g ≠ .own) : Fp g a [] [] := by cases g <;> first | exact absurd rfl h | exact ⟨rfl, rfl⟩
mutual
theorem Rep.tagN (hn : ∀ g, f g ≠ .own) (hz : TagOk f) (hP : ∀ g a, g ≠ .own → P g a → P' (f g) a) : ∀ (t : T) (v : V) (F : List Addr), (∀ b ∈ F, P' (f .own) b) → Rep K H P t v F → Rep K H P' (t.tag f) v []
  | .non, v, F, _, x => ⟨x.1, rfl⟩
  | .bl b, v, F, _, x => ⟨x.1, rfl⟩
  | .int _, v, F, _, x => ⟨x.1, rfl⟩
  | .str _, v, F, _, x => ⟨x.1, rfl⟩
  | .tup ts, v, F, hF, ⟨a, vs, e, s, r⟩ => ⟨a, vs, e, s, Reps.tagN hn hz hP ts vs F hF r⟩
  | .tupN ts, v, F, hF, ⟨a, vs, e, s, r⟩ => ⟨a, vs, e, s, Reps.tagN hn hz hP ts vs F hF r⟩
  | .lst g ts, v, F, hF, ⟨a, vs, G, e, l, p, r⟩ => ⟨a, vs, [], e, l.tagN hn hz hP p hF, Fp.nil (hn g), Reps.tagN hn hz hP ts vs G (fun b hb => hF b (p.sub b hb)) r⟩
  | .dct g kvs, v, F, hF, ⟨a, es, G, e, l, p, r⟩ => ⟨a, es, [], e, l.tagN hn hz hP p hF, Fp.nil (hn g), RepD.tagN hn hz hP kvs es G (fun b hb => hF b (p.sub b hb)) r⟩
theorem Reps.tagN (hn : ∀ g, f g ≠ .own) (hz : TagOk f) (hP : ∀ g a, g ≠ .own → P g a → P' (f g) a) : ∀ (ts : List T) (vs : List V) (F : List Addr), (∀ b ∈ F, P' (f .own) b) → Reps K H P ts vs F → Reps K H P' (T.tags f ts) vs []
  | [], _, _, _, x => ⟨x.1, rfl⟩
  | t :: ts, vs, F, hF, ⟨v, r, F1, F2, a, b, c, d⟩ => ⟨v, r, [], [], a, rfl, Rep.tagN hn hz hP t v F1 (fun x hx => hF x (by simp [b, hx])) c, Reps.tagN hn hz hP ts r F2 (fun x hx => hF x (by simp [b, hx])) d⟩
theorem RepD.tagN (hn : ∀ g, f g ≠ .own) (hz : TagOk f) (hP : ∀ g a, g ≠ .own → P g a → P' (f g) a) : ∀ (ts : List (T × T)) (es : List (T × V)) (F : List Addr), (∀ b ∈ F, P' (f .own) b) → RepD K H P ts es F → RepD K H P' (T.tagD f ts) es []
  | [], _, _, _, x => ⟨x.1, rfl⟩
  | (kk, t) :: ts, vs, F, hF, ⟨v, r, F1, F2, a, b, c, d⟩ => ⟨v, r, [], [], a, rfl, Rep.tagN hn hz hP t v F1 (fun x hx => hF x (by simp [b, hx])) c, RepD.tagN hn hz hP ts r F2 (fun x hx => hF x (by simp [b, hx])) d⟩
end
end
end VS

namespace VS
open PySem PySem.Spec L2
open PyProof.Rows hiding St

abbrev EnvT := List (Option T)
abbrev FE := EnvT → R T
inductive Out where
  | nx (e : EnvT) | rt (t : T) | bk (e : EnvT) | ct (e : EnvT) | exc (c : Nat) (e : EnvT) | bad
abbrev FS := EnvT → Out
abbrev Fps := Nat → List Addr
def Aw (fp : Fps) (a : Addr) : Prop := ∃ i, a ∈ fp i
def fset (fp : Fps) (i : Nat) (F : List Addr) : Fps := fun j => if j = i then F else fp j
theorem fset_same {fp : Fps} {i : Nat} {F : List Addr} : fset fp i F i = F := if_pos rfl
theorem fset_ne {fp : Fps} {i j : Nat} {F : List Addr} (h : j ≠ i) : fset fp i F j = fp j := if_neg h
def Nz : Addr → Prop := fun _ => False
/-- hidden cells O, protected ones C, owned ones A; what is looked at: Z -/
def Pm (O C A Z : Addr → Prop) : Al := fun g a => match g with
  | .own => True
  | .shr => ¬ O a ∧ ¬ A a ∧ ¬ C a
  | .prt => ¬ O a ∧ ¬ A a
  | .brw => Z a
  | .fzn => ¬ O a ∧ ¬ A a
def view : Tg → Tg
  | .own => .brw
  | g => g
def frze : Tg → Tg
  | .own => .shr
  | g => g
def lend : Tg → Tg
  | .brw => .prt
  | g => g

/-- a frame's constants: the heap at its entry, what was handed over to it, what is hidden, what is protected -/
structure Bx where
  H0 : Hp
  F0 : Addr → Prop
  O : Addr → Prop
  C : Addr → Prop
structure Sta (K : PySem.W.Frag) (B : Bx) (env : EnvT) (σ : St) (H : Hp) (fp : Fps) : Prop where
  len : env.length = σ.length
  slot : ∀ i t, env[i]? = some (some t) → ∃ v, σ[i]? = some (some v) ∧ Rep K H (Pm B.O B.C (Aw fp) Nz) t v (fp i)
  emp : ∀ i, (∀ t, env[i]? ≠ some (some t)) → fp i = []
  nd : ∀ i, (fp i).Nodup
  dj : ∀ i j a, i ≠ j → a ∈ fp i → a ∉ fp j
  ext : ∀ a o, B.H0 a = some o → ¬ B.F0 a → H a = some o
  own : ∀ i a, a ∈ fp i → B.H0 a = none ∨ B.F0 a
  dom : ∀ a, B.O a ∨ B.C a → H a ≠ none
  dis : ∀ i a, a ∈ fp i → ¬ B.O a ∧ ¬ B.C a

mutual
theorem Rep.own_dom {K : PySem.W.Frag} {H : Hp} {P : Al} : ∀ (t : T) (v : V) (F : List Addr), Rep K H P t v F → ∀ a ∈ F, H a ≠ none
  | .non, _, _, ⟨_, e⟩ => by rw [e]; simp
  | .bl _, _, _, ⟨_, e⟩ => by rw [e]; simp
  | .int _, _, _, ⟨_, e⟩ => by rw [e]; simp
  | .str _, _, _, ⟨_, e⟩ => by rw [e]; simp
  | .tup ts, _, F, ⟨_, vs, _, _, r⟩ => Reps.own_dom ts vs F r
  | .tupN ts, _, F, ⟨_, vs, _, _, r⟩ => Reps.own_dom ts vs F r
  | .lst g ts, _, F, ⟨b, vs, G, _, l, p, r⟩ => by
    have ih := Reps.own_dom ts vs G r
    cases g with
    | own => have e : F = b :: G := p; subst e; intro a ha; rcases List.mem_cons.mp ha with rfl | ha; exact (l.dom (by simp)); exact ih a ha
    | shr => obtain ⟨_, rfl⟩ := p; simp
    | prt => obtain ⟨_, rfl⟩ := p; simp
    | brw => obtain ⟨_, rfl⟩ := p; simp
    | fzn => obtain ⟨_, rfl⟩ := p; simp
  | .dct g ts, _, F, ⟨b, vs, G, _, l, p, r⟩ => by
    have ih := RepD.own_dom ts vs G r
    cases g with
    | own => have e : F = b :: G := p; subst e; intro a ha; rcases List.mem_cons.mp ha with rfl | ha; exact l.dom; exact ih a ha
    | shr => obtain ⟨_, rfl⟩ := p; simp
    | prt => obtain ⟨_, rfl⟩ := p; simp
    | brw => obtain ⟨_, rfl⟩ := p; simp
    | fzn => obtain ⟨_, rfl⟩ := p; simp
theorem Reps.own_dom {K : PySem.W.Frag} {H : Hp} {P : Al} : ∀ (ts : List T) (vs : List V) (F : List Addr), Reps K H P ts vs F → ∀ a ∈ F, H a ≠ none
  | [], _, _, ⟨_, e⟩ => by rw [e]; simp
  | t :: ts, _, F, ⟨v, r, F1, F2, _, e, c, d⟩ => by
    subst e
    intro a ha
    rcases List.mem_append.mp ha with ha | ha
    · exact Rep.own_dom t v F1 c a ha
    · exact Reps.own_dom ts r F2 d a ha
theorem RepD.own_dom {K : PySem.W.Frag} {H : Hp} {P : Al} : ∀ (ts : List (T × T)) (vs : List (T × V)) (F : List Addr), RepD K H P ts vs F → ∀ a ∈ F, H a ≠ none
  | [], _, _, ⟨_, e⟩ => by rw [e]; simp
  | (_, t) :: ts, _, F, ⟨v, r, F1, F2, _, e, c, d⟩ => by
    subst e
    intro a ha
    rcases List.mem_append.mp ha with ha | ha
    · exact Rep.own_dom t v F1 c a ha
    · exact RepD.own_dom ts r F2 d a ha
end

section
variable {K : PySem.W.Frag} {B : Bx} {env : EnvT} {σ : St} {H H' : Hp} {fp : Fps}
theorem Sta.odom (s : Sta K B env σ H fp) {a : Addr} (h : Aw fp a) : H a ≠ none := by
  obtain ⟨i, hi⟩ := h
  by_cases c : ∃ t, env[i]? = some (some t)
  · obtain ⟨t, e⟩ := c
    obtain ⟨v, _, r⟩ := s.slot i t e
    exact r.own_dom _ _ _ a hi
  · have z := s.emp i (fun t e => c ⟨t, e⟩)
    rw [z] at hi; simp at hi
/-- THE STEP: slot i's own cells may have changed; its new tree stands -/
theorem Sta.changeE {i : Nat} {t : T} {v : V} {F : List Addr} {E : Addr → Prop} (s : Sta K B env σ H fp) (hi : i < env.length) (k : Kp (fun a => a ∈ fp i) H H')
    (r : Rep K H' (Pm (fun a => B.O a ∨ E a) B.C (Aw (fset fp i F)) Nz) t v F) (nd : F.Nodup) (hF : ∀ a ∈ F, a ∈ fp i ∨ H a = none) (hE : ∀ a, E a → (a ∈ fp i ∨ H a = none) ∧ a ∉ F ∧ H' a ≠ none) : Sta K { B with O := fun a => B.O a ∨ E a } (env.set i (some t)) (σ.set i (some v)) H' (fset fp i F) := by
  have hiσ : i < σ.length := by rw [← s.len]; exact hi
  have hnA : ∀ a, H a ≠ none → ¬ Aw fp a → ¬ Aw (fset fp i F) a := fun a d n ⟨j, hj⟩ => by
    by_cases c : j = i
    · subst c; rw [fset_same] at hj
      rcases hF a hj with z | z
      · exact n ⟨_, z⟩
      · exact d z
    · rw [fset_ne c] at hj; exact n ⟨j, hj⟩
  have hnE : ∀ a, H a ≠ none → ¬ Aw fp a → ¬ E a := fun a d n z => (hE a z).1.elim (fun z => n ⟨i, z⟩) d
  refine ⟨by simpa using s.len, ?_, ?_, ?_, ?_, ?_, ?_, ?_, ?_⟩
  · intro j u e
    by_cases c : j = i
    · subst c
      rw [List.getElem?_set_self hi] at e
      cases e
      exact ⟨v, by rw [List.getElem?_set_self hiσ], by rw [fset_same]; exact r⟩
    · rw [List.getElem?_set_ne (Ne.symm c)] at e
      obtain ⟨v', e', r'⟩ := s.slot j u e
      refine ⟨v', by rw [List.getElem?_set_ne (Ne.symm c)]; exact e', ?_⟩
      rw [fset_ne c]
      refine Rep.keep k u v' (fp j) (fun g a hg n d p => ?_) (fun a ha => s.dj j i a c ha) r'
      cases g with
      | own => exact absurd rfl n
      | shr => exact ⟨⟨fun z => z.elim p.1 (hnE a d p.2.1), hnA a d p.2.1, p.2.2⟩, fun w => p.2.1 ⟨i, w⟩⟩
      | prt => exact ⟨⟨fun z => z.elim p.1 (hnE a d p.2), hnA a d p.2⟩, fun w => p.2 ⟨i, w⟩⟩
      | brw => exact (show False from p).elim
      | fzn => exact ⟨⟨fun z => z.elim p.1 (hnE a d p.2), hnA a d p.2⟩, fun w => p.2 ⟨i, w⟩⟩
  · intro j e
    by_cases c : j = i
    · subst c; exact absurd (List.getElem?_set_self hi) (e t)
    · rw [fset_ne c]; exact s.emp j (fun u z => e u (by rw [List.getElem?_set_ne (Ne.symm c)]; exact z))
  · intro j
    by_cases c : j = i
    · subst c; rw [fset_same]; exact nd
    · rw [fset_ne c]; exact s.nd j
  · intro j l a hjl ha hb
    by_cases c : j = i
    · subst c
      rw [fset_same] at ha
      rw [fset_ne (Ne.symm hjl)] at hb
      rcases hF a ha with z | z
      · exact s.dj j l a hjl z hb
      · exact s.odom ⟨l, hb⟩ z
    · rw [fset_ne c] at ha
      by_cases d : l = i
      · subst d
        rw [fset_same] at hb
        rcases hF a hb with z | z
        · exact s.dj j l a hjl ha z
        · exact s.odom ⟨j, ha⟩ z
      · rw [fset_ne d] at hb; exact s.dj j l a hjl ha hb
  · intro a o e n
    refine k.keep a o (s.ext a o e n) (fun w => ?_)
    rcases s.own i a w with z | z
    · rw [e] at z; cases z
    · exact n z
  · intro j a ha
    have base : ∀ a, H a = none → B.H0 a = none ∨ B.F0 a := fun a z => by
      by_cases c : B.F0 a
      · exact .inr c
      · cases e : B.H0 a with
        | none => exact .inl rfl
        | some o => rw [s.ext a o e c] at z; cases z
    by_cases c : j = i
    · subst c; rw [fset_same] at ha
      rcases hF a ha with z | z
      · exact s.own j a z
      · exact base a z
    · rw [fset_ne c] at ha; exact s.own j a ha
  · intro a oc
    have oc' : (B.O a ∨ B.C a) ∨ E a := oc.elim (fun z => z.elim (fun z => .inl (.inl z)) .inr) fun z => .inl (.inr z)
    rcases oc' with oc | oc
    · have d := s.dom a oc
      cases e : H a with
      | none => exact absurd e d
      | some o =>
        rw [k.keep a o e (fun w => ?_)]; simp
        rcases oc with z | z
        · exact (s.dis i a w).1 z
        · exact (s.dis i a w).2 z
    · exact (hE a oc).2.2
  · intro j a ha
    by_cases c : j = i
    · subst c; rw [fset_same] at ha
      refine ⟨fun z => z.elim (fun z => ?_) (fun z => (hE a z).2.1 ha), ?_⟩
      · rcases hF a ha with w | w
        · exact (s.dis j a w).1 z
        · exact s.dom a (.inl z) w
      · rcases hF a ha with w | w
        · exact (s.dis j a w).2
        · exact fun z => s.dom a (.inr z) w
    · rw [fset_ne c] at ha
      refine ⟨fun z => z.elim (s.dis j a ha).1 fun z => ?_, (s.dis j a ha).2⟩
      exact (hE a z).1.elim (fun w => s.dj j i a c ha w) (fun w => s.odom ⟨j, ha⟩ w)
/-- .. nothing more is hidden -/
theorem Sta.change {i : Nat} {t : T} {v : V} {F : List Addr} (s : Sta K B env σ H fp) (hi : i < env.length) (k : Kp (fun a => a ∈ fp i) H H')
    (r : Rep K H' (Pm B.O B.C (Aw (fset fp i F)) Nz) t v F) (nd : F.Nodup) (hF : ∀ a ∈ F, a ∈ fp i ∨ H a = none) : Sta K B (env.set i (some t)) (σ.set i (some v)) H' (fset fp i F) := by
  have := s.changeE (E := fun _ => False) hi k (r.mono (Ext.refl _) fun g a _ _ _ p => ?_) nd hF (fun _ z => z.elim)
  · have e : { B with O := fun a => B.O a ∨ False } = B := by cases B; simp
    rw [e] at this; exact this
  · cases g with
    | own => trivial
    | shr => exact ⟨fun z => z.elim p.1 id, p.2⟩
    | prt => exact ⟨fun z => z.elim p.1 id, p.2⟩
    | brw => exact p
    | fzn => exact ⟨fun z => z.elim p.1 id, p.2⟩
theorem Ext.kpW {W : Addr → Prop} (e : Ext H H') (h : ∀ a, W a → ∃ o, H a = some o ∧ (∀ xs, o ≠ .tup xs) ∧ ∀ ob u, o ≠ .frz ob u) : Kp W H H' :=
  ⟨fun a o h _ => e a o h, fun a xs w z => by obtain ⟨o, e, h1, _⟩ := h a w; rw [e] at z; exact h1 xs (Option.some.inj z), fun a ob u w z => by obtain ⟨o, e, _, h2⟩ := h a w; rw [e] at z; exact h2 ob u (Option.some.inj z)⟩
/-- nothing that stood has changed -/
theorem Sta.grow (s : Sta K B env σ H fp) (e : Ext H H') : Sta K B env σ H' fp :=
  ⟨s.len, fun i t h => let ⟨v, a, r⟩ := s.slot i t h; ⟨v, a, r.ext e⟩, s.emp, s.nd, s.dj, fun a o h n => e a o (s.ext a o h n), s.own,
    (fun a oc z => by
      cases q : H a with
      | none => exact s.dom a oc q
      | some o => rw [e a o q] at z; cases z), s.dis⟩
/-- cells that are new are hidden -/
theorem Sta.push {F : Addr → Prop} (s : Sta K B env σ H fp) (e : Ext H H') (hF : ∀ a, F a → H a = none ∧ H' a ≠ none) : Sta K { B with O := fun a => B.O a ∨ F a } env σ H' fp := by
  refine ⟨s.len, fun i t h => ?_, s.emp, s.nd, s.dj, fun a o h n => e a o (s.ext a o h n), s.own, fun a oc => ?_, fun i a ha => ⟨?_, (s.dis i a ha).2⟩⟩
  · obtain ⟨v, a, r⟩ := s.slot i t h
    refine ⟨v, a, r.mono e fun g b hg n d p => ?_⟩
    have nF : ¬ F b := fun z => d (hF b z).1
    cases g with
    | own => exact absurd rfl n
    | shr => exact ⟨fun z => z.elim p.1 nF, p.2⟩
    | prt => exact ⟨fun z => z.elim p.1 nF, p.2⟩
    | brw => exact p
    | fzn => exact ⟨fun z => z.elim p.1 nF, p.2⟩
  · rcases oc with (z | z) | z
    · exact (s.grow e).dom a (.inl z)
    · exact (hF a z).2
    · exact (s.grow e).dom a (.inr z)
  · rintro (z | z)
    · exact (s.dis i a ha).1 z
    · exact s.odom ⟨i, ha⟩ (hF a z).1
/-- what a slot holds, looked at -/
theorem Sta.get {i : Nat} {t : T} (s : Sta K B env σ H fp) (h : env[i]? = some (some t)) : ∃ v, σ[i]? = some (some v) ∧ Rep K H (Pm B.O B.C (Aw fp) (Aw fp)) (t.tag view) v [] := by
  obtain ⟨v, e, r⟩ := s.slot i t h
  refine ⟨v, e, Rep.tagN (f := view) (fun g => by cases g <;> simp [view]) ⟨rfl, fun g => by cases g <;> simp [view], fun g => by cases g <;> simp [view]⟩ (fun g a n p => ?_) t v _ (fun b hb => ⟨i, hb⟩) r⟩
  cases g with
  | own => exact absurd rfl n
  | shr => exact p
  | prt => exact p
  | brw => exact (show False from p).elim
  | fzn => exact p
/-- another entry heap -/
theorem Sta.local_ (s : Sta K B env σ H fp) : Sta K { B with H0 := H, F0 := Aw fp } env σ H fp :=
  ⟨s.len, s.slot, s.emp, s.nd, s.dj, fun _ _ e _ => e, fun i a h => .inr ⟨i, h⟩, s.dom, s.dis⟩
theorem Sta.back {env' : EnvT} {σ' : St} {fp' : Fps} (s : Sta K B env σ H fp) (s' : Sta K { B with H0 := H, F0 := Aw fp } env' σ' H' fp') : Sta K B env' σ' H' fp' := by
  refine ⟨s'.len, s'.slot, s'.emp, s'.nd, s'.dj, fun a o e n => ?_, fun i a h => ?_, s'.dom, s'.dis⟩
  · refine s'.ext a o (s.ext a o e n) (fun ⟨j, hj⟩ => ?_)
    rcases s.own j a hj with z | z
    · rw [e] at z; cases z
    · exact n z
  · rcases s'.own i a h with z | ⟨j, z⟩
    · by_cases c : B.F0 a
      · exact .inr c
      · cases e : B.H0 a with
        | none => exact .inl rfl
        | some o => have q := s.ext a o e c; have z' : H a = none := z; rw [q] at z'; cases z'
    · exact s.own j a z
end

/-! ### what expressions and statements mean -/
/-- the owned cells and a value's own -/
def AF (A : Addr → Prop) (F : List Addr) : Addr → Prop := fun a => A a ∨ a ∈ F
theorem AF.nil (A : Addr → Prop) {a : Addr} (h : AF A [] a) : A a := h.elim id fun z => by simp at z
def Post (K : PySem.W.Frag) (H : Hp) (B : Bx) (A : Addr → Prop) (Wc : Nat → Hp → Prop) (Q : VK) : R T → Prop
  | .ok t => ∀ v H' F, Ext H H' → Rep K H' (Pm B.O B.C (AF A F) A) t v F → F.Nodup → (∀ a ∈ F, H a = none) → Q v H'
  | .exc c => ∀ H', Ext H H' → Wc c H'
  | .bad => False
def PostL (K : PySem.W.Frag) (H : Hp) (B : Bx) (A : Addr → Prop) (Wc : Nat → Hp → Prop) (Q : List V → Hp → Prop) : R (List T) → Prop
  | .ok ts => ∀ vs H' F, Ext H H' → Reps K H' (Pm B.O B.C (AF A F) A) ts vs F → F.Nodup → (∀ a ∈ F, H a = none) → Q vs H'
  | .exc c => ∀ H', Ext H H' → Wc c H'
  | .bad => False
def PostB (H : Hp) (Wc : Nat → Hp → Prop) (Q : Bool → Hp → Prop) : R Bool → Prop
  | .ok b => ∀ H', Ext H H' → Q b H'
  | .exc c => ∀ H', Ext H H' → Wc c H'
  | .bad => False
abbrev wx (W : WX) (ec : Nat → Addr) (σ : St) : Nat → Hp → Prop := fun c H' => W (.ref (ec c)) none σ H'
def tD (K : PySem.W.Frag) (ec : Nat → Addr) (W : WX) (f : FE) : TE := fun σ H Q => ∃ B env fp, Sta K B env σ H fp ∧ Post K H B (Aw fp) (wx W ec σ) Q (f env)
def tDA (K : PySem.W.Frag) (ec : Nat → Addr) (W : WX) (f : EnvT → R (List T)) : TA := fun σ H Q => ∃ B env fp, Sta K B env σ H fp ∧ PostL K H B (Aw fp) (wx W ec σ) Q (f env)
def tDT (K : PySem.W.Frag) (ec : Nat → Addr) (W : WX) (f : EnvT → R Bool) : TT := fun σ H Q => ∃ B env fp, Sta K B env σ H fp ∧ PostB H (wx W ec σ) Q (f env)
structure DE (X : Cx) (ec : Nat → Addr) (W : WX) (e : Expr) (f : FE) : Prop where
  run : PE X e (tD X.K ec W f)
structure DA (X : Cx) (ec : Nat → Addr) (W : WX) (es : List Expr) (f : EnvT → R (List T)) : Prop where
  run : PA X es (tDA X.K ec W f)
  len : ∀ env ts, f env = .ok ts → ts.length = es.length
structure DT (X : Cx) (ec : Nat → Addr) (W : WX) (e : Expr) (f : EnvT → R Bool) : Prop where
  run : PT X e (tDT X.K ec W f)
structure DW (X : Cx) (ec : Nat → Addr) (W : WX) (e : Expr) (f : EnvT → R Bool) : Prop where
  run : PW X e (tDT X.K ec W f)
theorem pe_mono {X : Cx} {e : Expr} {t t' : TE} (h : PE X e t) (i : ∀ σ H Q, t' σ H Q → t σ H Q) : PE X e t' := ⟨fun pins s σ H Q I q => h.run pins s σ H Q I (i σ H Q q)⟩
theorem pt_mono {X : Cx} {e : Expr} {t t' : TT} (h : PT X e t) (i : ∀ σ H Q, t' σ H Q → t σ H Q) : PT X e t' := ⟨fun pins s σ H Q I q => h.run pins s σ H Q I (i σ H Q q)⟩
theorem pw_mono {X : Cx} {e : Expr} {t t' : TT} (h : PW X e t) (i : ∀ σ H Q, t' σ H Q → t σ H Q) : PW X e t' := ⟨fun w pins s σ H Q I q => h.run w pins s σ H Q I (i σ H Q q)⟩
theorem pa_mono {X : Cx} {e : List Expr} {t t' : TA} (h : PA X e t) (i : ∀ σ H Q, t' σ H Q → t σ H Q) : PA X e t' := ⟨fun w pins s σ H Q I q => h.run w pins s σ H Q I (i σ H Q q)⟩
theorem ps_mono {X : Cx} {e : Stmt} {t t' : TS} (h : PS X e t) (i : ∀ D σ H, t' D σ H → t D σ H) : PS X e t' := ⟨fun pins s σ H D I q => h.run pins s σ H D I (i D σ H q)⟩
theorem pss_mono {X : Cx} {e : List Stmt} {t t' : TS} (h : PSs X e t) (i : ∀ D σ H, t' D σ H → t D σ H) : PSs X e t' := ⟨fun pins s σ H D I q => h.run pins s σ H D I (i D σ H q)⟩

section
variable {K : PySem.W.Frag} {ec : Nat → Addr} {W : WX} {B : Bx} {env : EnvT} {σ : St} {H H1 : Hp} {fp : Fps} {Q : VK}
theorem Pm.to {O C A Z O' A' Z' : Addr → Prop} {a : Addr} {g : Tg} (ho : O a → O' a) (ha : A a → A' a) (hz : Z' a → Z a) (p : Pm O' C A' Z' g a) : Pm O C A Z g a := by
  cases g with
  | own => trivial
  | shr => exact ⟨fun z => p.1 (ho z), fun z => p.2.1 (ha z), p.2.2⟩
  | prt => exact ⟨fun z => p.1 (ho z), fun z => p.2 (ha z)⟩
  | brw => exact hz p
  | fzn => exact ⟨fun z => p.1 (ho z), fun z => p.2 (ha z)⟩
/-- own cells that are new do not matter to what stood -/
theorem Rep.more {F G : List Addr} {O C A O' Z : Addr → Prop} {t : T} {v : V} {L : List Addr} (e : Ext H H1) (ho : ∀ a, H a ≠ none → O a → O' a) (r : Rep K H (Pm O' C (AF A F) Z) t v L) (hg : ∀ a ∈ G, a ∈ F ∨ H a = none) :
    Rep K H1 (Pm O C (AF A G) Z) t v L :=
  r.mono e fun g a _ _ d p => Pm.to (ho a d) (fun z => z.elim .inl fun m => (hg a m).elim .inr fun z => absurd z d) id p
theorem Reps.more {F G : List Addr} {O C A O' Z : Addr → Prop} {t : List T} {v : List V} {L : List Addr} (e : Ext H H1) (ho : ∀ a, H a ≠ none → O a → O' a) (r : Reps K H (Pm O' C (AF A F) Z) t v L) (hg : ∀ a ∈ G, a ∈ F ∨ H a = none) :
    Reps K H1 (Pm O C (AF A G) Z) t v L :=
  r.mono e fun g a _ _ d p => Pm.to (ho a d) (fun z => z.elim .inl fun m => (hg a m).elim .inr fun z => absurd z d) id p
/-- one part, then what is done with it -/
theorem tD.one {fa : FE} {k : T → R T} {R' : VK} (s : Sta K B env σ H fp) (h : Post K H B (Aw fp) (wx W ec σ) Q (fa env >>= k))
    (hk : ∀ x t F H1, Ext H H1 → Rep K H1 (Pm B.O B.C (AF (Aw fp) F) (Aw fp)) t x F → F.Nodup → (∀ a ∈ F, H a = none) → fa env = .ok t → Post K H B (Aw fp) (wx W ec σ) Q (k t) → R' x H1) : tD K ec W fa σ H R' := by
  refine ⟨B, env, fp, s, ?_⟩
  cases e : fa env with
  | ok t => rw [e] at h; exact fun v H' F x r n f => hk v t F H' x r n f e h
  | exc c => rw [e] at h; exact h
  | bad => rw [e] at h; exact h
theorem tD.twoAt {fa fb : FE} {k : T → T → R T} {R' : V → V → Hp → Prop} (s : Sta K B env σ H fp) (h : Post K H B (Aw fp) (wx W ec σ) Q (fa env >>= fun x => fb env >>= fun y => k x y))
    (hk : ∀ x y tx ty Fx Fy H2, Ext H H2 → Rep K H2 (Pm B.O B.C (AF (Aw fp) (Fx ++ Fy)) (Aw fp)) tx x Fx → Rep K H2 (Pm B.O B.C (AF (Aw fp) (Fx ++ Fy)) (Aw fp)) ty y Fy → (Fx ++ Fy).Nodup → (∀ a ∈ Fx ++ Fy, H a = none) → fa env = .ok tx → fb env = .ok ty →
      Post K H B (Aw fp) (wx W ec σ) Q (k tx ty) → R' x y H2) : tD K ec W fa σ H (fun x H1 => tD K ec W fb σ H1 (fun y H2 => R' x y H2)) := by
  refine tD.one s h fun x tx Fx H1 e1 r1 n1 f1 ea h => ?_
  refine ⟨{ B with O := fun a => B.O a ∨ a ∈ Fx }, env, fp, s.push e1 (fun a ha => ⟨f1 a ha, r1.own_dom _ _ _ a ha⟩), ?_⟩
  cases eb : fb env with
  | ok ty =>
    rw [eb] at h
    intro y H2 Fy e2 r2 n2 f2
    have q2 : ∀ a ∈ Fy, H a = none := fun a ha => by
      cases q : H a with
      | none => rfl
      | some o => have := f2 a ha; rw [e1 a o q] at this; cases this
    refine hk x y tx ty Fx Fy H2 (e1.trans e2) (r1.more e2 (fun _ _ z => z) (fun a ha => (List.mem_append.mp ha).elim .inl fun z => .inr (f2 a z)) ) ?_ (List.nodup_append.mpr ⟨n1, n2, fun a ha b hb q => ?_⟩) (fun a ha => (List.mem_append.mp ha).elim (f1 a) (q2 a)) ea eb h
    · refine r2.mono (Ext.refl _) fun g a _ _ d p => ?_
      cases g with
      | own => trivial
      | shr => exact ⟨fun z => p.1 (.inl z), fun z => z.elim (fun z => p.2.1 (.inl z)) (fun m => (List.mem_append.mp m).elim (fun m => p.1 (.inr m)) fun m => p.2.1 (.inr m)), p.2.2⟩
      | prt => exact ⟨fun z => p.1 (.inl z), fun z => z.elim (fun z => p.2 (.inl z)) (fun m => (List.mem_append.mp m).elim (fun m => p.1 (.inr m)) fun m => p.2 (.inr m))⟩
      | brw => exact p
      | fzn => exact ⟨fun z => p.1 (.inl z), fun z => z.elim (fun z => p.2 (.inl z)) (fun m => (List.mem_append.mp m).elim (fun m => p.1 (.inr m)) fun m => p.2 (.inr m))⟩
    · subst q; exact r1.own_dom _ _ _ a ha (f2 a hb)
  | exc c => rw [eb] at h; exact fun H' e2 => h H' (e1.trans e2)
  | bad => rw [eb] at h; exact h
theorem tD.two {fa fb : FE} {k : EnvT → T → T → R T} {R' : V → V → Hp → Prop} (h : tD K ec W (fun env => do let x ← fa env; let y ← fb env; k env x y) σ H Q)
    (hk : ∀ B env fp x y tx ty Fx Fy H2, Sta K B env σ H fp → Ext H H2 → Rep K H2 (Pm B.O B.C (AF (Aw fp) (Fx ++ Fy)) (Aw fp)) tx x Fx → Rep K H2 (Pm B.O B.C (AF (Aw fp) (Fx ++ Fy)) (Aw fp)) ty y Fy → (Fx ++ Fy).Nodup → (∀ a ∈ Fx ++ Fy, H a = none) →
      Post K H B (Aw fp) (wx W ec σ) Q (k env tx ty) → R' x y H2) : tD K ec W fa σ H (fun x H1 => tD K ec W fb σ H1 (fun y H2 => R' x y H2)) := by
  obtain ⟨B, env, fp, s, h⟩ := h
  exact tD.twoAt s h fun x y tx ty Fx Fy H2 e rx ry n f _ _ p => hk B env fp x y tx ty Fx Fy H2 s e rx ry n f p
end

section
variable {X : Cx} {ec : Nat → Addr} {W : WX} {a b : Expr} {fa fb : FE} {pos : Pos}
def getV (i : Nat) : FE := fun env => match env[i]? with
  | some (some t) => .ok (t.tag view)
  | _ => .bad
theorem DE.var (i : Nat) {x : Str} {pos : Pos} (hN : X.N[i]? = some x := by rfl) (hv : Vis X.env.scope x := by first | exact Or.inl rfl | exact Or.inr (Or.inl rfl) | exact Or.inr (Or.inr rfl)) (hd : (x == ("__debug__" : Str)) = false := by decide)
    (hcd : (x == ("__classdict__" : Str)) = false := by decide) : DE X ec W (.Name x pos) (getV i) := by
  refine ⟨pe_mono (pe_var (i := i) hN hv hd hcd) fun σ H Q ⟨B, env, fp, s, h⟩ => ?_⟩
  unfold getV at h
  cases e : env[i]? with
  | none => rw [e] at h; exact h.elim
  | some o =>
    cases o with
    | none => rw [e] at h; exact h.elim
    | some t =>
      rw [e] at h
      obtain ⟨v, hv, r⟩ := s.get e
      exact ⟨v, hv, h v H [] (Ext.refl _) (r.mono (Ext.refl _) fun g a _ _ _ p => Pm.to id (AF.nil _) id p) List.nodup_nil (by simp)⟩
theorem DE.int {i : Int} {j pos} : DE X ec W (.Constant (.int i) j pos) (fun _ => .ok (.int i)) :=
  ⟨pe_mono pe_int fun _ H _ ⟨_, _, _, _, h⟩ => h _ H [] (Ext.refl _) ⟨rfl, rfl⟩ List.nodup_nil (by simp)⟩
theorem DE.bl {i : Bool} {j pos} : DE X ec W (.Constant (.bool i) j pos) (fun _ => .ok (.bl i)) :=
  ⟨pe_mono pe_bl fun _ H _ ⟨_, _, _, _, h⟩ => h _ H [] (Ext.refl _) ⟨rfl, rfl⟩ List.nodup_nil (by simp)⟩
theorem DE.non {j pos} : DE X ec W (.Constant .none j pos) (fun _ => .ok .non) :=
  ⟨pe_mono pe_non fun _ H _ ⟨_, _, _, _, h⟩ => h _ H [] (Ext.refl _) ⟨rfl, rfl⟩ List.nodup_nil (by simp)⟩
theorem DE.str {x : Str} {j pos} : DE X ec W (.Constant (.str x) j pos) (fun _ => .ok (.str x)) :=
  ⟨pe_mono pe_str fun _ H _ ⟨_, _, _, _, h⟩ => h _ H [] (Ext.refl _) ⟨rfl, rfl⟩ List.nodup_nil (by simp)⟩

def R.ofO {α : Type} : Option α → R α
  | some a => .ok a
  | none => .bad
@[simp] theorem R.ofO_some {α : Type} (a : α) : R.ofO (some a) = .ok a := id rfl
@[simp] theorem R.ofO_none {α : Type} : (R.ofO (none : Option α)) = .bad := id rfl
/-- what stands around an operation: hidden, owned, protected cells are there; the parts' own cells F are none of them -/
structure Cz (H : Hp) (O C A : Addr → Prop) (F : List Addr) : Prop where
  occ : ∀ a, O a ∨ A a ∨ C a → H a ≠ none
  fr : ∀ a ∈ F, ¬ O a ∧ ¬ A a ∧ ¬ C a
  nd : F.Nodup
def Fin (K : PySem.W.Frag) (H : Hp) (O C A : Addr → Prop) (F0 : List Addr) (Q : VK) (t : T) : Prop :=
  ∀ v H' F, Ext H H' → Rep K H' (Pm O C (AF A F) A) t v F → F.Nodup → (∀ a ∈ F, H a = none ∨ a ∈ F0) → Q v H'
section
variable {K : PySem.W.Frag} {H : Hp} {O C A : Addr → Prop} {F0 : List Addr} {Q : VK}
theorem Fin.int {i : Int} (h : Fin K H O C A F0 Q (.int i)) : Q (.int i) H := h _ H [] (Ext.refl _) ⟨rfl, rfl⟩ List.nodup_nil (by simp)
theorem Fin.bl {i : Bool} (h : Fin K H O C A F0 Q (.bl i)) : Q (.bl i) H := h _ H [] (Ext.refl _) ⟨rfl, rfl⟩ List.nodup_nil (by simp)
theorem Fin.str {i : Str} (h : Fin K H O C A F0 Q (.str i)) : Q (.str i) H := h _ H [] (Ext.refl _) ⟨rfl, rfl⟩ List.nodup_nil (by simp)
theorem Fin.non (h : Fin K H O C A F0 Q .non) : Q .non H := h _ H [] (Ext.refl _) ⟨rfl, rfl⟩ List.nodup_nil (by simp)
end
/-- an operator of two values tells g -/
def Op2 (K : PySem.W.Frag) (r : R2) (g : T → T → Option T) : Prop :=
  ∀ (H : Hp) (O C A : Addr → Prop) (x y : V) (tx ty : T) (Fx Fy : List Addr) (Q : VK) (t : T), Cz H O C A (Fx ++ Fy) → Rep K H (Pm O C (AF A (Fx ++ Fy)) A) tx x Fx → Rep K H (Pm O C (AF A (Fx ++ Fy)) A) ty y Fy → g tx ty = some t → Fin K H O C A (Fx ++ Fy) Q t → r x y H Q
def Op1 (K : PySem.W.Frag) (r : V → Hp → VK → Prop) (g : T → Option T) : Prop :=
  ∀ (H : Hp) (O C A : Addr → Prop) (x : V) (tx : T) (F : List Addr) (Q : VK) (t : T), Cz H O C A F → Rep K H (Pm O C (AF A F) A) tx x F → g tx = some t → Fin K H O C A F Q t → r x H Q
def OpL (K : PySem.W.Frag) (r : List V → Hp → VK → Prop) (g : List T → Option T) : Prop :=
  ∀ (H : Hp) (O C A : Addr → Prop) (vs : List V) (ts : List T) (F : List Addr) (Q : VK) (t : T), Cz H O C A F → Reps K H (Pm O C (AF A F) A) ts vs F → g ts = some t → Fin K H O C A F Q t → r vs H Q
def bin2 (g : T → T → Option T) (fa fb : FE) : FE := fun env => do let x ← fa env; let y ← fb env; R.ofO (g x y)
def un1 (g : T → Option T) (fa : FE) : FE := fun env => do let x ← fa env; R.ofO (g x)
def ap (g : List T → Option T) (fs : EnvT → R (List T)) : FE := fun env => do let xs ← fs env; R.ofO (g xs)
theorem Sta.occ {K : PySem.W.Frag} {B : Bx} {env : EnvT} {σ : L2.St} {H H2 : Hp} {fp : Fps} (s : Sta K B env σ H fp) (e : Ext H H2) : ∀ a, B.O a ∨ Aw fp a ∨ B.C a → H2 a ≠ none := fun a z => by
  rcases z with z | z | z
  · exact (s.grow e).dom a (.inl z)
  · exact (s.grow e).odom z
  · exact (s.grow e).dom a (.inr z)
theorem Sta.occ0 {K : PySem.W.Frag} {B : Bx} {env : EnvT} {σ : L2.St} {H : Hp} {fp : Fps} (s : Sta K B env σ H fp) {a : Addr} (e : H a = none) : ¬ B.O a ∧ ¬ Aw fp a ∧ ¬ B.C a :=
  ⟨fun z => s.dom a (.inl z) e, fun z => s.odom z e, fun z => s.dom a (.inr z) e⟩
theorem Sta.cz {K : PySem.W.Frag} {B : Bx} {env : EnvT} {σ : L2.St} {H H2 : Hp} {fp : Fps} {F : List Addr} (s : Sta K B env σ H fp) (e : Ext H H2) (n : F.Nodup) (f : ∀ a ∈ F, H a = none) : Cz H2 B.O B.C (Aw fp) F :=
  ⟨s.occ e, fun a ha => s.occ0 (f a ha), n⟩
theorem Ext.none {H H' : Hp} (e : Ext H H') {a : Addr} (h : H' a = Option.none) : H a = Option.none := by
  cases q : H a with
  | none => rfl
  | some o => rw [e a o q] at h; cases h
theorem Post.fin {K : PySem.W.Frag} {B : Bx} {H H2 : Hp} {A : Addr → Prop} {Wc : Nat → Hp → Prop} {Q : VK} {t : T} {F : List Addr} (p : Post K H B A Wc Q (.ok t)) (e : Ext H H2) (f : ∀ a ∈ F, H a = none) : Fin K H2 B.O B.C A F Q t :=
  fun v H' G e' r n g => p v H' G (e.trans e') r n fun a ha => (g a ha).elim (fun z => e.none z) (f a)
theorem Post.ext {K : PySem.W.Frag} {B : Bx} {H H2 : Hp} {A : Addr → Prop} {Wc : Nat → Hp → Prop} {Q : VK} {r : R T} (p : Post K H B A Wc Q r) (e : Ext H H2) : Post K H2 B A Wc Q r := by
  cases r with
  | ok t => exact fun v H' F x r n f => p v H' F (e.trans x) r n fun a ha => e.none (f a ha)
  | exc c => exact fun H' x => p H' (e.trans x)
  | bad => exact p
theorem two_op {K : PySem.W.Frag} {r : R2} {g : T → T → Option T} (hg : Op2 K r g) {σ : L2.St} {H : Hp} {Q : VK} (h : tD K ec W (bin2 g fa fb) σ H Q) : tD K ec W fa σ H (fun x H1 => tD K ec W fb σ H1 (fun y H2 => r x y H2 Q)) := by
  refine tD.two (k := fun _ x y => R.ofO (g x y)) h fun B env fp x y tx ty Fx Fy H2 s e rx ry n f p => ?_
  cases eg : g tx ty with
  | none => simp only [eg, R.ofO] at p; exact p.elim
  | some t =>
    simp only [eg, R.ofO] at p
    exact hg H2 B.O B.C (Aw fp) x y tx ty Fx Fy Q t (s.cz e n f) rx ry eg (p.fin e f)
theorem one_op {K : PySem.W.Frag} {r : V → Hp → VK → Prop} {g : T → Option T} (hg : Op1 K r g) {σ : L2.St} {H : Hp} {Q : VK} (h : tD K ec W (un1 g fa) σ H Q) : tD K ec W fa σ H (fun x H1 => r x H1 Q) := by
  obtain ⟨B, env, fp, s, h⟩ := h
  refine tD.one (k := fun x => R.ofO (g x)) s h fun x t F H1 e r n f _ p => ?_
  cases eg : g t with
  | none => simp only [eg, R.ofO] at p; exact p.elim
  | some u =>
    simp only [eg, R.ofO] at p
    exact hg H1 B.O B.C (Aw fp) x t F Q u (s.cz e n f) r eg (p.fin e f)
theorem list_op {K : PySem.W.Frag} {r : List V → Hp → VK → Prop} {g : List T → Option T} {fs : EnvT → R (List T)} (hg : OpL K r g) {σ : L2.St} {H : Hp} {Q : VK} (h : tD K ec W (ap g fs) σ H Q) : tDA K ec W fs σ H (fun xs H1 => r xs H1 Q) := by
  obtain ⟨B, env, fp, s, h⟩ := h
  refine ⟨B, env, fp, s, ?_⟩
  have h' : Post K H B (Aw fp) (wx W ec σ) Q (fs env >>= fun xs => R.ofO (g xs)) := h
  cases ef : fs env with
  | ok ts =>
    rw [ef] at h'
    intro vs H' F e r n f
    simp only [R.ok_bind] at h'
    cases eg : g ts with
    | none => simp only [eg, R.ofO] at h'; exact h'.elim
    | some u =>
      simp only [eg, R.ofO] at h'
      exact hg H' B.O B.C (Aw fp) vs ts F Q u (s.cz e n f) r eg (h'.fin e f)
  | exc c => rw [ef] at h'; exact h'
  | bad => rw [ef] at h'; exact h'
theorem DE.op2 {op : Operator} {r : R2} {g : T → T → Option T} (ho : OpR X (binaryOp op) r) (hg : Op2 X.K r g) (ha : DE X ec W a fa) (hb : DE X ec W b fb) : DE X ec W (.BinOp a op b pos) (bin2 g fa fb) :=
  ⟨pe_mono (pe_op ho ha.run hb.run) fun _ _ _ h => two_op hg h⟩
theorem DE.cmp {op : CmpOp} {r : R2} {g : T → T → Option T} (ho : OpR X (compareOp op) r) (hg : Op2 X.K r g) (ha : DE X ec W a fa) (hb : DE X ec W b fb) (hm : behindInMarks op b = false) : DE X ec W (.Compare a [op] [b] pos) (bin2 g fa fb) :=
  ⟨pe_mono (pe_cmpR ho ha.run hb.run hm) fun _ _ _ h => two_op hg h⟩
/-- a value that is a truth -/
def asB (f : FE) : EnvT → R Bool := fun env => do let x ← f env; (match x with | .bl b => .ok b | _ => .bad)
theorem tDT.of {K : PySem.W.Frag} {f : FE} {σ : L2.St} {H : Hp} {Q : Bool → Hp → Prop} (h : tDT K ec W (asB f) σ H Q) : tD K ec W f σ H (fun x H' => ∃ k, x = .bl k ∧ Q k H') := by
  obtain ⟨B, env, fp, s, h⟩ := h
  refine ⟨B, env, fp, s, ?_⟩
  unfold asB at h
  cases e : f env with
  | ok t =>
    rw [e] at h
    intro v H' F e' r _ _
    cases t with
    | bl b => obtain ⟨rfl, _⟩ := r; exact ⟨b, rfl, h H' e'⟩
    | _ => exact h.elim
  | exc c => rw [e] at h; exact h
  | bad => rw [e] at h; exact h
theorem tD_asB {K : PySem.W.Frag} {f : FE} {σ : L2.St} {H : Hp} {Q : Bool → Hp → Prop} (h : tDT K ec W (asB f) σ H Q) : tD K ec W f σ H (fun x H' => ∃ k, x = .bl k ∧ Q k H') := tDT.of h
theorem DT.cmp {op : CmpOp} {r : R2} {g : T → T → Option T} (ho : OpR X (compareOp op) r) (hg : Op2 X.K r g) (ha : DE X ec W a fa) (hb : DE X ec W b fb) (hm : behindInMarks op b = false) : DT X ec W (.Compare a [op] [b] pos) (asB (bin2 g fa fb)) :=
  ⟨pt_mono (pt_cmpR ho ha.run hb.run hm) fun σ H Q h => two_op hg (Q := fun x H' => ∃ k, x = V.bl k ∧ Q k H') (tD_asB h)⟩
theorem DA.nil : DA X ec W [] (fun _ => .ok []) :=
  ⟨pa_mono pa_nil fun _ H _ ⟨_, _, _, _, h⟩ => h _ H [] (Ext.refl _) ⟨rfl, rfl⟩ List.nodup_nil (by simp), fun _ ts h => by cases h; rfl⟩
def consE (f : FE) (fs : EnvT → R (List T)) : EnvT → R (List T) := fun env => do let x ← f env; let xs ← fs env; .ok (x :: xs)
theorem DA.cons {es : List Expr} {fs : EnvT → R (List T)} (ha : DE X ec W a fa) (hr : DA X ec W es fs) (hs : starEach (a :: es) X.env = (false, eval a X.env) :: starEach es X.env := by rfl) : DA X ec W (a :: es) (consE fa fs) := by
  refine ⟨pa_mono (pa_cons ha.run hr.run hs) fun σ H Q ⟨B, env, fp, s, h⟩ => ?_, fun env ts h => ?_⟩
  rotate_left
  · unfold consE at h
    cases e : fa env with
    | ok t =>
      rw [e] at h
      cases e2 : fs env with
      | ok us =>
        rw [e2] at h
        have q : R.ok (t :: us) = R.ok ts := h
        cases q
        simp [hr.len env us e2]
      | exc c => rw [e2] at h; cases h
      | bad => rw [e2] at h; cases h
    | exc c => rw [e] at h; cases h
    | bad => rw [e] at h; cases h
  unfold consE at h
  refine ⟨B, env, fp, s, ?_⟩
  cases e : fa env with
  | ok t =>
    rw [e] at h
    intro v H1 F e1 r1 n1 f1
    refine ⟨{ B with O := fun a => B.O a ∨ a ∈ F }, env, fp, s.push e1 (fun a ha => ⟨f1 a ha, r1.own_dom _ _ _ a ha⟩), ?_⟩
    cases e2 : fs env with
    | ok ts =>
      rw [e2] at h
      intro vs H2 G x2 r2 n2 f2
      refine h (v :: vs) H2 (F ++ G) (e1.trans x2) ⟨v, vs, F, G, rfl, rfl, r1.more x2 (fun _ _ z => z) (fun a ha => (List.mem_append.mp ha).elim .inl fun z => .inr (f2 a z)), ?_⟩ (List.nodup_append.mpr ⟨n1, n2, fun a ha b hb q => ?_⟩) (fun a ha => ?_)
      · refine r2.mono (Ext.refl _) fun g a _ _ d p => ?_
        cases g with
        | own => trivial
        | shr => exact ⟨fun z => p.1 (.inl z), fun z => z.elim (fun z => p.2.1 (.inl z)) (fun m => (List.mem_append.mp m).elim (fun m => p.1 (.inr m)) fun m => p.2.1 (.inr m)), p.2.2⟩
        | prt => exact ⟨fun z => p.1 (.inl z), fun z => z.elim (fun z => p.2 (.inl z)) (fun m => (List.mem_append.mp m).elim (fun m => p.1 (.inr m)) fun m => p.2 (.inr m))⟩
        | brw => exact p
        | fzn => exact ⟨fun z => p.1 (.inl z), fun z => z.elim (fun z => p.2 (.inl z)) (fun m => (List.mem_append.mp m).elim (fun m => p.1 (.inr m)) fun m => p.2 (.inr m))⟩
      · subst q; exact r1.own_dom _ _ _ a ha (f2 a hb)
      · exact (List.mem_append.mp ha).elim (f1 a) fun z => e1.none (f2 a z)
    | exc c => rw [e2] at h; exact fun H' x => h H' (e1.trans x)
    | bad => rw [e2] at h; exact h
  | exc c => rw [e] at h; exact h
  | bad => rw [e] at h; exact h
theorem DE.callB {x : Str} {id : String} {e : Expr} {es : List Expr} {fs : EnvT → R (List T)} {p pos : Pos} {r : List V → Hp → VK → Prop} {g : List T → Option T} (hc : CallR X (.builtin id) r) (hg : OpL X.K r g) (hl : Gl X x) (hm : X.mg x = none) (hv : bootBuiltins x = some (.builtin id)) (ha : DA X ec W (e :: es) fs)
    (hn : x ≠ "__name__" := by decide) (hdb : (x == ("__debug__" : Str)) = false := by decide) (he : starEach (e :: es) X.env = (false, eval e X.env) :: starEach es X.env := by rfl) (hpl : (backTo pos (starEach es X.env)).any (·.1) = false := by rfl) :
    DE X ec W (.Call (.Name x p) (e :: es) [] pos) (ap g fs) :=
  ⟨pe_mono (pe_callB hc hl hm hv ha.run hn hdb he hpl) fun _ _ _ h => list_op hg h⟩
theorem DE.callT {x : Str} {id : String} {e : Expr} {es : List Expr} {fs : EnvT → R (List T)} {p pos : Pos} {r : List V → Hp → VK → Prop} {g : List T → Option T} (hc : CallR X (.type id) r) (hg : OpL X.K r g) (hl : Gl X x) (hm : X.mg x = none) (hv : bootBuiltins x = some (.type id)) (ha : DA X ec W (e :: es) fs)
    (hn : x ≠ "__name__" := by decide) (hdb : (x == ("__debug__" : Str)) = false := by decide) (he : starEach (e :: es) X.env = (false, eval e X.env) :: starEach es X.env := by rfl) (hpl : (backTo pos (starEach es X.env)).any (·.1) = false := by rfl) :
    DE X ec W (.Call (.Name x p) (e :: es) [] pos) (ap g fs) :=
  ⟨pe_mono (pe_callTy hc hl hm hv ha.run hn hdb he hpl) fun _ _ _ h => list_op hg h⟩
end
end VS

namespace VS
open PySem PySem.Spec L2
open PyProof.Rows hiding St

/-! ### statements -/
/-- a value handed back -/
structure RetOk (K : PySem.W.Frag) (B : Bx) (t : T) (v : V) (H : Hp) (F : List Addr) : Prop where
  rep : Rep K H (Pm B.O B.C (fun a => a ∈ F) Nz) t v F
  nd : F.Nodup
  fr : ∀ a ∈ F, B.H0 a = none ∨ B.F0 a
  ext : ∀ a o, B.H0 a = some o → ¬ B.F0 a → H a = some o
def PostS (K : PySem.W.Frag) (ec : Nat → Addr) (W : WX) (B : Bx) (D : Ends) : Out → Prop
  | .nx e => ∀ σ' H' fp', Sta K B e σ' H' fp' → D.nx σ' H'
  | .bk e => ∀ σ' H' fp', Sta K B e σ' H' fp' → D.bk σ' H'
  | .ct e => ∀ σ' H' fp', Sta K B e σ' H' fp' → D.ct σ' H'
  | .rt t => ∀ v H' F, RetOk K B t v H' F → D.rt v H'
  | .exc c e => ∀ σ' H' fp', Sta K B e σ' H' fp' → W (.ref (ec c)) none σ' H'
  | .bad => False
def tS (K : PySem.W.Frag) (ec : Nat → Addr) (W : WX) (f : FS) : TS := fun D σ H => ∃ B env fp, Sta K B env σ H fp ∧ PostS K ec W B D (f env)
structure DS (X : Cx) (ec : Nat → Addr) (W : WX) (st : Stmt) (f : FS) : Prop where
  run : PS X st (tS X.K ec W f)
structure DSs (X : Cx) (ec : Nat → Addr) (W : WX) (st : List Stmt) (f : FS) : Prop where
  run : PSs X st (tS X.K ec W f)
def bS {α : Type} (env : EnvT) (r : R α) (k : α → Out) : Out := match r with
  | .ok a => k a
  | .exc c => .exc c env
  | .bad => .bad
@[simp] theorem bS_ok {α : Type} (env : EnvT) (a : α) (k : α → Out) : bS env (.ok a) k = k a := id rfl
@[simp] theorem bS_exc {α : Type} (env : EnvT) (c : Nat) (k : α → Out) : bS env (.exc c) k = .exc c env := id rfl
@[simp] theorem bS_bad {α : Type} (env : EnvT) (k : α → Out) : bS env .bad k = .bad := id rfl
def seqS (f g : FS) : FS := fun env => match f env with
  | .nx e => g e
  | o => o
def nxS : FS := fun env => .nx env

section
variable {X : Cx} {ec : Nat → Addr} {W : WX} {st : Stmt} {rest : List Stmt} {f g : FS} {e : Expr} {fe : FE} {pos : Pos}
theorem DSs.nil : DSs X ec W [] nxS := ⟨pss_mono pss_nil fun D σ H ⟨B, env, fp, s, h⟩ => h σ H fp s⟩
theorem DSs.cons (h1 : DS X ec W st f) (h2 : DSs X ec W rest g) : DSs X ec W (st :: rest) (seqS f g) := by
  refine ⟨pss_mono (pss_cons h1.run h2.run) fun D σ H ⟨B, env, fp, s, h⟩ => ⟨B, env, fp, s, ?_⟩⟩
  unfold seqS at h
  cases e : f env with
  | nx e' => rw [e] at h; exact fun σ' H' fp' s' => ⟨B, e', fp', s', h⟩
  | bk e' => rw [e] at h; exact h
  | ct e' => rw [e] at h; exact h
  | rt t => rw [e] at h; exact h
  | exc c e' => rw [e] at h; exact h
  | bad => rw [e] at h; exact h
theorem DSs.one (h1 : DS X ec W st f) : DSs X ec W [st] f := ⟨pss_one h1.run⟩
theorem DS.pass : DS X ec W (.Pass pos) nxS := ⟨ps_mono ps_pass fun D σ H ⟨B, env, fp, s, h⟩ => h σ H fp s⟩
theorem DS.brk : DS X ec W (.Break pos) (fun env => .bk env) := ⟨ps_mono ps_break fun D σ H ⟨B, env, fp, s, h⟩ => h σ H fp s⟩
theorem DS.cont : DS X ec W (.Continue pos) (fun env => .ct env) := ⟨ps_mono ps_continue fun D σ H ⟨B, env, fp, s, h⟩ => h σ H fp s⟩
theorem DS.doc {x j pos pos'} : DS X ec W (.Expr (.Constant (.str x) j pos) pos') nxS := ⟨ps_mono ps_doc fun D σ H ⟨B, env, fp, s, h⟩ => h σ H fp s⟩
/-- an expression's end within a statement -/
theorem tD.atStmt {K : PySem.W.Frag} {B : Bx} {env : EnvT} {σ : L2.St} {H : Hp} {fp : Fps} {D : Ends} {R' : VK} {k : T → Out} (s : Sta K B env σ H fp) (h : PostS K ec W B D (bS env (fe env) k))
    (hk : ∀ x t F H1, Ext H H1 → Rep K H1 (Pm B.O B.C (AF (Aw fp) F) (Aw fp)) t x F → F.Nodup → (∀ a ∈ F, H a = none) → PostS K ec W B D (k t) → R' x H1) : tD K ec W fe σ H R' := by
  refine ⟨B, env, fp, s, ?_⟩
  cases e : fe env with
  | ok t => rw [e] at h; exact fun v H' F x r n f => hk v t F H' x r n f h
  | exc c => rw [e] at h; exact fun H' x => h σ H' fp (s.grow x)
  | bad => rw [e] at h; exact h
theorem DS.expr (he : DE X ec W e fe) (hs : swapsWith e none pos.line X.env = pure false := by rfl) : DS X ec W (.Expr e pos) (fun env => bS env (fe env) fun _ => .nx env) :=
  ⟨ps_mono (ps_expr he.run hs) fun D σ H ⟨B, env, fp, s, h⟩ => tD.atStmt s h fun x t F H1 e1 _ _ _ p => p σ H1 fp (s.grow e1)⟩
theorem noBrw {K : PySem.W.Frag} {H : Hp} {O C A Z : Addr → Prop} {t : T} {v : V} {F : List Addr} (n : t.has .brw = false) (r : Rep K H (Pm O C A Z) t v F) : Rep K H (Pm O C A Nz) t v F :=
  r.mono (Ext.refl _) fun g a hg _ _ p => by
    cases g with
    | brw => rw [n] at hg; cases hg
    | own => exact p
    | shr => exact p
    | prt => exact p
    | fzn => exact p
theorem noBrwL {K : PySem.W.Frag} {H : Hp} {O C A Z : Addr → Prop} {t : List T} {v : List V} {F : List Addr} (n : T.hasL .brw t = false) (r : Reps K H (Pm O C A Z) t v F) : Reps K H (Pm O C A Nz) t v F :=
  r.mono (Ext.refl _) fun g a hg _ _ p => by
    cases g with
    | brw => rw [n] at hg; cases hg
    | own => exact p
    | shr => exact p
    | prt => exact p
    | fzn => exact p
theorem Kp.of_ext {W : Addr → Prop} {H H' : Hp} (e : Ext H H') (h : ∀ a, W a → ∃ o, H a = some o ∧ (∀ xs, o ≠ .tup xs) ∧ ∀ ob u, o ≠ .frz ob u) : Kp W H H' :=
  ⟨fun a o h _ => e a o h, fun a xs w z => by obtain ⟨o, e, h1, _⟩ := h a w; rw [e] at z; exact h1 xs (Option.some.inj z), fun a ob u w z => by obtain ⟨o, e, _, h2⟩ := h a w; rw [e] at z; exact h2 ob u (Option.some.inj z)⟩
mutual
theorem Rep.own_mut {K : PySem.W.Frag} {H : Hp} {P : Al} : ∀ (t : T) (v : V) (F : List Addr), Rep K H P t v F → ∀ a ∈ F, ∃ o, H a = some o ∧ (∀ xs, o ≠ .tup xs) ∧ ∀ ob u, o ≠ .frz ob u
  | .non, _, _, ⟨_, e⟩ => by rw [e]; simp
  | .bl _, _, _, ⟨_, e⟩ => by rw [e]; simp
  | .int _, _, _, ⟨_, e⟩ => by rw [e]; simp
  | .str _, _, _, ⟨_, e⟩ => by rw [e]; simp
  | .tup ts, _, F, ⟨_, vs, _, _, r⟩ => Reps.own_mut ts vs F r
  | .tupN ts, _, F, ⟨_, vs, _, _, r⟩ => Reps.own_mut ts vs F r
  | .lst g ts, _, F, ⟨b, vs, G, _, l, p, r⟩ => by
    have ih := Reps.own_mut ts vs G r
    cases g with
    | own =>
      have e : F = b :: G := p; subst e; intro a ha
      rcases List.mem_cons.mp ha with rfl | ha
      · exact ⟨_, l, (fun _ z => by cases z), (fun _ _ z => by cases z)⟩
      · exact ih a ha
    | shr => obtain ⟨_, rfl⟩ := p; simp
    | prt => obtain ⟨_, rfl⟩ := p; simp
    | brw => obtain ⟨_, rfl⟩ := p; simp
    | fzn => obtain ⟨_, rfl⟩ := p; simp
  | .dct g ts, _, F, ⟨b, vs, G, _, l, p, r⟩ => by
    have ih := RepD.own_mut ts vs G r
    cases g with
    | own =>
      have e : F = b :: G := p; subst e; intro a ha
      rcases List.mem_cons.mp ha with rfl | ha
      · obtain ⟨o, ho, d⟩ := l
        refine ⟨o, ho, fun _ z => ?_, fun _ _ z => ?_⟩
        · rcases d with ⟨_, q, _⟩ | ⟨_, q, _⟩ <;> rw [q] at z <;> cases z
        · rcases d with ⟨_, q, _⟩ | ⟨_, q, _⟩ <;> rw [q] at z <;> cases z
      · exact ih a ha
    | shr => obtain ⟨_, rfl⟩ := p; simp
    | prt => obtain ⟨_, rfl⟩ := p; simp
    | brw => obtain ⟨_, rfl⟩ := p; simp
    | fzn => obtain ⟨_, rfl⟩ := p; simp
theorem Reps.own_mut {K : PySem.W.Frag} {H : Hp} {P : Al} : ∀ (ts : List T) (vs : List V) (F : List Addr), Reps K H P ts vs F → ∀ a ∈ F, ∃ o, H a = some o ∧ (∀ xs, o ≠ .tup xs) ∧ ∀ ob u, o ≠ .frz ob u
  | [], _, _, ⟨_, e⟩ => by rw [e]; simp
  | t :: ts, _, F, ⟨v, r, F1, F2, _, e, c, d⟩ => by
    subst e
    intro a ha
    rcases List.mem_append.mp ha with ha | ha
    · exact Rep.own_mut t v F1 c a ha
    · exact Reps.own_mut ts r F2 d a ha
theorem RepD.own_mut {K : PySem.W.Frag} {H : Hp} {P : Al} : ∀ (ts : List (T × T)) (vs : List (T × V)) (F : List Addr), RepD K H P ts vs F → ∀ a ∈ F, ∃ o, H a = some o ∧ (∀ xs, o ≠ .tup xs) ∧ ∀ ob u, o ≠ .frz ob u
  | [], _, _, ⟨_, e⟩ => by rw [e]; simp
  | (_, t) :: ts, _, F, ⟨v, r, F1, F2, _, e, c, d⟩ => by
    subst e
    intro a ha
    rcases List.mem_append.mp ha with ha | ha
    · exact Rep.own_mut t v F1 c a ha
    · exact RepD.own_mut ts r F2 d a ha
end
theorem Sta.own_mut {K : PySem.W.Frag} {B : Bx} {env : EnvT} {σ : L2.St} {H : Hp} {fp : Fps} (s : Sta K B env σ H fp) {i : Nat} : ∀ a, a ∈ fp i → ∃ o, H a = some o ∧ (∀ xs, o ≠ .tup xs) ∧ ∀ ob u, o ≠ .frz ob u := fun a ha => by
  by_cases c : ∃ t, env[i]? = some (some t)
  · obtain ⟨t, e⟩ := c
    obtain ⟨v, _, r⟩ := s.slot i t e
    exact r.own_mut _ _ _ a ha
  · have z := s.emp i (fun t e => c ⟨t, e⟩)
    rw [z] at ha; simp at ha
/-- a slot is stored -/
theorem Sta.store {K : PySem.W.Frag} {B : Bx} {env : EnvT} {σ : L2.St} {H H1 : Hp} {fp : Fps} {i : Nat} {t : T} {v : V} {F : List Addr} (s : Sta K B env σ H fp) (e1 : Ext H H1) (hi : i < env.length)
    (r : Rep K H1 (Pm B.O B.C (AF (Aw fp) F) (Aw fp)) t v F) (n : F.Nodup) (f : ∀ a ∈ F, H a = none) (hb : t.has .brw = false) : Sta K B (env.set i (some t)) (σ.set i (some v)) H1 (fset fp i F) :=
  s.change hi (Kp.of_ext e1 (fun a ha => s.own_mut a ha)) ((noBrw hb r).mono (Ext.refl _) fun g a _ _ _ p => Pm.to id (fun ⟨j, hj⟩ => by
    by_cases c : j = i
    · subst c; rw [fset_same] at hj; exact .inr hj
    · rw [fset_ne c] at hj; exact .inl ⟨j, hj⟩) id p) n fun a ha => .inr (f a ha)
def setV (i : Nat) (t : T) (env : EnvT) : Out := if i < env.length ∧ t.has .brw = false then .nx (env.set i (some t)) else .bad
theorem setV_post {K : PySem.W.Frag} {B : Bx} {env : EnvT} {σ : L2.St} {H H1 : Hp} {fp : Fps} {D : Ends} {i : Nat} {t : T} {v : V} {F : List Addr} (s : Sta K B env σ H fp) (e1 : Ext H H1)
    (r : Rep K H1 (Pm B.O B.C (AF (Aw fp) F) (Aw fp)) t v F) (n : F.Nodup) (f : ∀ a ∈ F, H a = none) (p : PostS K ec W B D (setV i t env)) : D.nx (σ.set i (some v)) H1 := by
  unfold setV at p
  by_cases c : i < env.length ∧ t.has .brw = false
  · rw [if_pos c] at p; exact p _ _ _ (s.store e1 c.1 r n f c.2)
  · rw [if_neg c] at p; exact p.elim
theorem DS.set (i : Nat) {x : Str} {pos' : Pos} (hN : X.N.Nodup) (he : DE X ec W e fe) (hi : X.N[i]? = some x := by rfl) (hx : Loc X.env.scope x := by first | exact Or.inl rfl | exact Or.inr rfl) (hs : swapsWith e (some (.Name x pos')) pos.line X.env = pure false := by rfl) (hf : X.fn x = true ∨ X.env.scope.names.lookup x = some .local := by first | exact .inl rfl | exact .inr rfl | assumption) :
    DS X ec W (.Assign [.Name x pos'] e pos) (fun env => bS env (fe env) fun t => setV i t env) :=
  ⟨ps_mono (ps_set hN hi hx he.run hs hf) fun D σ H ⟨B, env, fp, s, h⟩ => tD.atStmt s h fun x t F H1 e1 r n f p => setV_post s e1 r n f p⟩
def retV (t : T) : Out := if t.has .brw = false then .rt t else .bad
theorem ret_post {K : PySem.W.Frag} {B : Bx} {env : EnvT} {σ : L2.St} {H H1 : Hp} {fp : Fps} {D : Ends} {t : T} {v : V} {F : List Addr} (s : Sta K B env σ H fp) (e1 : Ext H H1)
    (r : Rep K H1 (Pm B.O B.C (AF (Aw fp) F) (Aw fp)) t v F) (n : F.Nodup) (f : ∀ a ∈ F, H a = none) (p : PostS K ec W B D (retV t)) : D.rt v H1 := by
  unfold retV at p
  by_cases c : t.has .brw = false
  · rw [if_pos c] at p
    refine p v H1 F ⟨(noBrw c r).mono (Ext.refl _) fun g a _ _ _ q => Pm.to id .inr id q, n, fun a ha => ?_, fun a o q m => e1 a o (s.ext a o q m)⟩
    by_cases c0 : B.F0 a
    · exact .inr c0
    · cases q : B.H0 a with
      | none => exact .inl rfl
      | some o => have := s.ext a o q c0; rw [f a ha] at this; cases this
  · rw [if_neg c] at p; exact p.elim
theorem DS.ret (he : DE X ec W e fe) : DS X ec W (.Return (some e) pos) (fun env => bS env (fe env) retV) :=
  ⟨ps_mono (ps_ret he.run) fun D σ H ⟨B, env, fp, s, h⟩ => tD.atStmt s h fun x t F H1 e1 r n f p => ret_post s e1 r n f p⟩
theorem DS.retN : DS X ec W (.Return none pos) (fun env => .rt .non) :=
  ⟨ps_mono ps_retN fun D σ H ⟨B, env, fp, s, h⟩ => h .non H [] ⟨⟨rfl, rfl⟩, List.nodup_nil, by simp, s.ext⟩⟩
/-- a name handed back: what it owns goes along -/
def retVar (i : Nat) : FS := fun env => match env[i]? with
  | some (some t) => .rt t
  | _ => .bad
theorem DS.retVar (i : Nat) {x : Str} {pos' : Pos} (hN : X.N[i]? = some x := by rfl) (hv : Vis X.env.scope x := by first | exact Or.inl rfl | exact Or.inr (Or.inl rfl) | exact Or.inr (Or.inr rfl)) (hd : (x == ("__debug__" : Str)) = false := by decide) (hcd : (x == ("__classdict__" : Str)) = false := by decide) :
    DS X ec W (.Return (some (.Name x pos')) pos) (VS.retVar i) := by
  refine ⟨ps_mono (ps_ret (pe_var (i := i) hN hv hd hcd)) fun D σ H ⟨B, env, fp, s, h⟩ => ?_⟩
  unfold VS.retVar at h
  cases e : env[i]? with
  | none => rw [e] at h; exact h.elim
  | some o =>
    cases o with
    | none => rw [e] at h; exact h.elim
    | some t =>
      rw [e] at h
      obtain ⟨v, hv, r⟩ := s.slot i t e
      exact ⟨v, hv, h v H (fp i) ⟨r.mono (Ext.refl _) fun g a _ _ _ p => Pm.to id (fun z => ⟨i, z⟩) id p, s.nd i, s.own i, s.ext⟩⟩
def ifS (fc : EnvT → R Bool) (f g : FS) : FS := fun env => bS env (fc env) fun b => if b = true then f env else g env
theorem DS.if_ {c : Expr} {a b : List Stmt} {fc : EnvT → R Bool} (hc : DT X ec W c fc) (ha : DSs X ec W a f) (hb : DSs X ec W b g) : DS X ec W (.If c a b pos) (ifS fc f g) := by
  refine ⟨ps_mono (ps_if hc.run ha.run hb.run) fun D σ H ⟨B, env, fp, s, h⟩ => ⟨B, env, fp, s, ?_⟩⟩
  unfold ifS at h
  cases e : fc env with
  | ok t =>
    rw [e] at h
    intro H1 e1
    cases t with
    | true => exact ⟨B, env, fp, s.grow e1, h⟩
    | false => exact ⟨B, env, fp, s.grow e1, h⟩
  | exc c => rw [e] at h; exact fun H' x => h σ H' fp (s.grow x)
  | bad => rw [e] at h; exact h
end

/-! ### tests -/
section
variable {X : Cx} {ec : Nat → Addr} {W : WX} {a b : Expr} {fa fb : EnvT → R Bool} {rest : List Expr} {pos : Pos}
theorem tDT.then {K : PySem.W.Frag} {σ : L2.St} {H : Hp} {Q : Bool → Hp → Prop} {k : Bool → EnvT → R Bool} {R' : Bool → Hp → Prop} (h : tDT K ec W (fun env => do let x ← fa env; k x env) σ H Q)
    (hk : ∀ x H1, Ext H H1 → tDT K ec W (k x) σ H1 Q → R' x H1) : tDT K ec W fa σ H R' := by
  obtain ⟨B, env, fp, s, h⟩ := h
  refine ⟨B, env, fp, s, ?_⟩
  dsimp only at h
  cases e : fa env with
  | ok t =>
    rw [e] at h
    refine fun H1 e1 => hk t H1 e1 ⟨B, env, fp, s.grow e1, ?_⟩
    have h' : PostB H (wx W ec σ) Q (k t env) := h
    cases q : k t env with
    | ok u => rw [q] at h'; exact fun H2 e2 => h' H2 (e1.trans e2)
    | exc c => rw [q] at h'; exact fun H2 e2 => h' H2 (e1.trans e2)
    | bad => rw [q] at h'; exact h'
  | exc c => rw [e] at h; exact h
  | bad => rw [e] at h; exact h
def andB (fa fb : EnvT → R Bool) : EnvT → R Bool := fun env => do let x ← fa env; if x = true then fb env else .ok false
def orB (fa fb : EnvT → R Bool) : EnvT → R Bool := fun env => do let x ← fa env; if x = true then .ok true else fb env
def notB (fa : EnvT → R Bool) : EnvT → R Bool := fun env => do let x ← fa env; .ok (!x)
theorem DW.and1 (ha : DT X ec W a fa) : DW X ec W (.BoolOp .And [a] pos) fa := ⟨pw_and1 ha.run⟩
theorem DW.or1 (ha : DT X ec W a fa) : DW X ec W (.BoolOp .Or [a] pos) fa := ⟨pw_or1 ha.run⟩
theorem DW.and_ (ha : DT X ec W a fa) (hb : DW X ec W (.BoolOp .And (b :: rest) pos) fb) : DW X ec W (.BoolOp .And (a :: b :: rest) pos) (andB fa fb) := by
  refine ⟨pw_mono (pw_and ha.run hb.run) fun σ H Q h => tDT.then (k := fun x env => if x = true then fb env else .ok false) h fun x H1 e1 h1 => ?_⟩
  cases x with
  | true => exact h1
  | false => obtain ⟨B, env, fp, s, h1⟩ := h1; exact h1 H1 (Ext.refl _)
theorem DW.or_ (ha : DT X ec W a fa) (hb : DW X ec W (.BoolOp .Or (b :: rest) pos) fb) : DW X ec W (.BoolOp .Or (a :: b :: rest) pos) (orB fa fb) := by
  refine ⟨pw_mono (pw_or ha.run hb.run) fun σ H Q h => tDT.then (k := fun x env => if x = true then .ok true else fb env) h fun x H1 e1 h1 => ?_⟩
  cases x with
  | true => obtain ⟨B, env, fp, s, h1⟩ := h1; exact h1 H1 (Ext.refl _)
  | false => exact h1
theorem DW.t (h : DW X ec W a fa) : DT X ec W a fa := ⟨h.run.pt⟩
theorem DT.not_ (ha : DT X ec W a fa) : DT X ec W (.UnaryOp .Not a pos) (notB fa) :=
  ⟨pt_mono (pt_not ha.run) fun σ H Q h => tDT.then (k := fun x _ => .ok (!x)) h fun x H1 e1 ⟨B, env, fp, s, h1⟩ => h1 H1 (Ext.refl _)⟩
end
end VS

namespace VS
open PySem PySem.Spec L2
open PyProof.Rows hiding St

/-! ### defs and their calls -/
/-- what a def does, as a promise -/
def SPc (K : PySem.W.Frag) (ec : Nat → Addr) (n : Nat) (f : List T → R T) : Sp := fun vs H Q E => ∃ (ts : List T) (F : List Addr) (O C : Addr → Prop), ts.length = n ∧ F.Nodup ∧
  Reps K H (Pm O C (fun a => a ∈ F) Nz) ts vs F ∧ (∀ a, O a ∨ C a → H a ≠ none) ∧ (∀ a ∈ F, ¬ O a ∧ ¬ C a) ∧
  (match f ts with
    | .ok t => ∀ v H' G, RetOk K ⟨H, fun a => a ∈ F, O, C⟩ t v H' G → Q v H'
    | .exc c => ∀ H', (∀ a o, H a = some o → a ∉ F → H' a = some o) → E (.ref (ec c)) none H'
    | .bad => False)
theorem Reps.length {K : PySem.W.Frag} {H : Hp} {P : Al} : ∀ {ts : List T} {vs : List V} {F : List Addr}, Reps K H P ts vs F → ts.length = vs.length
  | [], _, _, ⟨e, _⟩ => by rw [e]; rfl
  | t :: ts, _, _, ⟨v, r, F1, F2, e, _, _, d⟩ => by rw [e]; simp [Reps.length d]
theorem Reps.append {K : PySem.W.Frag} {H : Hp} {P : Al} : ∀ {ts us : List T} {vs ws : List V} {F G : List Addr}, Reps K H P ts vs F → Reps K H P us ws G → Reps K H P (ts ++ us) (vs ++ ws) (F ++ G)
  | [], us, _, ws, _, G, ⟨e1, e2⟩, s => by subst e1; subst e2; exact s
  | t :: ts, us, _, ws, _, G, ⟨v, r, F1, F2, e, e', c, d⟩, s => by
    subst e; subst e'
    exact ⟨v, r ++ ws, F1, F2 ++ G, rfl, by rw [List.append_assoc], c, d.append s⟩
/-- the cells of a list of values, one by one -/
theorem Reps.each {K : PySem.W.Frag} {H : Hp} {P : Al} : ∀ {ts : List T} {vs : List V} {F : List Addr}, Reps K H P ts vs F → F.Nodup → ∃ fp : Fps, (∀ i t, ts[i]? = some t → ∃ v, vs[i]? = some v ∧ Rep K H P t v (fp i)) ∧
    (∀ i, ts.length ≤ i → fp i = []) ∧ (∀ i, (fp i).Nodup) ∧ (∀ i j a, i ≠ j → a ∈ fp i → a ∉ fp j) ∧ ∀ a, Aw fp a ↔ a ∈ F
  | [], _, _, ⟨_, e⟩, _ => ⟨fun _ => [], by simp, by simp, by simp, by simp, fun a => by rw [e]; simp [Aw]⟩
  | t :: ts, _, F, ⟨v, r, F1, F2, e, e', c, d⟩, n => by
    subst e; subst e'
    obtain ⟨n1, n2, n3⟩ := List.nodup_append.mp n
    obtain ⟨fp, h1, h2, h3, h4, h5⟩ := d.each n2
    have hF : ∀ a j, a ∈ F1 → a ∉ fp j := fun a j ha hb => n3 a ha a ((h5 a).mp ⟨j, hb⟩) rfl
    refine ⟨fun i => match i with | 0 => F1 | i + 1 => fp i, ?_, ?_, ?_, ?_, ?_⟩
    · intro i u hu
      cases i with
      | zero => simp at hu; subst hu; exact ⟨v, rfl, c⟩
      | succ i => simpa using h1 i u (by simpa using hu)
    · intro i hi
      cases i with
      | zero => simp at hi
      | succ i => exact h2 i (by simpa using hi)
    · intro i
      cases i with
      | zero => exact n1
      | succ i => exact h3 i
    · intro i j a hij ha hb
      cases i with
      | zero =>
        cases j with
        | zero => exact hij rfl
        | succ j => exact hF a j ha hb
      | succ i =>
        cases j with
        | zero => exact hF a i hb ha
        | succ j => exact h4 i j a (fun z => hij (by rw [z])) ha hb
    · intro a
      constructor
      · rintro ⟨i, hi⟩
        cases i with
        | zero => exact List.mem_append_left _ hi
        | succ i => exact List.mem_append_right _ ((h5 a).mp ⟨i, hi⟩)
      · intro ha
        rcases List.mem_append.mp ha with ha | ha
        · exact ⟨0, ha⟩
        · obtain ⟨i, hi⟩ := (h5 a).mpr ha; exact ⟨i + 1, hi⟩
/-- the first environment of a def's body: m slots more than parameters -/
def env0 (m : Nat) (ts : List T) : EnvT := ts.map some ++ List.replicate m none
def bodyR (o : Out) : R T := match o with
  | .rt t => .ok t
  | .nx _ => .ok .non
  | .exc c _ => .exc c
  | _ => .bad
theorem Sta.init {K : PySem.W.Frag} {H : Hp} {O C : Addr → Prop} {ts : List T} {vs : List V} {F : List Addr} {m : Nat} (r : Reps K H (Pm O C (fun a => a ∈ F) Nz) ts vs F) (n : F.Nodup) (d : ∀ a, O a ∨ C a → H a ≠ none) (f : ∀ a ∈ F, ¬ O a ∧ ¬ C a) :
    ∃ fp, Sta K ⟨H, fun a => a ∈ F, O, C⟩ (env0 m ts) (vs.map some ++ List.replicate m none) H fp := by
  obtain ⟨fp, h1, h2, h3, h4, h5⟩ := r.each n
  have hl := r.length
  refine ⟨fp, ⟨by simp [env0, hl], ?_, ?_, h3, h4, fun a o e _ => e, fun i a ha => .inr ((h5 a).mp ⟨i, ha⟩), d, fun i a ha => f a ((h5 a).mp ⟨i, ha⟩)⟩⟩
  · intro i t e
    unfold env0 at e
    by_cases c : i < ts.length
    · rw [List.getElem?_append_left (by simpa using c), List.getElem?_map] at e
      cases q : ts[i]? with
      | none => rw [q] at e; cases e
      | some u =>
        rw [q] at e
        simp only [Option.map_some, Option.some.injEq] at e
        subst e
        obtain ⟨v, hv, r⟩ := h1 i u q
        refine ⟨v, ?_, r.mono (Ext.refl _) fun g a _ _ _ p => Pm.to id (fun z => (h5 a).mp z) id p⟩
        rw [List.getElem?_append_left (by rw [List.length_map, ← hl]; exact c), List.getElem?_map, hv]; rfl
    · rw [List.getElem?_append_right (by simpa using c)] at e
      rw [List.getElem?_replicate] at e
      split at e <;> cases e
  · intro i e
    by_cases c : i < ts.length
    · exact absurd (by unfold env0; rw [List.getElem?_append_left (by simpa using c), List.getElem?_map, List.getElem?_eq_getElem c]; rfl) (e ts[i])
    · exact h2 i (by omega)
theorem def_ok {P : Program} {w : World} {K : PySem.W.Frag} {mg : Str → Option Value} {base : Heap} {x qual : Str} {st : Stmt} {f : Addr} {fd : FuncData} {N ps : List Str} {k m : Nat} {ec : Nat → Addr} {g : FS} (F : Fun K x qual st f fd) (S : FnScope N ps (defScope st)) (hm : N.length = ps.length + m)
    (hbody : ∀ (X : Cx), X.N = N → True → True) (hb : ∀ (cdv : Value) (A : Around) (outer : List Env) (s : Shared) (H : Hp) (E : XK), Room k (A.deeper (envOfC qual (defScope st) s.heap.objs.size f cdv)) →
      DSs (cxOf (L2.CX P w) P w K mg base N qual (defScope st) f cdv A outer s H E) ec (fun cls d _ H => E cls d H) (defBody st) g) :
    FnOk P w K mg base (L2.CX P w) (k + 1) f fd ps (SPc K ec ps.length (fun ts => bodyR (g (env0 m ts)))) := by
  refine F.okX S (fun vs H Q E h => ?_) (fun cdv A outer s H vs Q E hr h => ⟨_, (hb cdv A outer s H E hr).run, ?_⟩)
  · obtain ⟨ts, G, O, C, hl, _, r, _⟩ := h
    rw [← r.length]; exact hl
  · obtain ⟨ts, G, O, C, hl, n, r, d, fr, h⟩ := h
    obtain ⟨fp, s0⟩ := Sta.init (m := m) r n d fr
    have es : L2.start N vs = vs.map some ++ List.replicate m none := by
      unfold L2.start
      have : N.length - vs.length = m := by have := r.length; omega
      rw [this]
    rw [es]
    refine ⟨_, env0 m ts, fp, s0, ?_⟩
    dsimp only at h
    cases q : g (env0 m ts) with
    | nx e => rw [q] at h; exact fun σ' H' fp' s' => h .non H' [] ⟨⟨rfl, rfl⟩, List.nodup_nil, by simp, s'.ext⟩
    | bk e => rw [q] at h; exact h.elim
    | ct e => rw [q] at h; exact h.elim
    | rt t => rw [q] at h; exact h
    | exc c e => rw [q] at h; exact fun σ' H' fp' s' => h H' s'.ext
    | bad => rw [q] at h; exact h.elim
/-- what a caller may know of a def -/
structure Callee (X : Cx) (ec : Nat → Addr) (x : Str) (k n : Nat) (dts : List T) (sem : List T → R T) : Prop where
  ex : ∃ (f : Addr) (fd : FuncData) (ps : List Str) (ds : List Value) (dvs : List V), FnOk X.prog X.w X.K X.mg X.base (L2.CX X.prog X.w) k f fd ps (SPc X.K ec n sem) ∧ X.mg x = some (.ref f) ∧ PySem.W.keepIn X.K (.ref f) = true ∧ Binds X.K fd ps ds ∧ Vals dvs ds ∧
    ∀ H P, Reps X.K H P dts dvs []
def callV (sem : List T → R T) (dts : List T) (ts : List T) : R T :=
  if T.hasL .brw ts = true then
    (match sem (T.tags lend ts ++ dts) with
      | .ok t => if t.has .prt = true ∨ t.has .fzn = true then .bad else .ok t
      | r => r)
  else sem (ts ++ dts)
def callF (sem : List T → R T) (dts : List T) (fs : EnvT → R (List T)) : FE := fun env => do let ts ← fs env; callV sem dts ts
theorem run_dfl {X : Cx} {CX : CXT} {k : Nat} {f : Addr} {fd : FuncData} {ps : List Str} {sp : Sp} {E : XK} {ds : List Value} {dvs : List V} {pins : List (Addr × Obj)} {σ : L2.St} {H : Hp} {s : Shared} {Q : VK} {us : List Value} {vs : List V} (F : FnOk X.prog X.w X.K X.mg X.base CX k f fd ps sp) (hr : Room k X.A) (hb : Binds X.K fd ps ds) (hd : Vals dvs ds) (hx : PassesAt CX X σ E)
    (I : Inv X pins σ H s) (r : Vals vs us) (h : sp (vs ++ dvs) H Q E) : wpAny (model X.prog X.w) X.A (call (.ref f) us) (EP X pins σ Q) X.xe s := by
  have r2 : Vals (vs ++ dvs) (us ++ ds) := r.append hd
  have hl : (us ++ ds).length = ps.length := by rw [← r2.length]; exact F.len _ _ _ _ h
  refine wpAny_call (codeAny_mono (F.run X.A X.stack s H ⟨us, []⟩ (us ++ ds) (vs ++ dvs) Q E hr I.env0 (hb s us I.kIn hl) r2 h) fun r s' hq => ?_)
  cases r with
  | error e => exact hx pins H s e s' I hq
  | ok fl =>
    cases fl with
    | ret u => exact I.after hq
    | next => exact False.elim hq
    | brk => exact False.elim hq
    | cont => exact False.elim hq
theorem call_post {K : PySem.W.Frag} {ec : Nat → Addr} {W : WX} {B : Bx} {env : EnvT} {σ : L2.St} {H H1 : Hp} {fp : Fps} {n : Nat} {dts : List T} {dvs : List V} {sem : List T → R T} {ts : List T} {vs : List V} {F : List Addr} {Q : VK} (s : Sta K B env σ H fp) (e1 : Ext H H1)
    (r : Reps K H1 (Pm B.O B.C (AF (Aw fp) F) (Aw fp)) ts vs F) (nd : F.Nodup) (f : ∀ a ∈ F, H a = none) (hd : ∀ H P, Reps K H P dts dvs []) (hn : (ts ++ dts).length = n) (p : Post K H B (Aw fp) (wx W ec σ) Q (callV sem dts ts)) :
    SPc K ec n sem (vs ++ dvs) H1 Q (fun cls d H' => W cls d σ H') := by
  have hF : ∀ a ∈ F, ¬ B.O a ∧ ¬ Aw fp a ∧ ¬ B.C a := fun a ha => s.occ0 (f a ha)
  have keep : ∀ {H' : Hp} {G : List Addr}, (∀ a o, H1 a = some o → ¬ a ∈ F → H' a = some o) → Ext H H' := fun k a o e => k a o (e1 a o e) fun m => by rw [f a m] at e; cases e
  unfold callV at p
  by_cases c : T.hasL .brw ts = true
  · rw [if_pos c] at p
    have r' : Reps K H1 (Pm B.O (fun a => B.C a ∨ Aw fp a) (fun a => a ∈ F) Nz) (T.tags lend ts) vs F := by
      refine Reps.tagK (f := lend) rfl (fun g n => by cases g <;> simp [lend] at n ⊢) ⟨rfl, fun g => by cases g <;> simp [lend], fun g => by cases g <;> simp [lend]⟩ (fun g a n p => ?_) ts vs F r
      cases g with
      | own => exact absurd rfl n
      | shr => exact ⟨p.1, fun m => p.2.1 (.inr m), fun z => z.elim p.2.2 fun z => p.2.1 (.inl z)⟩
      | prt => exact ⟨p.1, fun m => p.2 (.inr m)⟩
      | brw => obtain ⟨i, hi⟩ := id p; exact ⟨(s.dis i a hi).1, fun m => (hF a m).2.1 p⟩
      | fzn => exact ⟨p.1, fun m => p.2 (.inr m)⟩
    have hl : (T.tags lend ts ++ dts).length = n := by
      have : (T.tags lend ts).length = ts.length := (r'.length).trans r.length.symm
      rw [List.length_append, this, ← List.length_append]; exact hn
    refine ⟨T.tags lend ts ++ dts, F, B.O, fun a => B.C a ∨ Aw fp a, hl, nd, by simpa using r'.append (hd _ _), fun a z => ?_, fun a ha => ⟨(hF a ha).1, fun z => z.elim (hF a ha).2.2 (hF a ha).2.1⟩, ?_⟩
    · rcases z with z | z | z
      · exact s.occ e1 a (.inl z)
      · exact s.occ e1 a (.inr (.inr z))
      · exact s.occ e1 a (.inr (.inl z))
    · cases q : sem (T.tags lend ts ++ dts) with
      | ok t =>
        rw [q] at p
        dsimp only at p ⊢
        by_cases c2 : t.has .prt = true ∨ t.has .fzn = true
        · rw [if_pos c2] at p; exact p.elim
        · rw [if_neg c2] at p
          intro v H' G ro
          have hG : ∀ a ∈ G, H a = none := fun a ha => (ro.fr a ha).elim (fun z => e1.none z) (f a)
          refine p v H' G (keep (G := G) ro.ext) (ro.rep.mono (Ext.refl _) fun g a hg n d q => ?_) ro.nd hG
          cases g with
          | own => trivial
          | shr => exact ⟨q.1, fun z => z.elim (fun z => q.2.2 (.inr z)) q.2.1, fun z => q.2.2 (.inl z)⟩
          | prt => exact absurd (.inl hg) c2
          | brw => exact (show False from q).elim
          | fzn => exact absurd (.inr hg) c2
      | exc x => rw [q] at p; exact fun H' k => p H' (keep (G := F) k)
      | bad => rw [q] at p; exact p
  · have c' : T.hasL .brw ts = false := by simpa using c
    rw [if_neg c] at p
    refine ⟨ts ++ dts, F, fun a => B.O a ∨ Aw fp a, B.C, hn, nd, ?_, fun a z => ?_, fun a ha => ⟨fun z => z.elim (hF a ha).1 (hF a ha).2.1, (hF a ha).2.2⟩, ?_⟩
    · have r' : Reps K H1 (Pm (fun a => B.O a ∨ Aw fp a) B.C (fun a => a ∈ F) Nz) ts vs F := (noBrwL c' r).mono (Ext.refl _) fun g a _ _ _ q => by
        cases g with
        | own => trivial
        | shr => exact ⟨fun z => z.elim q.1 fun z => q.2.1 (.inl z), fun m => q.2.1 (.inr m), q.2.2⟩
        | prt => exact ⟨fun z => z.elim q.1 fun z => q.2 (.inl z), fun m => q.2 (.inr m)⟩
        | brw => exact q
        | fzn => exact ⟨fun z => z.elim q.1 fun z => q.2 (.inl z), fun m => q.2 (.inr m)⟩
      simpa using r'.append (hd _ _)
    · rcases z with (z | z) | z
      · exact s.occ e1 a (.inl z)
      · exact s.occ e1 a (.inr (.inl z))
      · exact s.occ e1 a (.inr (.inr z))
    · cases q : sem (ts ++ dts) with
      | ok t =>
        rw [q] at p
        intro v H' G ro
        have hG : ∀ a ∈ G, H a = none := fun a ha => (ro.fr a ha).elim (fun z => e1.none z) (f a)
        refine p v H' G (keep (G := G) ro.ext) (ro.rep.mono (Ext.refl _) fun g a hg n d q => ?_) ro.nd hG
        cases g with
        | own => trivial
        | shr => exact ⟨fun z => q.1 (.inl z), fun z => z.elim (fun z => q.1 (.inr z)) q.2.1, q.2.2⟩
        | prt => exact ⟨fun z => q.1 (.inl z), fun z => z.elim (fun z => q.1 (.inr z)) q.2⟩
        | brw => exact (show False from q).elim
        | fzn => exact ⟨fun z => q.1 (.inl z), fun z => z.elim (fun z => q.1 (.inr z)) q.2⟩
      | exc x => rw [q] at p; exact fun H' k => p H' (keep (G := F) k)
      | bad => rw [q] at p; exact p
section
variable {X : Cx} {ec : Nat → Addr} {W : WX} {e : Expr} {es : List Expr} {fs : EnvT → R (List T)} {x : Str} {p pos : Pos} {k n : Nat} {dts : List T} {sem : List T → R T}
theorem DE.call (c : Callee X ec x k n dts sem) (hr : Room k X.A) (tk : Takes X W) (hg : Gl X x) (ha : DA X ec W (e :: es) fs) (hn : (e :: es).length + dts.length = n := by rfl)
    (hdb : (x == ("__debug__" : Str)) = false := by decide) (he : starEach (e :: es) X.env = (false, eval e X.env) :: starEach es X.env := by rfl) (hpl : (backTo pos (starEach es X.env)).any (·.1) = false := by rfl) :
    DE X ec W (.Call (.Name x p) (e :: es) [] pos) (callF sem dts fs) := by
  obtain ⟨f, fd, ps, ds, dvs, F, hm, hk, hb, hd, hdt⟩ := c.ex
  refine ⟨⟨fun pins s σ H Q I ⟨B, env, fp, st, h⟩ => ?_⟩⟩
  refine wpAny_Call_Name_kw (ld_glob I hg hm ?_ hdb)
  have hA : tDA X.K ec W fs σ H (fun vs H1 => SPc X.K ec n sem (vs ++ dvs) H1 Q (fun cls d H' => W cls d σ H')) := by
    refine ⟨B, env, fp, st, ?_⟩
    unfold callF at h
    cases q : fs env with
    | ok ts =>
      rw [q] at h
      intro vs H1 F1 e1 r nd f
      exact call_post st e1 r nd f hdt (by rw [List.length_append, ha.len env ts q]; exact hn) h
    | exc c => rw [q] at h; exact h
    | bad => rw [q] at h; exact h
  refine PySem.W.callWith_K (h₀ := X.base) I.ok.mod.kin hk (thn (ha.run.run pos pins s σ H _ I hA) fun us s1 ⟨vs, H1, I1, r, q⟩ => ⟨I1.kIn, ?_⟩) he hpl
  exact run_dfl F hr hb hd (passAt tk σ) I1 r q
end
end VS

namespace VS
open PySem PySem.Spec L2
open PyProof.Rows hiding St

/-! ### targets -/
section
variable {K : PySem.W.Frag} {B : Bx} {env : EnvT} {σ : L2.St} {H H' : Hp} {fp : Fps}
/-- what was hidden is owned from now on -/
theorem Sta.take {i : Nat} {t : T} {v : V} {F : List Addr} (s : Sta K { B with O := fun a => B.O a ∨ a ∈ F } env σ H fp) (hi : i < env.length) (r : Rep K H (Pm B.O B.C (AF (Aw fp) F) Nz) t v F) (nd : F.Nodup)
    (hF : ∀ a ∈ F, ¬ B.O a ∧ ¬ B.C a ∧ (B.H0 a = none ∨ B.F0 a)) : Sta K B (env.set i (some t)) (σ.set i (some v)) H (fset fp i F) := by
  have hiσ : i < σ.length := by rw [← s.len]; exact hi
  have nA : ∀ a, ¬ Aw fp a → a ∉ F → ¬ Aw (fset fp i F) a := fun a n m ⟨j, hj⟩ => by
    by_cases c : j = i
    · subst c; rw [fset_same] at hj; exact m hj
    · rw [fset_ne c] at hj; exact n ⟨j, hj⟩
  refine ⟨by simpa using s.len, ?_, ?_, ?_, ?_, s.ext, ?_, ?_, ?_⟩
  · intro j u e
    by_cases c : j = i
    · subst c
      rw [List.getElem?_set_self hi] at e
      cases e
      refine ⟨v, by rw [List.getElem?_set_self hiσ], ?_⟩
      rw [fset_same]
      refine r.mono (Ext.refl _) fun g a _ _ _ p => Pm.to id (fun ⟨l, hl⟩ => ?_) id p
      by_cases d : l = j
      · subst d; rw [fset_same] at hl; exact .inr hl
      · rw [fset_ne d] at hl; exact .inl ⟨l, hl⟩
    · rw [List.getElem?_set_ne (Ne.symm c)] at e
      obtain ⟨v', e', r'⟩ := s.slot j u e
      refine ⟨v', by rw [List.getElem?_set_ne (Ne.symm c)]; exact e', ?_⟩
      rw [fset_ne c]
      refine r'.mono (Ext.refl _) fun g a hg n d p => ?_
      cases g with
      | own => trivial
      | shr => exact ⟨fun z => p.1 (.inl z), nA a p.2.1 (fun z => p.1 (.inr z)), p.2.2⟩
      | prt => exact ⟨fun z => p.1 (.inl z), nA a p.2 (fun z => p.1 (.inr z))⟩
      | brw => exact p
      | fzn => exact ⟨fun z => p.1 (.inl z), nA a p.2 (fun z => p.1 (.inr z))⟩
  · intro j e
    by_cases c : j = i
    · subst c; exact absurd (List.getElem?_set_self hi) (e t)
    · rw [fset_ne c]; exact s.emp j (fun u z => e u (by rw [List.getElem?_set_ne (Ne.symm c)]; exact z))
  · intro j
    by_cases c : j = i
    · subst c; rw [fset_same]; exact nd
    · rw [fset_ne c]; exact s.nd j
  · intro j l a hjl ha hb
    by_cases c : j = i
    · subst c
      rw [fset_same] at ha
      rw [fset_ne (Ne.symm hjl)] at hb
      exact (s.dis l a hb).1 (.inr ha)
    · rw [fset_ne c] at ha
      by_cases d : l = i
      · subst d; rw [fset_same] at hb; exact (s.dis j a ha).1 (.inr hb)
      · rw [fset_ne d] at hb; exact s.dj j l a hjl ha hb
  · intro j a ha
    by_cases c : j = i
    · subst c; rw [fset_same] at ha; exact (hF a ha).2.2
    · rw [fset_ne c] at ha; exact s.own j a ha
  · intro a z
    exact s.dom a (z.elim (fun z => .inl (.inl z)) .inr)
  · intro j a ha
    by_cases c : j = i
    · subst c; rw [fset_same] at ha; exact ⟨(hF a ha).1, (hF a ha).2.1⟩
    · rw [fset_ne c] at ha; exact ⟨fun z => (s.dis j a ha).1 (.inl z), (s.dis j a ha).2⟩
theorem Sta.unhide {O' : Addr → Prop} (s : Sta K { B with O := O' } env σ H fp) (h : ∀ a, B.O a → O' a) : Sta K B env σ H fp :=
  ⟨s.len, fun i t e => let ⟨v, a, r⟩ := s.slot i t e; ⟨v, a, r.mono (Ext.refl _) fun g a _ _ _ p => Pm.to (h a) id id p⟩, s.emp, s.nd, s.dj, s.ext, s.own, fun a z => s.dom a (z.elim (fun z => .inl (h a z)) .inr), fun i a ha => ⟨fun z => (s.dis i a ha).1 (h a z), (s.dis i a ha).2⟩⟩
end
def SameOut (is : List Nat) (σ σ' : L2.St) : Prop := ∀ vs : List Nat, (∀ i ∈ is, i ∈ vs) → wipe σ' vs = wipe σ vs
structure Chg (is : List Nat) (σ σ' : L2.St) (fp fp' : Fps) (F : List Addr) : Prop where
  so : SameOut is σ σ'
  aw : ∀ a, Aw fp' a → AF (Aw fp) F a
  eq : ∀ j, j ∉ is → fp' j = fp j
def tG (K : PySem.W.Frag) (is : List Nat) (g : T → EnvT → Option EnvT) : TG := fun v σ H Q => ∃ (B : Bx) (env : EnvT) (fp : Fps) (t : T) (F : List Addr), Sta K { B with O := fun a => B.O a ∨ a ∈ F } env σ H fp ∧ Rep K H (Pm B.O B.C (AF (Aw fp) F) Nz) t v F ∧ F.Nodup ∧
  (∀ a ∈ F, ¬ B.O a ∧ ¬ B.C a ∧ (B.H0 a = none ∨ B.F0 a)) ∧ (match g t env with
    | some env' => ∀ σ' fp', Sta K B env' σ' H fp' → Chg is σ σ' fp fp' F → Q σ' H
    | none => False)
def tGs (K : PySem.W.Frag) (is : List Nat) (g : List T → EnvT → Option EnvT) : TGs := fun vs σ H Q => ∃ (B : Bx) (env : EnvT) (fp : Fps) (ts : List T) (F : List Addr), Sta K { B with O := fun a => B.O a ∨ a ∈ F } env σ H fp ∧ Reps K H (Pm B.O B.C (AF (Aw fp) F) Nz) ts vs F ∧ F.Nodup ∧
  (∀ a ∈ F, ¬ B.O a ∧ ¬ B.C a ∧ (B.H0 a = none ∨ B.F0 a)) ∧ (match g ts env with
    | some env' => ∀ σ' fp', Sta K B env' σ' H fp' → Chg is σ σ' fp fp' F → Q σ' H
    | none => False)
structure DG (X : Cx) (tg : Expr) (is : List Nat) (g : T → EnvT → Option EnvT) : Prop where
  run : PG X tg (tG X.K is g)
structure DGs (X : Cx) (tg : List Expr) (is : List Nat) (g : List T → EnvT → Option EnvT) : Prop where
  run : PGs X tg (tGs X.K is g)
theorem pg_mono {X : Cx} {e : Expr} {t t' : TG} (h : PG X e t) (i : ∀ v σ H Q, t' v σ H Q → t v σ H Q) : PG X e t' := ⟨fun pins s σ H v u Q I r q => h.run pins s σ H v u Q I r (i v σ H Q q)⟩
theorem pgs_mono {X : Cx} {e : List Expr} {t t' : TGs} (h : PGs X e t) (i : ∀ v σ H Q, t' v σ H Q → t v σ H Q) : PGs X e t' := ⟨fun pins s σ H v u Q I r q => h.run pins s σ H v u Q I r (i v σ H Q q)⟩
theorem wipe_set {σ : L2.St} {i : Nat} {v : Option V} : ∀ {vs : List Nat}, i ∈ vs → wipe (σ.set i v) vs = wipe σ vs
  | j :: vs, h => by
    show (wipe (σ.set i v) vs).set j none = (wipe σ vs).set j none
    by_cases c : i ∈ vs
    · rw [wipe_set c]
    · have e : i = j := (List.mem_cons.mp h).resolve_right c
      subst e
      have : ∀ (vs : List Nat), i ∉ vs → wipe (σ.set i v) vs = (wipe σ vs).set i v := by
        intro vs
        induction vs with
        | nil => intro _; rfl
        | cons k vs ih =>
          intro hk
          show (wipe (σ.set i v) vs).set k none = ((wipe σ vs).set k none).set i v
          rw [ih (fun z => hk (List.mem_cons_of_mem _ z)), List.set_comm]
          intro z; exact hk (by rw [z]; exact List.mem_cons_self)
      rw [this vs c, List.set_set]
theorem SameOut.set {σ : L2.St} {i : Nat} {v : Option V} {is : List Nat} (h : i ∈ is) : SameOut is σ (σ.set i v) := fun vs k => wipe_set (k i h)
def gSet (i : Nat) : T → EnvT → Option EnvT := fun t env => if i < env.length ∧ t.has .brw = false then some (env.set i (some t)) else none
section
variable {X : Cx} {pos : Pos}
theorem DG.name (i : Nat) {x : Str} (hN : X.N.Nodup) (hi : X.N[i]? = some x := by rfl) (hx : Loc X.env.scope x := by first | exact Or.inl rfl | exact Or.inr rfl) (hf : X.fn x = true ∨ X.env.scope.names.lookup x = some .local := by first | exact .inl rfl | exact .inr rfl | assumption) : DG X (.Name x pos) [i] (gSet i) := by
  refine ⟨pg_mono (pg_name hN hi hx hf) fun v σ H Q ⟨B, env, fp, t, F, s, r, n, f, h⟩ => ?_⟩
  unfold gSet at h
  by_cases c : i < env.length ∧ t.has .brw = false
  · rw [if_pos c] at h
    refine h _ _ (s.take c.1 r n f) ⟨SameOut.set (by simp), fun a ⟨j, hj⟩ => ?_, fun j hj => fset_ne (by simpa using hj)⟩
    by_cases d : j = i
    · subst d; rw [fset_same] at hj; exact .inr hj
    · rw [fset_ne d] at hj; exact .inl ⟨j, hj⟩
  · rw [if_neg c] at h; exact h.elim
def gSets : List Nat → List T → EnvT → Option EnvT
  | [], [], env => some env
  | i :: is, t :: ts, env => match gSet i t env with
    | some e => gSets is ts e
    | none => none
  | _, _, _ => none
theorem DGs.nil : DGs X [] [] (gSets []) := by
  refine ⟨pgs_mono pgs_nil fun vs σ H Q ⟨B, env, fp, ts, F, s, r, n, f, h⟩ => ?_⟩
  cases ts with
  | nil => obtain ⟨rfl, rfl⟩ := r; exact ⟨rfl, h σ fp (s.unhide fun _ z => .inl z) ⟨fun _ _ => rfl, fun a z => .inl z, fun _ _ => rfl⟩⟩
  | cons t ts => exact h.elim
theorem DGs.cons {e : Expr} {es : List Expr} {i : Nat} {is : List Nat} (h1 : DG X e [i] (gSet i)) (h2 : DGs X es is (gSets is)) (hs : (assignEach (e :: es) X.env).map (·.2) = assign e X.env :: (assignEach es X.env).map (·.2) := by rfl) : DGs X (e :: es) (i :: is) (gSets (i :: is)) := by
  refine ⟨pgs_mono (pgs_cons h1.run h2.run hs) fun vs σ H Q ⟨B, env, fp, ts, F, s, r, n, f, h⟩ => ?_⟩
  cases ts with
  | nil => exact h.elim
  | cons t ts =>
    obtain ⟨v, vs', F1, F2, rfl, rfl, r1, r2⟩ := r
    obtain ⟨n1, n2, n3⟩ := List.nodup_append.mp n
    have mono1 : ∀ {t : T} {v : V}, Rep X.K H (Pm B.O B.C (AF (Aw fp) (F1 ++ F2)) Nz) t v F1 → Rep X.K H (Pm (fun a => B.O a ∨ a ∈ F2) B.C (AF (Aw fp) F1) Nz) t v F1 := fun r => r.mono (Ext.refl _) fun g a _ _ _ p => by
      cases g with
      | own => trivial
      | shr => exact ⟨fun z => z.elim p.1 fun m => p.2.1 (.inr (List.mem_append_right _ m)), fun z => z.elim (fun z => p.2.1 (.inl z)) fun m => p.2.1 (.inr (List.mem_append_left _ m)), p.2.2⟩
      | prt => exact ⟨fun z => z.elim p.1 fun m => p.2 (.inr (List.mem_append_right _ m)), fun z => z.elim (fun z => p.2 (.inl z)) fun m => p.2 (.inr (List.mem_append_left _ m))⟩
      | brw => exact p
      | fzn => exact ⟨fun z => z.elim p.1 fun m => p.2 (.inr (List.mem_append_right _ m)), fun z => z.elim (fun z => p.2 (.inl z)) fun m => p.2 (.inr (List.mem_append_left _ m))⟩
    refine ⟨v, vs', rfl, { B with O := fun a => B.O a ∨ a ∈ F2 }, env, fp, t, F1, ?_, mono1 r1, n1, fun a ha => ⟨fun z => z.elim (f a (List.mem_append_left _ ha)).1 fun m => n3 a ha a m rfl, (f a (List.mem_append_left _ ha)).2⟩, ?_⟩
    · refine Sta.unhide (B := { B with O := fun a => (B.O a ∨ a ∈ F2) ∨ a ∈ F1 }) s fun a z => ?_
      rcases z with (z | z) | z
      · exact .inl z
      · exact .inr (List.mem_append_right _ z)
      · exact .inr (List.mem_append_left _ z)
    · unfold gSets at h
      cases q : gSet i t env with
      | none => rw [q] at h; exact h.elim
      | some e1 =>
        rw [q] at h
        dsimp only at h
        intro σ1 fp1 s1 ⟨so1, aw1, eq1⟩
        refine ⟨B, e1, fp1, ts, F2, s1, ?_, n2, fun a ha => f a (List.mem_append_right _ ha), ?_⟩
        · refine r2.mono (Ext.refl _) fun g a _ _ d p => ?_
          have nA : ¬ Aw fp a → a ∉ F1 ++ F2 → ¬ AF (Aw fp1) F2 a := fun hA hF z => by
            rcases z with z | z
            · rcases aw1 a z with z | z
              · exact hA z
              · exact hF (List.mem_append_left _ z)
            · exact hF (List.mem_append_right _ z)
          cases g with
          | own => trivial
          | shr => exact ⟨p.1, nA (fun z => p.2.1 (.inl z)) (fun z => p.2.1 (.inr z)), p.2.2⟩
          | prt => exact ⟨p.1, nA (fun z => p.2 (.inl z)) (fun z => p.2 (.inr z))⟩
          | brw => exact p
          | fzn => exact ⟨p.1, nA (fun z => p.2 (.inl z)) (fun z => p.2 (.inr z))⟩
        · cases q2 : gSets is ts e1 with
          | none => rw [q2] at h; exact h.elim
          | some e2 =>
            rw [q2] at h
            refine fun σ2 fp2 s2 ⟨so2, aw2, eq2⟩ => h σ2 fp2 s2 ⟨fun vs k => (so2 vs fun j hj => k j (List.mem_cons_of_mem _ hj)).trans (so1 vs fun j hj => k j (by simp at hj; simp [hj])), fun a z => ?_, fun j hj => (eq2 j (fun z => hj (List.mem_cons_of_mem _ z))).trans (eq1 j (by intro z; exact hj (by simp at z; simp [z])))⟩
            rcases aw2 a z with z | z
            · rcases aw1 a z with z | z
              · exact .inl z
              · exact .inr (List.mem_append_left _ z)
            · exact .inr (List.mem_append_right _ z)
def gTupT (is : List Nat) : T → EnvT → Option EnvT := fun t env => match t with
  | .tup ts => if ts.length = is.length then gSets is ts env else none
  | _ => none
theorem DG.tup {es : List Expr} {k : Nat} {is : List Nat} (hc : X.calm = true) (h : DGs X es is (gSets is)) (hn : (assignEach es X.env).length = is.length := by rfl) (hst : (assignEach es X.env).findIdx? (·.1) = none := by rfl) : DG X (.Tuple es k pos) is (gTupT is) := by
  refine ⟨pg_mono (pg_tup hc h.run hn hst) fun v σ H Q ⟨B, env, fp, t, F, s, r, n, f, h⟩ => ?_⟩
  cases t with
  | tup ts =>
    obtain ⟨a, vs, rfl, sq, r⟩ := r
    unfold gTupT at h
    dsimp only at h
    by_cases c : ts.length = is.length
    · rw [if_pos c] at h
      exact ⟨a, vs, rfl, SqT.of sq, by rw [← r.length]; exact c, B, env, fp, ts, F, s, r, n, f, h⟩
    · rw [if_neg c] at h; exact h.elim
  | _ => exact h.elim
end
section
variable {X : Cx} {ec : Nat → Addr} {W : WX} {tg e : Expr} {fe : FE} {is : List Nat} {g : T → EnvT → Option EnvT} {pos : Pos}
/-- tg = e, any target -/
def asgS (g : T → EnvT → Option EnvT) (fe : FE) : FS := fun env => bS env (fe env) fun t => if t.has .brw = false then (match g t env with | some e => .nx e | none => .bad) else .bad
theorem DS.asg (he : DE X ec W e fe) (hg : DG X tg is g) (hs : swapsWithSole [tg] e pos.line X.env = pure false := by rfl) (hw : swappedStores [tg] e X.env = pure none := by rfl) (h1 : (assignEach [tg] X.env).map (·.2) = [assign tg X.env] := by rfl) : DS X ec W (.Assign [tg] e pos) (asgS g fe) := by
  refine ⟨ps_mono (ps_asg he.run hg.run hs hw h1) fun D σ H ⟨B, env, fp, s, h⟩ => tD.atStmt s h fun x t F H1 e1 r n f p => ?_⟩
  by_cases c : t.has .brw = false
  · rw [if_pos c] at p
    refine ⟨B, env, fp, t, F, s.push e1 (fun a ha => ⟨f a ha, r.own_dom _ _ _ a ha⟩), noBrw c r, n, fun a ha => ⟨(s.occ0 (f a ha)).1, (s.occ0 (f a ha)).2.2, ?_⟩, ?_⟩
    · by_cases c0 : B.F0 a
      · exact .inr c0
      · cases q : B.H0 a with
        | none => exact .inl rfl
        | some o => have := s.ext a o q c0; rw [f a ha] at this; cases this
    · cases q : g t env with
      | none => rw [q] at p; exact p.elim
      | some e2 => rw [q] at p; exact fun σ' fp' s' _ => p σ' H1 fp' s'
  · rw [if_neg c] at p; exact p.elim
end

/-! ### what is walked -/
def ItOk (K : PySem.W.Frag) (J : It) (H : Hp) (Z O C A : Addr → Prop) (its : List T) : Prop := ∀ (i : Nat) (Hc : Hp), (∀ a o, H a = some o → ¬ Z a → Hc a = some o) →
  (i < its.length → J.go i Hc ∧ ∀ x H', J.yld i Hc x H' → Ext Hc H' ∧ ∃ t, its[i]? = some t ∧ Rep K H' (fun g a => Pm O C A Nz g a ∧ (g ≠ .own → H a ≠ none)) t x []) ∧ (its.length ≤ i → J.stop i Hc)
def tI (K : PySem.W.Frag) (ec : Nat → Addr) (W : WX) (lp : Bool) (fi : EnvT → R (List T)) : TI := fun σ H R' => ∃ B env fp, Sta K B env σ H fp ∧ (match fi env with
  | .ok its => ∀ J H1, Ext H H1 → ItOk K J H1 (fun a => lp = true ∧ Aw fp a) B.O B.C (Aw fp) its → R' J H1
  | .exc c => ∀ H', Ext H H' → wx W ec σ c H'
  | .bad => False)
structure DI (X : Cx) (ec : Nat → Addr) (W : WX) (lp : Bool) (tg iter : Expr) (fi : EnvT → R (List T)) : Prop where
  run : PI X tg iter (tI X.K ec W lp fi)
theorem pi_mono {X : Cx} {tg e : Expr} {t t' : TI} (h : PI X tg e t) (i : ∀ σ H Q, t' σ H Q → t σ H Q) : PI X tg e t' := ⟨fun pins s σ H R I q => h.run pins s σ H R I (i σ H R q)⟩
def loopS (g : T → EnvT → Option EnvT) (fb : FS) : List T → FS
  | [], env => .nx env
  | x :: xs, env => match g x env with
    | none => .bad
    | some e1 => match fb e1 with
      | .nx e2 => loopS g fb xs e2
      | .ct e2 => loopS g fb xs e2
      | .bk e2 => .nx e2
      | .rt t => .rt t
      | .exc c e2 => .exc c e2
      | .bad => .bad
theorem RetOk.back {K : PySem.W.Frag} {B : Bx} {env : EnvT} {σ : L2.St} {H : Hp} {fp : Fps} {t : T} {v : V} {H' : Hp} {F : List Addr} (s : Sta K B env σ H fp) (r : RetOk K { B with H0 := H, F0 := Aw fp } t v H' F) : RetOk K B t v H' F := by
  refine ⟨r.rep, r.nd, fun a ha => ?_, fun a o e n => r.ext a o (s.ext a o e n) fun ⟨j, hj⟩ => ?_⟩
  · rcases r.fr a ha with z | ⟨j, z⟩
    · by_cases c : B.F0 a
      · exact .inr c
      · cases e : B.H0 a with
        | none => exact .inl rfl
        | some o => have q := s.ext a o e c; have z' : H a = none := z; rw [q] at z'; cases z'
    · exact s.own j a z
  · rcases s.own j a hj with z | z
    · rw [e] at z; cases z
    · exact n z
section
variable {X : Cx} {ec : Nat → Addr} {W : WX} {tg iter : Expr} {fi : EnvT → R (List T)} {is : List Nat} {g : T → EnvT → Option EnvT} {body : List Stmt} {fb : FS} {pos : Pos}
theorem DS.for_ (hp : PassesOwn (model X.prog X.w) X.A X.env X.xe) (hc : X.calm = true) (hi : DI X ec W true tg iter fi) (hg : DG X tg is g) (hb : DSs X ec W body fb) (hs : ∀ x, foldedSetIterable iter X.env x = pure x := by intro _; rfl) :
    DS X ec W (.For tg iter body [] pos) (fun env => bS env (fi env) fun its => loopS g fb its env) := by
  refine ⟨ps_mono (ps_for hp hc hi.run hg.run hb.run hs) fun D σ H ⟨B, env, fp, s, h⟩ => ?_⟩
  refine ⟨B, env, fp, s, ?_⟩
  dsimp only at h
  cases q : fi env with
  | exc c => rw [q] at h; exact fun H' x => h σ H' fp (s.grow x)
  | bad => rw [q] at h; exact h
  | ok its =>
    rw [q] at h
    intro J H1 e1 it
    have s1 := s.grow e1
    have s1l := s1.local_
    refine ⟨fun i m σ' H' => m = its.length - i ∧ i ≤ its.length ∧ ∃ env' fp', Sta X.K { B with H0 := H1, F0 := Aw fp } env' σ' H' fp' ∧ PostS X.K ec W B D (loopS g fb (its.drop i) env'), ⟨_, rfl, Nat.zero_le _, env, fp, s1l, by simpa using h⟩, ?_⟩
    rintro i m σ' H' ⟨rfl, hi, env', fp', s', p⟩
    have ok := it i H' (fun a o e n => s'.ext a o e (fun z => n ⟨rfl, z⟩))
    by_cases c : i < its.length
    · right
      obtain ⟨go, yl⟩ := ok.1 c
      refine ⟨go, fun σ2 H2 => ∃ env2 fp2, Sta X.K { B with H0 := H1, F0 := Aw fp } env2 σ2 H2 fp2 ∧ PostS X.K ec W B D (loopS g fb (its.drop (i + 1)) env2), fun σ2 H2 ⟨env2, fp2, s2, p2⟩ => ⟨its.length - (i + 1), by omega, rfl, by omega, env2, fp2, s2, p2⟩, ?_⟩
      intro x H2 y
      obtain ⟨e2, t, ht, r⟩ := yl x H2 y
      have hd : its.drop i = t :: its.drop (i + 1) := by
        obtain ⟨hlt, e⟩ := List.getElem?_eq_some_iff.mp ht
        rw [List.drop_eq_getElem_cons hlt, e]
      rw [hd] at p
      unfold loopS at p
      have s2 := s'.grow e2
      refine ⟨{ B with H0 := H1, F0 := Aw fp }, env', fp', t, [], s2.unhide (O' := B.O) (B := { B with H0 := H1, F0 := Aw fp, O := fun a => B.O a ∨ a ∈ [] }) (fun a z => z.elim id (by simp)), r.mono (Ext.refl _) (fun g a _ n d p => ?_), List.nodup_nil, by simp, ?_⟩
      · have nA : H1 a ≠ none → ¬ Aw fp a → ¬ AF (Aw fp') [] a := fun d n z => by
          rcases AF.nil _ z with ⟨j, hj⟩
          rcases s'.own j a hj with z | z
          · exact d z
          · exact n z
        have dd := p.2 n
        have p := p.1
        cases g with
        | own => trivial
        | shr => exact ⟨p.1, nA dd p.2.1, p.2.2⟩
        | prt => exact ⟨p.1, nA dd p.2⟩
        | brw => exact p
        | fzn => exact ⟨p.1, nA dd p.2⟩
      · cases q2 : g t env' with
        | none => rw [q2] at p; exact p.elim
        | some ea =>
          rw [q2] at p
          intro σ3 fp3 s3 _
          refine ⟨{ B with H0 := H1, F0 := Aw fp }, ea, fp3, s3, ?_⟩
          dsimp only at p
          cases q3 : fb ea with
          | nx e3 => rw [q3] at p; exact fun σ4 H4 fp4 s4 => ⟨e3, fp4, s4, p⟩
          | ct e3 => rw [q3] at p; exact fun σ4 H4 fp4 s4 => ⟨e3, fp4, s4, p⟩
          | bk e3 => rw [q3] at p; exact fun σ4 H4 fp4 s4 => p σ4 H4 fp4 (s1.back s4)
          | rt t => rw [q3] at p; exact fun v H4 F r => p v H4 F (RetOk.back s1 r)
          | exc c e3 => rw [q3] at p; exact fun σ4 H4 fp4 s4 => p σ4 H4 fp4 (s1.back s4)
          | bad => rw [q3] at p; exact p.elim
    · left
      refine ⟨ok.2 (by omega), ?_⟩
      rw [List.drop_eq_nil_of_le (by omega)] at p
      exact p σ' H' fp' (s1.back s')
/-- while, by a number of turns that suffices -/
def whileS (fc : EnvT → R Bool) (fb : FS) : Nat → FS
  | 0, _ => .bad
  | n + 1, env => bS env (fc env) fun b => if b = true then (match fb env with
      | .nx e2 => whileS fc fb n e2
      | .ct e2 => whileS fc fb n e2
      | .bk e2 => .nx e2
      | o => o) else .nx env
theorem DS.while_ {c : Expr} {fc : EnvT → R Bool} (n : Nat) (hp : PassesOwn (model X.prog X.w) X.A X.env X.xe) (hc : DT X ec W c fc) (hb : DSs X ec W body fb) : DS X ec W (.While c body [] pos) (whileS fc fb n) := by
  refine ⟨ps_mono (ps_while hp hc.run hb.run) fun D σ H ⟨B, env, fp, s, h⟩ => ?_⟩
  refine ⟨fun m σ' H' => ∃ env' fp', Sta X.K B env' σ' H' fp' ∧ PostS X.K ec W B D (whileS fc fb m env'), ⟨n, env, fp, s, h⟩, ?_⟩
  rintro m σ' H' ⟨env', fp', s', p⟩
  refine ⟨B, env', fp', s', ?_⟩
  cases m with
  | zero => exact p.elim
  | succ m =>
    unfold whileS at p
    cases q : fc env' with
    | exc c => rw [q] at p; exact fun H2 e2 => p σ' H2 fp' (s'.grow e2)
    | bad => rw [q] at p; exact p
    | ok b =>
      rw [q] at p
      intro H2 e2
      cases b with
      | false => exact p σ' H2 fp' (s'.grow e2)
      | true =>
        have p' : PostS X.K ec W B D (match fb env' with
          | .nx e2 => whileS fc fb m e2
          | .ct e2 => whileS fc fb m e2
          | .bk e2 => .nx e2
          | o => o) := p
        refine ⟨fun σ3 H3 => ∃ env3 fp3, Sta X.K B env3 σ3 H3 fp3 ∧ PostS X.K ec W B D (whileS fc fb m env3), fun σ3 H3 ⟨env3, fp3, s3, p3⟩ => ⟨m, Nat.lt_succ_self m, env3, fp3, s3, p3⟩, B, env', fp', s'.grow e2, ?_⟩
        cases q3 : fb env' with
        | nx e3 => rw [q3] at p'; exact fun σ4 H4 fp4 s4 => ⟨e3, fp4, s4, p'⟩
        | ct e3 => rw [q3] at p'; exact fun σ4 H4 fp4 s4 => ⟨e3, fp4, s4, p'⟩
        | bk e3 => rw [q3] at p'; exact p'
        | rt t => rw [q3] at p'; exact p'
        | exc c e3 => rw [q3] at p'; exact p'
        | bad => rw [q3] at p'; exact p'
end
end VS

namespace VS
open PySem PySem.Spec L2
open PyProof.Rows hiding St

/-! ### list comprehensions -/
def wipeT (env : EnvT) : List Nat → EnvT
  | [] => env
  | v :: vs => (wipeT env vs).set v none
theorem wipeT_length (env : EnvT) : ∀ vs, (wipeT env vs).length = env.length
  | [] => rfl
  | v :: vs => by show ((wipeT env vs).set v none).length = _; rw [List.length_set, wipeT_length env vs]
theorem wipeT_get {env : EnvT} {i : Nat} {t : T} : ∀ {vs : List Nat}, (wipeT env vs)[i]? = some (some t) → i ∉ vs ∧ env[i]? = some (some t)
  | [], h => ⟨by simp, h⟩
  | v :: vs, h => by
    have h' : ((wipeT env vs).set v none)[i]? = some (some t) := h
    by_cases c : i = v
    · subst c
      rw [List.getElem?_set] at h'
      split at h'
      · split at h' <;> cases h'
      · rename_i z; exact absurd rfl z
    · rw [List.getElem?_set_ne (Ne.symm c)] at h'
      obtain ⟨a, b⟩ := wipeT_get h'
      exact ⟨by simp [c, a], b⟩
theorem wipe_get {σ : L2.St} {i : Nat} : ∀ {vs : List Nat}, i ∉ vs → (wipe σ vs)[i]? = σ[i]?
  | [], _ => rfl
  | v :: vs, h => by
    show ((wipe σ vs).set v none)[i]? = _
    rw [List.getElem?_set_ne (by intro z; exact h (by simp [z])), wipe_get (fun z => h (by simp [z]))]
theorem wipe_set_none {σ : L2.St} {i : Nat} : ∀ {vs : List Nat}, i ∈ vs → (wipe σ vs).set i none = wipe σ vs
  | v :: vs, h => by
    show ((wipe σ vs).set v none).set i none = (wipe σ vs).set v none
    by_cases c : i = v
    · subst c; rw [List.set_set]
    · rw [List.set_comm _ _ (Ne.symm c), wipe_set_none ((List.mem_cons.mp h).resolve_left c)]
theorem wipe_wipe {σ : L2.St} : ∀ {us vs : List Nat}, (∀ i ∈ us, i ∈ vs) → wipe (wipe σ vs) us = wipe σ vs
  | [], _, _ => rfl
  | u :: us, vs, h => by
    show (wipe (wipe σ vs) us).set u none = _
    rw [wipe_wipe (fun i hi => h i (List.mem_cons_of_mem _ hi)), wipe_set_none (h u List.mem_cons_self)]
def fwipe (fp : Fps) (vs : List Nat) : Fps := fun i => if i ∈ vs then [] else fp i
theorem Sta.wiped {K : PySem.W.Frag} {B : Bx} {env : EnvT} {σ : L2.St} {H : Hp} {fp : Fps} (s : Sta K B env σ H fp) (vs : List Nat) :
    Sta K { B with O := fun a => B.O a ∨ ∃ i ∈ vs, a ∈ fp i } (wipeT env vs) (wipe σ vs) H (fwipe fp vs) := by
  have hA : ∀ a, Aw (fwipe fp vs) a → Aw fp a := fun a ⟨i, hi⟩ => by
    unfold fwipe at hi; split at hi
    · simp at hi
    · exact ⟨i, hi⟩
  refine ⟨by rw [wipeT_length, wipe_length]; exact s.len, fun i t e => ?_, fun i e => ?_, fun i => ?_, fun i j a hij ha hb => ?_, s.ext, fun i a ha => ?_, fun a z => ?_, fun i a ha => ?_⟩
  · obtain ⟨h1, h2⟩ := wipeT_get e
    obtain ⟨v, hv, r⟩ := s.slot i t h2
    refine ⟨v, by rw [wipe_get h1]; exact hv, ?_⟩
    have : fwipe fp vs i = fp i := if_neg h1
    rw [this]
    refine r.mono (Ext.refl _) fun g a _ _ _ p => ?_
    cases g with
    | own => trivial
    | shr => exact ⟨fun z => z.elim p.1 fun ⟨j, _, hj⟩ => p.2.1 ⟨j, hj⟩, fun z => p.2.1 (hA a z), p.2.2⟩
    | prt => exact ⟨fun z => z.elim p.1 fun ⟨j, _, hj⟩ => p.2 ⟨j, hj⟩, fun z => p.2 (hA a z)⟩
    | brw => exact p
    | fzn => exact ⟨fun z => z.elim p.1 fun ⟨j, _, hj⟩ => p.2 ⟨j, hj⟩, fun z => p.2 (hA a z)⟩
  · unfold fwipe
    by_cases c : i ∈ vs
    · rw [if_pos c]
    · rw [if_neg c]
      refine s.emp i fun t e' => e t ?_
      have : ∀ vs : List Nat, i ∉ vs → (wipeT env vs)[i]? = env[i]? := by
        intro vs
        induction vs with
        | nil => intro _; rfl
        | cons v vs ih =>
          intro h
          show ((wipeT env vs).set v none)[i]? = _
          rw [List.getElem?_set_ne (by intro z; exact h (by simp [z])), ih (fun z => h (by simp [z]))]
      rw [this vs c]; exact e'
  · unfold fwipe; split
    · exact List.nodup_nil
    · exact s.nd i
  · unfold fwipe at ha hb
    split at ha
    · simp at ha
    · split at hb
      · simp at hb
      · exact s.dj i j a hij ha hb
  · unfold fwipe at ha; split at ha
    · simp at ha
    · exact s.own i a ha
  · rcases z with (z | ⟨i, _, hi⟩) | z
    · exact s.dom a (.inl z)
    · exact s.odom ⟨i, hi⟩
    · exact s.dom a (.inr z)
  · unfold fwipe at ha; split at ha
    · simp at ha
    · rename_i hi
      exact ⟨fun z => z.elim (s.dis i a ha).1 fun ⟨j, hj, hja⟩ => s.dj i j a (fun z => hi (z ▸ hj)) ha hja, (s.dis i a ha).2⟩
def noX {α : Type} : R α → R α
  | .exc _ => .bad
  | r => r
def compS (g : T → EnvT → Option EnvT) (fc : EnvT → R Bool) (fe : FE) (env : EnvT) : List T → R (List T)
  | [] => .ok []
  | x :: xs => match g x env with
    | none => .bad
    | some e1 => do
      let b ← noX (fc e1)
      if b = true then do
        let t ← noX (fe e1)
        let r ← compS g fc fe env xs
        .ok (t :: r)
      else compS g fc fe env xs
def compF (fi : EnvT → R (List T)) (g : T → EnvT → Option EnvT) (fc : EnvT → R Bool) (fe : FE) (vs : List Nat) : FE := fun env => do
  let its ← fi env
  if its.length ≤ sizeLine then do
    let ts ← compS g fc fe (wipeT env vs) its
    .ok (.lst .own ts)
  else .bad
theorem upd_ext {H Hc : Hp} {D : Addr} {o : HO} (e : Ext H Hc) (d : H D = none) : Ext H (upd Hc D o) := fun a u q => by
  rw [upd_ne (ne_of_none q d)]; exact e a u q
theorem comp_ok {K : PySem.W.Frag} {ec : Nat → Addr} {W : WX} {wi : EnvT → R (List T)} {tg : TG} {is : List Nat} {g : T → EnvT → Option EnvT} {tt : TT} {fc : EnvT → R Bool} {te : TE} {fe : FE} {vs : List Nat} (hvs : ∀ i ∈ is, i ∈ vs) {σ : L2.St} {H : Hp} {Q : VK}
    (hg : ∀ v σ H Q, tG K is g v σ H Q → tg v σ H Q) (ht : ∀ σ H Q, tDT K ec (fun _ _ _ _ => False) fc σ H Q → tt σ H Q) (he : ∀ σ H Q, tD K ec (fun _ _ _ _ => False) fe σ H Q → te σ H Q)
    (h : tD K ec W (compF wi g fc fe vs) σ H Q) : tLc (tI K ec W false wi) tg tt te vs σ H Q := by
  obtain ⟨B, env, fp, s, h⟩ := h
  refine ⟨B, env, fp, s, ?_⟩
  unfold compF at h
  cases q : wi env with
  | exc c => rw [q] at h; exact h
  | bad => rw [q] at h; exact h
  | ok its =>
    rw [q] at h
    simp only [R.ok_bind] at h
    by_cases hsz : its.length ≤ sizeLine
    · rw [if_pos hsz] at h
      intro J H1 e1 it D hD
      have hHD : H D = none := e1.none hD
      -- the invariant
      refine ⟨fun i m Hc => m = its.length - i ∧ i ≤ its.length ∧ Ext H1 Hc ∧ ∃ (acc : List V) (outs : List T) (F : List Addr), Hc D = some (.lst acc) ∧ Reps K Hc (Pm B.O B.C (AF (Aw fp) (D :: F)) (Aw fp)) outs acc F ∧ (D :: F).Nodup ∧ (∀ a ∈ F, H1 a = none) ∧ acc.length ≤ i ∧
          Post K H B (Aw fp) (wx W ec σ) Q (compS g fc fe (wipeT env vs) (its.drop i) >>= fun r => .ok (.lst .own (outs ++ r))), ⟨_, rfl, Nat.zero_le _, Ext.new hD, [], [], [], upd_same, ⟨rfl, rfl⟩, by simp, by simp, by simp, ?_⟩, ?_⟩
      · simpa using h
      · rintro i m Hc ⟨rfl, hi, ex, acc, outs, F, hc, r, nd, fr, hl, p⟩
        have exH : Ext H Hc := e1.trans ex
        have ok := it i Hc (fun a o e _ => ex a o e)
        by_cases c : i < its.length
        · right
          obtain ⟨go, yl⟩ := ok.1 c
          refine ⟨go, fun H2 => Ext H1 H2 ∧ ∃ (acc : List V) (outs : List T) (F : List Addr), H2 D = some (.lst acc) ∧ Reps K H2 (Pm B.O B.C (AF (Aw fp) (D :: F)) (Aw fp)) outs acc F ∧ (D :: F).Nodup ∧ (∀ a ∈ F, H1 a = none) ∧ acc.length ≤ i + 1 ∧
              Post K H B (Aw fp) (wx W ec σ) Q (compS g fc fe (wipeT env vs) (its.drop (i + 1)) >>= fun r => .ok (.lst .own (outs ++ r))), fun H2 ⟨x2, rest⟩ => ⟨its.length - (i + 1), by omega, rfl, by omega, x2, rest⟩, ?_⟩
          intro x H2 y
          obtain ⟨e2, t, htt, rt⟩ := yl x H2 y
          have hdr : its.drop i = t :: its.drop (i + 1) := by
            obtain ⟨hlt, e⟩ := List.getElem?_eq_some_iff.mp htt
            rw [List.drop_eq_getElem_cons hlt, e]
          rw [hdr] at p
          unfold compS at p
          have hid : ∀ a, a ∈ D :: F → H a = none ∧ H2 a ≠ none := fun a ha => by
            rcases List.mem_cons.mp ha with rfl | ha
            · exact ⟨hHD, by rw [e2 _ _ hc]; simp⟩
            · refine ⟨e1.none (fr a ha), ?_⟩
              have := r.own_dom _ _ _ a ha
              intro z
              cases qq : Hc a with
              | none => exact this qq
              | some o => rw [e2 a o qq] at z; cases z
          have sw := (s.push (exH.trans e2) (F := fun a => a ∈ D :: F) hid).wiped vs
          refine hg _ _ _ _ ⟨{ B with O := fun a => (B.O a ∨ a ∈ D :: F) ∨ ∃ i ∈ vs, a ∈ fp i }, wipeT env vs, _, t, [], sw.unhide (B := { B with O := fun a => ((B.O a ∨ a ∈ D :: F) ∨ ∃ i ∈ vs, a ∈ fp i) ∨ a ∈ [] }) (fun a z => z.elim id (by simp)), rt.mono (Ext.refl _) (fun g a _ n d p => ?_), List.nodup_nil, by simp, ?_⟩
          · -- an item's cells are none of ours
            have dd := p.2 n
            have p := p.1
            have nH : ¬ (a ∈ D :: F) := fun m => by
              rcases List.mem_cons.mp m with rfl | m
              · exact dd hD
              · exact dd (fr a m)
            have nO : ¬ B.O a → ¬ Aw fp a → ¬ ((B.O a ∨ a ∈ D :: F) ∨ ∃ i ∈ vs, a ∈ fp i) := fun h1 h2 z => z.elim (fun z => z.elim h1 nH) fun ⟨j, _, hj⟩ => h2 ⟨j, hj⟩
            have nA : ¬ Aw fp a → ¬ AF (Aw (fwipe fp vs)) [] a := fun h2 z => by
              obtain ⟨j, hj⟩ := AF.nil _ z
              unfold fwipe at hj; split at hj
              · simp at hj
              · exact h2 ⟨j, hj⟩
            cases g with
            | own => trivial
            | shr => exact ⟨nO p.1 p.2.1, nA p.2.1, p.2.2⟩
            | prt => exact ⟨nO p.1 p.2, nA p.2⟩
            | brw => exact p
            | fzn => exact ⟨nO p.1 p.2, nA p.2⟩
          · cases q1 : g t (wipeT env vs) with
            | none => rw [q1] at p; exact p.elim
            | some ea =>
              rw [q1] at p
              dsimp only at p
              intro σ3 fp3 s3 ch
              have hw : wipe σ3 vs = wipe σ vs := (ch.so vs hvs).trans (wipe_wipe fun _ z => z)
              refine ⟨hw, ht _ _ _ ⟨_, ea, fp3, s3, ?_⟩⟩
              cases q2 : fc ea with
              | exc c => rw [q2] at p; exact p.elim
              | bad => rw [q2] at p; exact p.elim
              | ok b =>
                rw [q2] at p
                intro H3 e3
                have e13 : Ext Hc H3 := e2.trans e3
                cases b with
                | false =>
                  refine ⟨ex.trans e13, acc, outs, F, e13 _ _ hc, r.mono e13 (fun _ _ _ _ _ p => p), nd, fr, by omega, ?_⟩
                  simpa [noX] using p
                | true =>
                  refine he _ _ _ ⟨_, ea, fp3, s3.grow e3, ?_⟩
                  cases q4 : fe ea with
                  | exc c => simp [noX, q4] at p; exact p.elim
                  | bad => simp [noX, q4] at p; exact p.elim
                  | ok t2 =>
                    have p' : Post K H B (Aw fp) (wx W ec σ) Q (compS g fc fe (wipeT env vs) (its.drop (i + 1)) >>= fun r => .ok (.lst .own ((outs ++ [t2]) ++ r))) := by
                      simp only [noX, q4, R.ok_bind, if_true] at p
                      cases q5 : compS g fc fe (wipeT env vs) (its.drop (i + 1)) with
                      | ok rr => rw [q5] at p; simpa using p
                      | exc c => rw [q5] at p; exact p
                      | bad => rw [q5] at p; exact p
                    intro y2 H4 Fy e4 ry ny fy
                    have e14 : Ext Hc H4 := e13.trans e4
                    have fyc : ∀ a ∈ Fy, Hc a = none := fun a ha => e13.none (fy a ha)
                    have dFy : D ∉ Fy := fun m => by have := fyc D m; rw [hc] at this; cases this
                    have nd' : (D :: (F ++ Fy)).Nodup := by
                      obtain ⟨h1, h2⟩ := List.nodup_cons.mp nd
                      refine List.nodup_cons.mpr ⟨fun m => (List.mem_append.mp m).elim h1 dFy, List.nodup_append.mpr ⟨h2, ny, fun a ha b hb q => ?_⟩⟩
                      subst q; exact r.own_dom _ _ _ a ha (fyc a hb)
                    refine ⟨acc, e14 _ _ hc, by omega, ?_, acc ++ [y2], outs ++ [t2], F ++ Fy, upd_same, ?_, nd', fun a ha => (List.mem_append.mp ha).elim (fr a) (fun z => ex.none (fyc a z)), by simp; omega, p'⟩
                    · exact upd_ext (ex.trans e14) hD
                    · have mem : ∀ a, a ∈ D :: (F ++ Fy) → a ∈ D :: F ∨ a ∈ Fy := fun a ha => by
                        rcases List.mem_cons.mp ha with rfl | ha
                        · exact .inl List.mem_cons_self
                        · exact (List.mem_append.mp ha).elim (fun z => .inl (List.mem_cons_of_mem _ z)) .inr
                      refine Reps.append (Reps.keep (W := fun a => a = D) ⟨fun a o q n => by rw [upd_ne n]; exact e14 a o q, fun a xs z => by rw [z, hc]; simp, fun a ob u z => by rw [z, hc]; simp⟩ outs acc F (fun g a _ n d p => ?_) (fun a ha z => (List.nodup_cons.mp nd).1 (z ▸ ha)) r)
                        (show Reps K _ _ [t2] [y2] Fy from ⟨y2, [], Fy, [], rfl, by simp, Rep.keep (W := fun a => a = D) ⟨fun a o q n => by rw [upd_ne n]; exact q, fun a xs z => by rw [z, e14 _ _ hc]; simp, fun a ob u z => by rw [z, e14 _ _ hc]; simp⟩ t2 y2 Fy (fun g a _ n d p => ?_) (fun a ha z => dFy (z ▸ ha)) ry, rfl, rfl⟩)
                      · have nD : ¬ (a ∈ D :: F) → ¬ a = D := fun h z => h (by simp [z])
                        have nF : ¬ AF (Aw fp) (D :: F) a → ¬ AF (Aw fp) (D :: (F ++ Fy)) a := fun h z => z.elim (fun z => h (.inl z)) fun z => (mem a z).elim (fun z => h (.inr z)) fun z => d (fyc a z)
                        cases g with
                        | own => exact absurd rfl n
                        | shr => exact ⟨⟨p.1, nF p.2.1, p.2.2⟩, nD fun z => p.2.1 (.inr z)⟩
                        | prt => exact ⟨⟨p.1, nF p.2⟩, nD fun z => p.2 (.inr z)⟩
                        | brw => exact ⟨p, fun z => s.odom (show Aw fp a from p) (z ▸ hHD)⟩
                        | fzn => exact ⟨⟨p.1, nF p.2⟩, nD fun z => p.2 (.inr z)⟩
                      · have up : Aw fp a → ((B.O a ∨ a ∈ D :: F) ∨ ∃ i ∈ vs, a ∈ fp i) ∨ Aw fp3 a := fun ⟨j, hj⟩ => by
                          by_cases cj : j ∈ vs
                          · exact .inl (.inr ⟨j, cj, hj⟩)
                          · refine .inr ⟨j, ?_⟩
                            rw [ch.eq j (fun z => cj (hvs j z))]
                            show a ∈ fwipe fp vs j
                            unfold fwipe; rw [if_neg cj]; exact hj
                        have nF : ¬ ((B.O a ∨ a ∈ D :: F) ∨ ∃ i ∈ vs, a ∈ fp i) → ¬ AF (Aw fp3) Fy a → ¬ AF (Aw fp) (D :: (F ++ Fy)) a := fun h1 h2 z => z.elim (fun z => (up z).elim h1 fun z => h2 (.inl z)) fun z => (mem a z).elim (fun z => h1 (.inl (.inr z))) fun z => h2 (.inr z)
                        cases g with
                        | own => exact absurd rfl n
                        | shr => exact ⟨⟨fun z => p.1 (.inl (.inl z)), nF p.1 p.2.1, p.2.2⟩, fun z => p.1 (.inl (.inr (by simp [z])))⟩
                        | prt => exact ⟨⟨fun z => p.1 (.inl (.inl z)), nF p.1 p.2⟩, fun z => p.1 (.inl (.inr (by simp [z])))⟩
                        | brw =>
                          have q : Aw fp a := (ch.aw a p).elim (fun ⟨j, hj⟩ => by
                            unfold fwipe at hj; split at hj
                            · simp at hj
                            · exact ⟨j, hj⟩) (by simp)
                          exact ⟨q, fun z => s.odom q (z ▸ hHD)⟩
                        | fzn => exact ⟨⟨fun z => p.1 (.inl (.inl z)), nF p.1 p.2⟩, fun z => p.1 (.inl (.inr (by simp [z])))⟩
        · left
          refine ⟨ok.2 (by omega), ?_⟩
          rw [List.drop_eq_nil_of_le (by omega)] at p
          have p' : Post K H B (Aw fp) (wx W ec σ) Q (.ok (.lst .own outs)) := by simpa [compS] using p
          exact p' (.ref D) Hc (D :: F) exH ⟨D, acc, F, rfl, hc, rfl, r⟩ nd (fun a ha => (List.mem_cons.mp ha).elim (fun z => z ▸ hHD) (fun z => e1.none (fr a z)))
    · rw [if_neg hsz] at h; exact h.elim

section
variable {X : Cx} {ec : Nat → Addr} {W : WX} {elt tg iter : Expr} {ifs : List Expr} {scope : Scope} {own : List (Str × Nat)} {pos : Pos} {fi : EnvT → R (List T)} {is : List Nat} {g : T → EnvT → Option EnvT} {fc : EnvT → R Bool} {fe : FE}
structure DTs (X : Cx) (ec : Nat → Addr) (W : WX) (ifs : List Expr) (fc : EnvT → R Bool) : Prop where
  ex : ∃ tt, PTs X ifs tt ∧ ∀ σ H Q, tDT X.K ec W fc σ H Q → tt σ H Q
theorem DTs.nil : DTs X ec W [] (fun _ => .ok true) := ⟨tYes, pts_nil, fun σ H Q ⟨B, env, fp, s, h⟩ => h H (Ext.refl _)⟩
theorem DTs.one {c : Expr} (h : DT X ec W c fc) : DTs X ec W [c] fc := ⟨_, pts_one h.run, fun _ _ _ h => h⟩
abbrev NoW : WX := fun _ _ _ _ => False
theorem PTs.mono {ifs : List Expr} {t t' : TT} (h : PTs X ifs t) (i : ∀ σ H Q, t' σ H Q → t σ H Q) : PTs X ifs t' := ⟨fun pins s σ H Q I q => h.run pins s σ H Q I (i σ H Q q)⟩
theorem DE.lc (hc : X.calm = true) (hN : X.N.Nodup) (hi : DI X ec W false tg iter fi) (ok : BlkOk X.N X.env.scope scope own)
    (hg : ∀ (s : Shared) (H : Hp) (C : Addr) (cl : List (Str × Addr)) (fp : List Addr), DG (X.blk s H scope (compEnvC scope cl C X.env) fp) tg is g) (ht : ∀ (s : Shared) (H : Hp) (C : Addr) (cl : List (Str × Addr)) (fp : List Addr), DTs (X.blk s H scope (compEnvC scope cl C X.env) fp) ec NoW ifs fc)
    (he : ∀ (s : Shared) (H : Hp) (C : Addr) (cl : List (Str × Addr)) (fp : List Addr), DE (X.blk s H scope (compEnvC scope cl C X.env) fp) ec NoW elt fe) (hvs : ∀ i ∈ is, i ∈ own.map (·.2) := by decide) (hs : ∀ x, foldedSetIterable iter X.env x = pure x := by intro _; rfl) :
    DE X ec W (.ListComp elt [⟨tg, iter, ifs, 0⟩] scope pos) (compF fi g fc fe (own.map (·.2))) := by
  refine ⟨pe_mono (pe_lc (g := tG X.K is g) (tt := tDT X.K ec NoW fc) (te := tD X.K ec NoW fe) hc hN hi.run ok (fun s H C cl fp => (hg s H C cl fp).run) (fun s H C cl fp => ?_) (fun s H C cl fp => (he s H C cl fp).run) hs) fun σ H Q h => comp_ok hvs (fun _ _ _ _ h => h) (fun _ _ _ h => h) (fun _ _ _ h => h) h⟩
  obtain ⟨tt, h1, h2⟩ := (ht s H C cl fp).ex
  exact PTs.mono h1 h2
theorem DS.setLc (i : Nat) {y : Str} {py spos : Pos} (hc : X.calm = true) (hN : X.N.Nodup) (hi : DI X ec W false tg iter fi) (ok : BlkOk X.N X.env.scope scope own)
    (hg : ∀ (s : Shared) (H : Hp) (C : Addr) (cl : List (Str × Addr)) (fp : List Addr), DG (X.blk s H scope (compEnvC scope cl C X.env) fp) tg is g) (ht : ∀ (s : Shared) (H : Hp) (C : Addr) (cl : List (Str × Addr)) (fp : List Addr), DTs (X.blk s H scope (compEnvC scope cl C X.env) fp) ec NoW ifs fc)
    (he : ∀ (s : Shared) (H : Hp) (C : Addr) (cl : List (Str × Addr)) (fp : List Addr), DE (X.blk s H scope (compEnvC scope cl C X.env) fp) ec NoW elt fe) (hy : X.N[i]? = some y := by rfl) (hyl : X.env.scope.names.lookup y = some .local := by rfl)
    (hsw : swapsWith (.ListComp elt [⟨tg, iter, ifs, 0⟩] scope pos) (some (.Name y py)) spos.line X.env = pure true := by exact sw_true rfl rfl rfl (by decide +kernel)) (hvs : ∀ i ∈ is, i ∈ own.map (·.2) := by decide) (hs : ∀ x, foldedSetIterable iter X.env x = pure x := by intro _; rfl) :
    DS X ec W (.Assign [.Name y py] (.ListComp elt [⟨tg, iter, ifs, 0⟩] scope pos) spos) (fun env => bS env (compF fi g fc fe (own.map (·.2)) env) fun t => setV i t env) := by
  refine ⟨ps_mono (ps_setLc (g := tG X.K is g) (tt := tDT X.K ec NoW fc) (te := tD X.K ec NoW fe) hc hN hy hyl hsw hi.run ok (fun s H C cl fp => (hg s H C cl fp).run) (fun s H C cl fp => ?_) (fun s H C cl fp => (he s H C cl fp).run) hs) fun D σ H ⟨B, env, fp, s, h⟩ => ?_⟩
  · obtain ⟨tt, h1, h2⟩ := (ht s H C cl fp).ex
    exact PTs.mono h1 h2
  · exact comp_ok hvs (fun _ _ _ _ h => h) (fun _ _ _ h => h) (fun _ _ _ h => h) (tD.atStmt s h fun x t F H1 e1 r n f p => setV_post s e1 r n f p)
end

/-! ### sources -/
theorem pi_or {X : Cx} {tg e : Expr} {w1 w2 : TI} (h1 : PI X tg e w1) (h2 : PI X tg e w2) : PI X tg e (fun σ H R => w1 σ H R ∨ w2 σ H R) := ⟨fun pins s σ H R I q => q.elim (h1.run pins s σ H R I) (h2.run pins s σ H R I)⟩
theorem Reps.nth {K : PySem.W.Frag} {H : Hp} {P : Al} : ∀ {ts : List T} {vs : List V} {i : Nat} {v : V}, Reps K H P ts vs [] → vs[i]? = some v → ∃ t, ts[i]? = some t ∧ Rep K H P t v []
  | [], _, i, v, ⟨e, _⟩, h => by rw [e] at h; simp at h
  | t :: ts, _, i, v, ⟨x, r, F1, F2, e, e', c, d⟩, h => by
    have e1 : F1 = [] := (List.append_eq_nil_iff.mp e'.symm).1
    have e2 : F2 = [] := (List.append_eq_nil_iff.mp e'.symm).2
    subst e1; subst e2; subst e
    cases i with
    | zero => simp at h; subst h; exact ⟨t, rfl, c⟩
    | succ i => simpa using Reps.nth (i := i) d (by simpa using h)
/-- the frozen items of a list or a tuple, later -/
theorem items_stand {K : PySem.W.Frag} {H : Hp} {O C A Z : Addr → Prop} {ts : List T} {vs : List V} {G : List Addr} {F : List Addr} (hb : T.hasL .brw ts = false) (r : Reps K H (Pm O C (AF A F) A) ts vs G) (cz : ∀ a ∈ G, ¬ O a ∧ ¬ A a ∧ ¬ C a)
    (hz : ∀ a, Z a → A a) (hm : ∀ a, A a → ∃ o, H a = some o ∧ (∀ xs, o ≠ .tup xs) ∧ ∀ ob u, o ≠ .frz ob u) {Hc : Hp} (k : ∀ a o, H a = some o → ¬ Z a → Hc a = some o) :
    Reps K Hc (fun g a => Pm O C A Nz g a ∧ (g ≠ .own → H a ≠ none)) (T.tags frze ts) vs [] := by
  have r1 : Reps K H (Pm O C A Nz) (T.tags frze ts) vs [] := by
    refine Reps.tagN (f := frze) (fun g => by cases g <;> simp [frze]) ⟨rfl, fun g => by cases g <;> simp [frze], fun g => by cases g <;> simp [frze]⟩ (fun g a n p => ?_) ts vs G (fun b hb => cz b hb) (noBrwL hb r)
    cases g with
    | own => exact absurd rfl n
    | shr => exact ⟨p.1, fun z => p.2.1 (.inl z), p.2.2⟩
    | prt => exact ⟨p.1, fun z => p.2 (.inl z)⟩
    | brw => exact p
    | fzn => exact ⟨p.1, fun z => p.2 (.inl z)⟩
  refine Reps.keep (W := Z) ⟨k, fun a xs z q => ?_, fun a ob u z q => ?_⟩ _ vs [] (fun g a _ n d p => ⟨⟨p, fun _ => d⟩, fun z => ?_⟩) (by simp) r1
  · obtain ⟨o, e, h1, _⟩ := hm a (hz a z); rw [e] at q; exact h1 xs (Option.some.inj q)
  · obtain ⟨o, e, _, h2⟩ := hm a (hz a z); rw [e] at q; exact h2 ob u (Option.some.inj q)
  · have := hz a z
    cases g with
    | own => exact n rfl
    | shr => exact p.2.1 this
    | prt => exact p.2 this
    | brw => exact p
    | fzn => exact p.2 this
theorem tags_length (f : Tg → Tg) : ∀ ts : List T, (T.tags f ts).length = ts.length
  | [] => rfl
  | t :: ts => by simp [T.tags, tags_length f ts]
def itemsOf (lp : Bool) : T → R (List T)
  | .lst g ts => if (g = .brw ∧ lp = true) ∨ T.hasL .brw ts = true then .bad else .ok (T.tags frze ts)
  | .tup ts => if T.hasL .brw ts = true then .bad else .ok (T.tags frze ts)
  | .tupN ts => if T.hasL .brw ts = true then .bad else .ok (T.tags frze ts)
  | .str x => .ok (x.cps.toList.map fun c => .str ⟨#[c]⟩)
  | _ => .bad
theorem Sta.A_mut {K : PySem.W.Frag} {B : Bx} {env : EnvT} {σ : L2.St} {H H1 : Hp} {fp : Fps} (s : Sta K B env σ H fp) (e : Ext H H1) : ∀ a, Aw fp a → ∃ o, H1 a = some o ∧ (∀ xs, o ≠ .tup xs) ∧ ∀ ob u, o ≠ .frz ob u := fun a ⟨i, hi⟩ => by
  obtain ⟨o, h1, h2⟩ := s.own_mut a hi
  exact ⟨o, e a o h1, h2⟩
theorem LAt.sq {K : PySem.W.Frag} {H : Hp} {P : Al} {g : Tg} {a : Addr} {vs : List V} (l : LAt K H P g a vs) : SqL K H a vs := by
  cases g with
  | own => exact SqL.of l
  | shr => exact SqL.of l.1
  | prt => exact SqL.of l.1
  | brw => exact SqL.of l.1
  | fzn => exact FzL.seq l
theorem itOk_list {K : PySem.W.Frag} {H : Hp} {O C A : Addr → Prop} {lp : Bool} {g : Tg} {a : Addr} {vs : List V} {ts : List T} {F G : List Addr} (l : LAt K H (Pm O C (AF A F) A) g a vs) (p : Fp g a G F) (hb : T.hasL .brw ts = false) (hg : ¬ (g = .brw ∧ lp = true))
    (r : Reps K H (Pm O C (AF A F) A) ts vs G) (cz : ∀ a ∈ F, ¬ O a ∧ ¬ A a ∧ ¬ C a) (hm : ∀ a, A a → ∃ o, H a = some o ∧ (∀ xs, o ≠ .tup xs) ∧ ∀ ob u, o ≠ .frz ob u) : ItOk K (Itl K a) H (fun a => lp = true ∧ A a) O C A (T.tags frze ts) := by
  intro i Hc k
  have sq : SqL K Hc a vs := by
    cases g with
    | own => have e : F = a :: G := p; exact .inl (.inl (k a _ l fun z => (cz a (by rw [e]; simp)).2.1 z.2))
    | shr => exact .inl (.inl (k a _ l.1 fun z => l.2.2.1 (.inl z.2)))
    | prt => exact .inl (.inl (k a _ l.1 fun z => l.2.2 (.inl z.2)))
    | brw => exact .inl (.inl (k a _ l.1 fun z => hg ⟨rfl, z.1⟩))
    | fzn =>
      rcases (show FzL K H a vs from l) with ⟨ob, q⟩ | q
      · refine .inl (.inr ⟨ob, k a _ q fun z => ?_⟩)
        obtain ⟨o, ho, _, h4⟩ := hm a z.2; rw [ho] at q; exact h4 ob _ (Option.some.inj q)
      · exact .inr q
  have rs := items_stand hb r (fun b hb => cz b (p.sub b hb)) (Z := fun a => lp = true ∧ A a) (fun _ z => z.2) hm k
  have hl : (T.tags frze ts).length = vs.length := by rw [tags_length]; exact r.length
  refine ⟨fun hi => ?_, fun hi => ⟨vs, sq, by omega⟩⟩
  have hv : vs[i]? = some (vs[i]'(by omega)) := List.getElem?_eq_getElem (by omega)
  refine ⟨⟨vs, _, sq, hv⟩, ?_⟩
  rintro x H' ⟨rfl, hx⟩
  obtain ⟨t, ht, rt⟩ := rs.nth (hx vs sq)
  exact ⟨Ext.refl _, t, ht, rt⟩
theorem itOk_tup {K : PySem.W.Frag} {H : Hp} {O C A : Addr → Prop} {lp : Bool} {a : Addr} {vs : List V} {ts : List T} {F : List Addr} (l : H a = some (.tup vs)) (hb : T.hasL .brw ts = false)
    (r : Reps K H (Pm O C (AF A F) A) ts vs F) (cz : ∀ a ∈ F, ¬ O a ∧ ¬ A a ∧ ¬ C a) (hm : ∀ a, A a → ∃ o, H a = some o ∧ (∀ xs, o ≠ .tup xs) ∧ ∀ ob u, o ≠ .frz ob u) : ItOk K (Itt K a) H (fun a => lp = true ∧ A a) O C A (T.tags frze ts) := by
  intro i Hc k
  have sq : SqT K Hc a vs := by
    refine SqT.of (Kp.sqt (W := fun a => lp = true ∧ A a) ⟨k, fun b xs z q => ?_, fun b ob u z q => ?_⟩ l)
    · obtain ⟨o, e, h1, _⟩ := hm b z.2; rw [e] at q; exact h1 xs (Option.some.inj q)
    · obtain ⟨o, e, _, h2⟩ := hm b z.2; rw [e] at q; exact h2 ob u (Option.some.inj q)
  have rs := items_stand hb r cz (Z := fun a => lp = true ∧ A a) (fun _ z => z.2) hm k
  have hl : (T.tags frze ts).length = vs.length := by rw [tags_length]; exact r.length
  refine ⟨fun hi => ?_, fun hi => ⟨vs, sq, by omega⟩⟩
  have hv : vs[i]? = some (vs[i]'(by omega)) := List.getElem?_eq_getElem (by omega)
  refine ⟨⟨vs, _, sq, hv⟩, ?_⟩
  rintro x H' ⟨rfl, hx⟩
  obtain ⟨t, ht, rt⟩ := rs.nth (hx vs sq)
  exact ⟨Ext.refl _, t, ht, rt⟩
theorem itOk_tupN {K : PySem.W.Frag} {H : Hp} {O C A : Addr → Prop} {lp : Bool} {a : Addr} {vs : List V} {ts : List T} {F : List Addr} (l : NAt H a vs) (hb : T.hasL .brw ts = false)
    (r : Reps K H (Pm O C (AF A F) A) ts vs F) (cz : ∀ a ∈ F, ¬ O a ∧ ¬ A a ∧ ¬ C a) (hm : ∀ a, A a → ∃ o, H a = some o ∧ (∀ xs, o ≠ .tup xs) ∧ ∀ ob u, o ≠ .frz ob u) : ItOk K (Itt K a) H (fun a => lp = true ∧ A a) O C A (T.tags frze ts) := by
  intro i Hc k
  have sq : SqT K Hc a vs := by
    obtain ⟨ob, q, _⟩ := l
    refine .inl (.inr ⟨ob, k a _ q fun z => ?_⟩)
    obtain ⟨o, ho, _, h4⟩ := hm a z.2; rw [ho] at q; exact h4 ob _ (Option.some.inj q)
  have rs := items_stand hb r cz (Z := fun a => lp = true ∧ A a) (fun _ z => z.2) hm k
  have hl : (T.tags frze ts).length = vs.length := by rw [tags_length]; exact r.length
  refine ⟨fun hi => ?_, fun hi => ⟨vs, sq, by omega⟩⟩
  have hv : vs[i]? = some (vs[i]'(by omega)) := List.getElem?_eq_getElem (by omega)
  refine ⟨⟨vs, _, sq, hv⟩, ?_⟩
  rintro x H' ⟨rfl, hx⟩
  obtain ⟨t, ht, rt⟩ := rs.nth (hx vs sq)
  exact ⟨Ext.refl _, t, ht, rt⟩
theorem itOk_str {K : PySem.W.Frag} {H : Hp} {O C A Z : Addr → Prop} {x : Str} : ItOk K (Its x) H Z O C A (x.cps.toList.map fun c => .str ⟨#[c]⟩) := by
  intro i Hc k
  refine ⟨fun hi => ⟨by show i < x.cps.size; simpa using hi, ?_⟩, fun hi => by show x.cps.size ≤ i; simpa using hi⟩
  rintro v H' ⟨rfl, c, hc, rfl⟩
  refine ⟨Ext.refl _, .str ⟨#[c]⟩, ?_, rfl, rfl⟩
  rw [List.getElem?_map, Array.getElem?_toList, hc]; rfl
section
variable {X : Cx} {ec : Nat → Addr} {W : WX} {lp : Bool} {tg e : Expr} {fe : FE} {pos : Pos}
def seqI (lp : Bool) (fe : FE) : EnvT → R (List T) := fun env => do let t ← fe env; itemsOf lp t
theorem DI.seq (he : DE X ec W e fe) : DI X ec W lp tg e (seqI lp fe) := by
  refine ⟨pi_mono (pi_or (pi_list he.run) (pi_or (pi_tup he.run) (pi_str he.run))) fun σ H R' ⟨B, env, fp, s, h⟩ => ?_⟩
  unfold seqI at h
  cases q : fe env with
  | exc c => rw [q] at h; exact .inl ⟨B, env, fp, s, by rw [q]; exact h⟩
  | bad => rw [q] at h; exact h.elim
  | ok t =>
    rw [q] at h
    simp only [R.ok_bind] at h
    cases t with
    | lst g ts =>
      refine .inl ⟨B, env, fp, s, ?_⟩
      rw [q]
      intro v H1 F e1 r n f
      obtain ⟨a, vs, G, rfl, l, p, r⟩ := r
      simp only [itemsOf] at h
      by_cases c : (g = .brw ∧ lp = true) ∨ T.hasL .brw ts = true
      · rw [if_pos c] at h; exact h.elim
      · rw [if_neg c] at h
        have sq : ∃ xs, SqL X.K H1 a xs := ⟨vs, l.sq⟩
        exact ⟨a, rfl, sq, h _ H1 e1 (itOk_list l p (by simpa using fun z => c (.inr z)) (fun z => c (.inl z)) r (fun a ha => s.occ0 (f a ha)) (s.A_mut e1))⟩
    | tup ts =>
      refine .inr (.inl ⟨B, env, fp, s, ?_⟩)
      rw [q]
      intro v H1 F e1 r n f
      obtain ⟨a, vs, rfl, l, r⟩ := r
      simp only [itemsOf] at h
      by_cases c : T.hasL .brw ts = true
      · rw [if_pos c] at h; exact h.elim
      · rw [if_neg c] at h
        exact ⟨a, rfl, ⟨vs, SqT.of l⟩, h _ H1 e1 (itOk_tup l (by simpa using c) r (fun a ha => s.occ0 (f a ha)) (s.A_mut e1))⟩
    | tupN ts =>
      refine .inr (.inl ⟨B, env, fp, s, ?_⟩)
      rw [q]
      intro v H1 F e1 r n f
      obtain ⟨a, vs, rfl, l, r⟩ := r
      simp only [itemsOf] at h
      by_cases c : T.hasL .brw ts = true
      · rw [if_pos c] at h; exact h.elim
      · rw [if_neg c] at h
        exact ⟨a, rfl, ⟨vs, l.sqt⟩, h _ H1 e1 (itOk_tupN l (by simpa using c) r (fun a ha => s.occ0 (f a ha)) (s.A_mut e1))⟩
    | str x =>
      refine .inr (.inr ⟨B, env, fp, s, ?_⟩)
      rw [q]
      intro v H1 F e1 r n f
      obtain ⟨rfl, _⟩ := r
      exact ⟨x, rfl, h _ H1 e1 itOk_str⟩
    | _ => exact h.elim
def fits62 (i : Int) : Bool := decide (-4611686018427387904 ≤ i) && decide (i < 4611686018427387904)
theorem fits62_lo {i : Int} (h : fits62 i = true) : -(2 ^ 62) ≤ i ∧ i < 2 ^ 62 := by
  unfold fits62 at h
  simp only [Bool.and_eq_true, decide_eq_true_eq] at h
  exact ⟨by omega, by omega⟩
def rng2 (i j : Int) : R (List T) := if fits62 i = true ∧ fits62 j = true then .ok ((List.range (j - i).toNat).map fun (k : Nat) => .int (i + k)) else .bad
theorem itOk_rng {K : PySem.W.Frag} {H : Hp} {O C A Z : Addr → Prop} {i j : Int} : ItOk K (Itr i (j - i).toNat) H Z O C A ((List.range (j - i).toNat).map fun (k : Nat) => .int (i + k)) := by
  intro k Hc _
  refine ⟨fun hk => ⟨by show k < (j - i).toNat; simpa using hk, ?_⟩, fun hk => by show (j - i).toNat ≤ k; simpa using hk⟩
  rintro v H' ⟨rfl, rfl⟩
  refine ⟨Ext.refl _, .int (i + k), ?_, rfl, rfl⟩
  rw [List.getElem?_map, List.getElem?_range (by simpa using hk)]; rfl
def rangeI (fs : EnvT → R (List T)) : EnvT → R (List T) := fun env => do
  let ts ← fs env
  match ts with
    | [.int j] => rng2 0 j
    | [.int i, .int j] => rng2 i j
    | _ => .bad
theorem range_post {K : PySem.W.Frag} {fs : EnvT → R (List T)} {σ : L2.St} {H : Hp} {R' : It → Hp → Prop} (h : tI K ec W lp (rangeI fs) σ H R') : tDA K ec W fs σ H (fun vs H1 => (∃ j : Int, vs = [.int j] ∧ -(2 ^ 62) ≤ j ∧ j < 2 ^ 62 ∧ R' (Itr 0 j.toNat) H1) ∨
    ∃ i j : Int, vs = [.int i, .int j] ∧ (-(2 ^ 62) ≤ i ∧ i < 2 ^ 62 ∧ -(2 ^ 62) ≤ j ∧ j < 2 ^ 62) ∧ R' (Itr i (j - i).toNat) H1) := by
  obtain ⟨B, env, fp, s, h⟩ := h
  refine ⟨B, env, fp, s, ?_⟩
  unfold rangeI at h
  cases q : fs env with
  | exc c => rw [q] at h; exact h
  | bad => rw [q] at h; exact h
  | ok ts =>
    rw [q] at h
    simp only [R.ok_bind] at h
    intro vs H1 F e1 r n f
    rcases ts with _ | ⟨t1, _ | ⟨t2, _ | ⟨t3, ts⟩⟩⟩
    · exact h.elim
    · cases t1 with
      | int j =>
        obtain ⟨v, r', F1, F2, rfl, _, c, d⟩ := r
        obtain ⟨rfl, _⟩ := c
        obtain ⟨rfl, _⟩ := d
        dsimp only [rng2] at h
        by_cases c : fits62 0 = true ∧ fits62 j = true
        · rw [if_pos c] at h
          obtain ⟨h1, h2⟩ := fits62_lo c.2
          refine .inl ⟨j, rfl, h1, h2, ?_⟩
          have := h _ H1 e1 (itOk_rng (i := 0) (j := j))
          rw [Int.sub_zero] at this
          exact this
        · rw [if_neg c] at h; exact h.elim
      | _ => exact h.elim
    · cases t1 with
      | int i =>
        cases t2 with
        | int j =>
          obtain ⟨v, r', F1, F2, rfl, _, c, v2, r2, F3, F4, rfl, _, c2, d⟩ := r
          obtain ⟨rfl, _⟩ := c
          obtain ⟨rfl, _⟩ := c2
          obtain ⟨rfl, _⟩ := d
          dsimp only [rng2] at h
          by_cases c : fits62 i = true ∧ fits62 j = true
          · rw [if_pos c] at h
            obtain ⟨h1, h2⟩ := fits62_lo c.1
            obtain ⟨h3, h4⟩ := fits62_lo c.2
            exact .inr ⟨i, j, rfl, ⟨h1, h2, h3, h4⟩, h _ H1 e1 itOk_rng⟩
          · rw [if_neg c] at h; exact h.elim
        | _ => exact h.elim
      | _ => exact h.elim
    · exfalso
      cases t1 <;> first | exact h.elim | (cases t2 <;> exact h.elim)
theorem DI.range1 {a : Expr} {fs : EnvT → R (List T)} {p pos : Pos} (hg : Gl X "range") (hm : X.mg "range" = none) (ha : DA X ec W [a] fs) (hs : starEach [a] X.env = [(false, eval a X.env)] := by rfl) : DI X ec W lp tg (.Call (.Name "range" p) [a] [] pos) (rangeI fs) := by
  refine ⟨pi_mono (pi_range1 hg hm ⟨fun q pins s σ H Q I h => ha.run.run q pins s σ H Q I h⟩ hs) fun σ H R' h => ?_⟩
  obtain ⟨B, env, fp, s, p⟩ := range_post h
  refine ⟨B, env, fp, s, ?_⟩
  cases q : fs env with
  | exc c => rw [q] at p; exact p
  | bad => rw [q] at p; exact p
  | ok ts =>
    rw [q] at p
    intro vs H1 F e1 r n f
    have hl := ha.len env ts q
    rcases p vs H1 F e1 r n f with z | ⟨i, j, e, _⟩
    · exact z
    · have := r.length; rw [e, hl] at this; simp at this
theorem DI.range2 {a b : Expr} {fs : EnvT → R (List T)} {p pos : Pos} (hg : Gl X "range") (hm : X.mg "range" = none) (ha : DA X ec W [a, b] fs) (hs : starEach [a, b] X.env = [(false, eval a X.env), (false, eval b X.env)] := by rfl) (hs2 : starEach [b] X.env = [(false, eval b X.env)] := by rfl) : DI X ec W lp tg (.Call (.Name "range" p) [a, b] [] pos) (rangeI fs) := by
  refine ⟨pi_mono (pi_range2 hg hm ⟨fun q pins s σ H Q I h => ha.run.run q pins s σ H Q I h⟩ hs hs2) fun σ H R' h => ?_⟩
  obtain ⟨B, env, fp, s, p⟩ := range_post h
  refine ⟨B, env, fp, s, ?_⟩
  cases q : fs env with
  | exc c => rw [q] at p; exact p
  | bad => rw [q] at p; exact p
  | ok ts =>
    rw [q] at p
    intro vs H1 F e1 r n f
    have hl := ha.len env ts q
    rcases p vs H1 F e1 r n f with ⟨j, e, _⟩ | z
    · have := r.length; rw [e, hl] at this; simp at this
    · exact z
end
end VS

namespace VS
open PySem PySem.Spec L2
open PyProof.Rows hiding St

/-! ### ends of operations -/
section
variable {K : PySem.W.Frag} {H : Hp} {O C A : Addr → Prop} {F0 G : List Addr} {Q : VK} {ts : List T} {vs : List V} {t : T} {v : V}
theorem Fp.sublist {g : Tg} {a : Addr} {G F : List Addr} (h : Fp g a G F) : G.Sublist F := by
  cases g with
  | own => have e : F = a :: G := h; subst e; exact List.sublist_cons_self a G
  | shr => obtain ⟨rfl, rfl⟩ := h; exact List.Sublist.refl _
  | prt => obtain ⟨rfl, rfl⟩ := h; exact List.Sublist.refl _
  | brw => obtain ⟨rfl, rfl⟩ := h; exact List.Sublist.refl _
  | fzn => obtain ⟨rfl, rfl⟩ := h; exact List.Sublist.refl _
/-- a value that stands is handed on -/
theorem Fin.same (h : Fin K H O C A F0 Q t) (cz : Cz H O C A F0) (r : Rep K H (Pm O C (AF A F0) A) t v G) (hG : G.Sublist F0) : Q v H :=
  h v H G (Ext.refl _) (r.mono (Ext.refl _) fun g a _ _ _ p => Pm.to id (fun z => z.elim .inl fun m => .inr (hG.subset m)) id p) (cz.nd.sublist hG) fun a ha => .inr (hG.subset ha)
/-- a new list -/
theorem Fin.lst (h : Fin K H O C A F0 Q (.lst .own ts)) (cz : Cz H O C A F0) (r : Reps K H (Pm O C (AF A F0) A) ts vs G) (hG : G.Sublist F0) : ∀ p, H p = none → Q (.ref p) (upd H p (.lst vs)) := fun p hp =>
  h (.ref p) (upd H p (.lst vs)) (p :: G) (Ext.new hp) ⟨p, vs, G, rfl, upd_same, rfl, r.more (Ext.new hp) (fun _ _ z => z) (fun a ha => (List.mem_cons.mp ha).elim (fun z => .inr (z ▸ hp)) fun m => .inl (hG.subset m))⟩
    (List.nodup_cons.mpr ⟨fun m => r.own_dom _ _ _ p m hp, cz.nd.sublist hG⟩) fun a ha => (List.mem_cons.mp ha).elim (fun z => .inl (z ▸ hp)) fun m => .inr (hG.subset m)
theorem Fin.tup (h : Fin K H O C A F0 Q (.tup ts)) (cz : Cz H O C A F0) (r : Reps K H (Pm O C (AF A F0) A) ts vs G) (hG : G.Sublist F0) : ∀ p, H p = none → Q (.ref p) (upd H p (.tup vs)) := fun p hp =>
  h (.ref p) (upd H p (.tup vs)) G (Ext.new hp) ⟨p, vs, rfl, upd_same, r.more (Ext.new hp) (fun _ _ z => z) (fun a ha => .inl (hG.subset ha))⟩
    (cz.nd.sublist hG) fun a ha => .inr (hG.subset ha)
theorem LAt.at_ {P : Al} {g : Tg} {a : Addr} (l : LAt K H P g a vs) (h : g ≠ .fzn) : H a = some (.lst vs) := by
  cases g with
  | own => exact l
  | shr => exact l.1
  | prt => exact l.1
  | brw => exact l.1
  | fzn => exact absurd rfl h
end

/-! ### numbers, texts, sums -/
def small64 (i : Int) : Bool := decide (-18446744073709551616 < i) && decide (i < 18446744073709551616)
theorem small64_ok {i : Int} (h : small64 i = true) : -(2 ^ 64) < i ∧ i < 2 ^ 64 := by
  unfold small64 at h
  simp only [Bool.and_eq_true, decide_eq_true_eq] at h
  exact ⟨by omega, by omega⟩
def CMulX (i j : Int) : Prop := i.natAbs.log2 + j.natAbs.log2 < 100000000
theorem CMulX.ok {i j : Int} (h : CMulX i j) : IntMulOk i j := by
  have bits : ∀ z : Int, Builtin.Int.intBits z ≤ z.natAbs.log2 + 1 := fun z => by
    unfold Builtin.Int.intBits
    split <;> omega
  have bi := bits i
  have bj := bits j
  have sum : i.natAbs.log2 + j.natAbs.log2 < 100000000 := h
  have line : bitsLine = 134217728 := by decide
  unfold IntMulOk
  intro both
  rw [Bool.and_eq_true] at both
  have big := both.2
  unfold Builtin.Int.intTooBig at big
  have big2 := of_decide_eq_true big
  rw [line] at big2
  omega
theorem op_mulX {X : Cx} : OpR X (binaryOp .Mult) (rI CMulX fun i j => .int (i * j)) := opI fun _ _ _ _ _ _ _ hc q => mul_int q hc.ok
def mulOk (i j : Int) : Bool := small64 i || small64 j || decide (i.natAbs.log2 + j.natAbs.log2 < 100000000)
def addT : T → T → Option T
  | .int i, .int j => some (.int (i + j))
  | .str x, .str y => if x.length + y.length ≤ sizeLine then some (.str (x ++ y)) else none
  | .lst g xs, .lst h ys => if g ≠ .fzn ∧ h ≠ .fzn ∧ xs.length + ys.length ≤ sizeLine then some (.lst .own (xs ++ ys)) else none
  | .tup xs, .tup ys => if xs.length + ys.length ≤ sizeLine then some (.tup (xs ++ ys)) else none
  | _, _ => none
def subT : T → T → Option T
  | .int i, .int j => some (.int (i - j))
  | _, _ => none
def mulT : T → T → Option T
  | .int i, .int j => if mulOk i j = true then some (.int (i * j)) else none
  | _, _ => none
def divT : T → T → Option T
  | .int i, .int j => if 0 < j ∧ j.natAbs.log2 < 9000 then some (.int (i / j)) else none
  | _, _ => none
def modT : T → T → Option T
  | .int i, .int j => if 0 < j then some (.int (i % j)) else none
  | _, _ => none
def powT : T → T → Option T
  | .int i, .int j => if 0 ≤ j ∧ j ≤ 1000000 ∧ small64 i = true then some (.int (i ^ j.toNat)) else none
  | _, _ => none
def negT : T → Option T
  | .int i => some (.int (-i))
  | _ => none
section
variable {X : Cx} {ec : Nat → Addr} {W : WX} {a b : Expr} {fa fb : FE} {pos : Pos}
def rAdd (K : PySem.W.Frag) : R2 := fun x y H Q => (rI0 fun i j => .int (i + j)) x y H Q ∨ (∃ i j, x = .str i ∧ y = .str j ∧ i.length + j.length ≤ sizeLine ∧ Q (.str (i ++ j)) H) ∨ rCat x y H Q ∨ rCatA K x y H Q
theorem op_addT : OpR X (binaryOp .Add) (rAdd X.K) := OpR.or op_add (OpR.or op_add_str (OpR.or op_cat op_catA))
theorem addT_ok {K : PySem.W.Frag} : Op2 K (rAdd K) addT := by
  intro H O C A x y tx ty Fx Fy Q t cz rx ry e h
  cases tx with
  | int i =>
    cases ty with
    | int j =>
      obtain ⟨rfl, _⟩ := rx; obtain ⟨rfl, _⟩ := ry
      simp only [addT, Option.some.injEq] at e; subst e
      exact .inl ⟨i, j, rfl, rfl, h.int⟩
    | _ => simp [addT] at e
  | str i =>
    cases ty with
    | str j =>
      obtain ⟨rfl, _⟩ := rx; obtain ⟨rfl, _⟩ := ry
      simp only [addT] at e
      split at e
      · rename_i c; simp only [Option.some.injEq] at e; subst e
        exact .inr (.inl ⟨i, j, rfl, rfl, c, h.str⟩)
      · cases e
    | _ => simp [addT] at e
  | lst g xs =>
    cases ty with
    | lst g' ys =>
      obtain ⟨a, vs, G, rfl, l, p, r⟩ := rx; obtain ⟨b, ws, G', rfl, l', p', r'⟩ := ry
      simp only [addT] at e
      split at e
      · rename_i c; simp only [Option.some.injEq] at e; subst e
        exact .inr (.inr (.inl ⟨a, b, vs, ws, rfl, rfl, l.at_ c.1, l'.at_ c.2.1, by rw [← r.length, ← r'.length]; exact c.2.2, h.lst cz (r.append r') (p.sublist.append p'.sublist)⟩))
      · cases e
    | _ => simp [addT] at e
  | tup xs =>
    cases ty with
    | tup ys =>
      obtain ⟨a, vs, rfl, l, r⟩ := rx; obtain ⟨b, ws, rfl, l', r'⟩ := ry
      simp only [addT] at e
      split at e
      · rename_i c; simp only [Option.some.injEq] at e; subst e
        refine .inr (.inr (.inr ⟨a, b, vs, ws, rfl, rfl, SqT.of l, SqT.of l', by rw [← r.length, ← r'.length]; exact c, fun z => ?_, fun z1 z2 => ?_, fun _ _ => h.tup cz (r.append r') (List.Sublist.refl _)⟩))
        · subst z
          have e1 : xs = [] := List.length_eq_zero_iff.mp (by rw [r.length]; rfl)
          subst e1
          exact h.same cz (v := .ref b) (t := .tup ([] ++ ys)) ⟨b, ws, rfl, l', r'⟩ (List.sublist_append_right _ _)
        · subst z2
          have e1 : ys = [] := List.length_eq_zero_iff.mp (by rw [r'.length]; rfl)
          subst e1
          exact h.same cz (v := .ref a) (t := .tup (xs ++ [])) ⟨a, vs, rfl, l, by rw [List.append_nil]; exact r⟩ (List.sublist_append_left _ _)
      · cases e
    | _ => simp [addT] at e
  | _ => simp [addT] at e
theorem DE.add (ha : DE X ec W a fa) (hb : DE X ec W b fb) : DE X ec W (.BinOp a .Add b pos) (bin2 addT fa fb) := DE.op2 op_addT addT_ok ha hb
theorem int2_ok {K : PySem.W.Frag} {c : Int → Int → Prop} {f : Int → Int → Int} {g : T → T → Option T} (hg : ∀ x y t, g x y = some t → ∃ i j, x = .int i ∧ y = .int j ∧ c i j ∧ t = .int (f i j)) : Op2 K (rI c fun i j => .int (f i j)) g := by
  intro H O C A x y tx ty Fx Fy Q t cz rx ry e h
  obtain ⟨i, j, rfl, rfl, hc, rfl⟩ := hg _ _ _ e
  obtain ⟨rfl, _⟩ := rx; obtain ⟨rfl, _⟩ := ry
  exact ⟨i, j, rfl, rfl, hc, h.int⟩
theorem DE.sub (ha : DE X ec W a fa) (hb : DE X ec W b fb) : DE X ec W (.BinOp a .Sub b pos) (bin2 subT fa fb) := by
  refine DE.op2 op_sub (fun H O C A x y tx ty Fx Fy Q t cz rx ry e h => ?_) ha hb
  cases tx with
  | int i =>
    cases ty with
    | int j =>
      obtain ⟨rfl, _⟩ := rx; obtain ⟨rfl, _⟩ := ry
      simp only [subT, Option.some.injEq] at e; subst e
      exact ⟨i, j, rfl, rfl, h.int⟩
    | _ => simp [subT] at e
  | _ => simp [subT] at e
theorem DE.mul (ha : DE X ec W a fa) (hb : DE X ec W b fb) : DE X ec W (.BinOp a .Mult b pos) (bin2 mulT fa fb) := by
  refine DE.op2 (OpR.or op_mul op_mulX) (fun H O C A x y tx ty Fx Fy Q t cz rx ry e h => ?_) ha hb
  cases tx with
  | int i =>
    cases ty with
    | int j =>
      obtain ⟨rfl, _⟩ := rx; obtain ⟨rfl, _⟩ := ry
      simp only [mulT] at e
      split at e
      · rename_i c; simp only [Option.some.injEq] at e; subst e
        simp only [mulOk, Bool.or_eq_true, decide_eq_true_eq] at c
        rcases c with (c | c) | c
        · exact .inl ⟨i, j, rfl, rfl, .inl (small64_ok c), h.int⟩
        · exact .inl ⟨i, j, rfl, rfl, .inr (small64_ok c), h.int⟩
        · exact .inr ⟨i, j, rfl, rfl, c, h.int⟩
      · cases e
    | _ => simp [mulT] at e
  | _ => simp [mulT] at e
theorem DE.fdiv (ha : DE X ec W a fa) (hb : DE X ec W b fb) : DE X ec W (.BinOp a .FloorDiv b pos) (bin2 divT fa fb) := by
  refine DE.op2 op_fdivW (int2_ok (c := CDivW) (f := fun i j => i / j) fun x y t e => ?_) ha hb
  cases x with
  | int i =>
    cases y with
    | int j =>
      simp only [divT] at e
      split at e
      · rename_i c; simp only [Option.some.injEq] at e; exact ⟨i, j, rfl, rfl, c, e.symm⟩
      · cases e
    | _ => simp [divT] at e
  | _ => simp [divT] at e
theorem DE.mod (ha : DE X ec W a fa) (hb : DE X ec W b fb) : DE X ec W (.BinOp a .Mod b pos) (bin2 modT fa fb) := by
  refine DE.op2 op_mod (int2_ok (c := fun _ j => 0 < j) (f := fun i j => i % j) fun x y t e => ?_) ha hb
  cases x with
  | int i =>
    cases y with
    | int j =>
      simp only [modT] at e
      split at e
      · rename_i c; simp only [Option.some.injEq] at e; exact ⟨i, j, rfl, rfl, c, e.symm⟩
      · cases e
    | _ => simp [modT] at e
  | _ => simp [modT] at e
theorem DE.pow (ha : DE X ec W a fa) (hb : DE X ec W b fb) : DE X ec W (.BinOp a .Pow b pos) (bin2 powT fa fb) := by
  refine DE.op2 op_pow (int2_ok (c := CPow) (f := fun i j => i ^ j.toNat) fun x y t e => ?_) ha hb
  cases x with
  | int i =>
    cases y with
    | int j =>
      simp only [powT] at e
      split at e
      · rename_i c; simp only [Option.some.injEq] at e
        have := small64_ok c.2.2
        exact ⟨i, j, rfl, rfl, ⟨c.1, c.2.1, by omega⟩, e.symm⟩
      · cases e
    | _ => simp [powT] at e
  | _ => simp [powT] at e
theorem DE.neg (ha : DE X ec W a fa) : DE X ec W (.UnaryOp .USub a pos) (un1 negT fa) := by
  refine ⟨pe_mono (pe_un un_neg ha.run) fun σ H Q h => one_op (r := rU fun i => .int (-i)) (fun H O C A x tx F Q t cz r e h => ?_) h⟩
  cases tx with
  | int i => obtain ⟨rfl, _⟩ := r; simp only [negT, Option.some.injEq] at e; subst e; exact ⟨i, rfl, h.int⟩
  | _ => simp [negT] at e
end

/-! ### displays -/
section
variable {X : Cx} {ec : Nat → Addr} {W : WX} {es : List Expr} {fs : EnvT → R (List T)} {pos : Pos}
theorem sz1000 {n : Nat} (h : n ≤ 1000) : n ≤ sizeLine := by rw [sizeLine_eq]; omega
def tupT (ts : List T) : Option T := if ts.length ≤ 1000 then some (.tup ts) else none
def lstT (ts : List T) : Option T := if ts.length ≤ 1000 then some (.lst .own ts) else none
theorem DE.tup {x1} (ha : DA X ec W es fs) : DE X ec W (.Tuple es x1 pos) (ap tupT fs) := by
  refine ⟨pe_mono (pe_tup ha.run) fun σ H Q h => list_op (r := fun xs H1 Q => xs.length ≤ sizeLine ∧ ∀ p, H1 p = none → Q (.ref p) (upd H1 p (.tup xs))) (fun H O C A vs ts F Q t cz r e h => ?_) h⟩
  simp only [tupT] at e
  split at e
  · rename_i c; simp only [Option.some.injEq] at e; subst e
    exact ⟨by rw [← r.length]; exact sz1000 c, h.tup cz r (List.Sublist.refl _)⟩
  · cases e
theorem DE.lst (ha : DA X ec W es fs) : DE X ec W (.List es pos) (ap lstT fs) := by
  refine ⟨pe_mono (pe_lst ha.run) fun σ H Q h => list_op (r := fun xs H1 Q => xs.length ≤ sizeLine ∧ ∀ p, H1 p = none → Q (.ref p) (upd H1 p (.lst xs))) (fun H O C A vs ts F Q t cz r e h => ?_) h⟩
  simp only [lstT] at e
  split at e
  · rename_i c; simp only [Option.some.injEq] at e; subst e
    exact ⟨by rw [← r.length]; exact sz1000 c, h.lst cz r (List.Sublist.refl _)⟩
  · cases e
end

/-! ### comparisons -/
mutual
def T.toD : T → PyData
  | .non => .none
  | .bl b => .bool b
  | .int i => .int i
  | .str x => .str x
  | .tup ts => .tuple (T.toDs ts)
  | .tupN ts => .tuple (T.toDs ts)
  | .lst _ ts => .list (T.toDs ts)
  | .dct _ _ => .dict []
def T.toDs : List T → List PyData
  | [] => []
  | t :: ts => T.toD t :: T.toDs ts
end
/-- data that may be compared at any depth -/
def dataOk (t : T) : Bool := SeqAt.shaped t.toD
mutual
theorem toD_dp {K : PySem.W.Frag} {H : Hp} {P : Al} : ∀ (t : T) (v : V) (F : List Addr), t.toD.canLay0 = true → Rep K H P t v F → Dp K H v t.toD
  | .non, v, F, _, ⟨e, _⟩ => by rw [e]; exact .non
  | .bl b, v, F, _, ⟨e, _⟩ => by rw [e]; exact .bl b
  | .int b, v, F, _, ⟨e, _⟩ => by rw [e]; exact .int b
  | .str b, v, F, _, ⟨e, _⟩ => by rw [e]; exact .str b
  | .tup ts, v, F, c, ⟨a, vs, e, l, r⟩ => by
    rw [e]
    exact .tup (SqT.of l) (toDs_dp ts vs F (by simpa [T.toD, PyData.canLay0] using c) r)
  | .tupN ts, v, F, c, ⟨a, vs, e, l, r⟩ => by
    rw [e]
    exact .tup l.sqt (toDs_dp ts vs F (by simpa [T.toD, PyData.canLay0] using c) r)
  | .lst g ts, v, F, c, ⟨a, vs, G, e, l, _, r⟩ => by
    rw [e]
    exact .lst l.sq (toDs_dp ts vs G (by simpa [T.toD, PyData.canLay0] using c) r)
  | .dct _ _, v, F, c, _ => by simp [T.toD, PyData.canLay0] at c
theorem toDs_dp {K : PySem.W.Frag} {H : Hp} {P : Al} : ∀ (ts : List T) (vs : List V) (F : List Addr), PyData.canLayAll0 (T.toDs ts) = true → Reps K H P ts vs F → DpAll K H vs (T.toDs ts)
  | [], _, _, _, ⟨e, _⟩ => by rw [e]; exact .nil
  | t :: ts, _, _, c, ⟨v, r, F1, F2, e, _, h1, h2⟩ => by
    rw [e]
    simp only [T.toDs, PyData.canLayAll0, Bool.and_eq_true] at c
    exact .cons (toD_dp t v F1 c.1 h1) (toDs_dp ts r F2 c.2 h2)
end
theorem dataOk_dp {K : PySem.W.Frag} {H : Hp} {P : Al} {t : T} {v : V} {F : List Addr} (c : dataOk t = true) (r : Rep K H P t v F) : Dp K H v t.toD := toD_dp t v F (SeqAt.canLay_of_shaped c) r
def eqT : T → T → Option Bool
  | .int i, .int j => some (decide (i = j))
  | .str x, .str y => some (decide (x = y))
  | .bl x, .bl y => some (decide (x = y))
  | x, y => if dataOk x = true ∧ dataOk y = true then some (PyData.eqv x.toD y.toD) else none
def eqO (x y : T) : Option T := (eqT x y).map .bl
def neO (x y : T) : Option T := (eqT x y).map fun b => .bl (!b)
section
variable {X : Cx} {ec : Nat → Addr} {W : WX} {a b c : Expr} {fa fb fd : FE} {pos : Pos}
theorem eqT_ok {K : PySem.W.Frag} {H : Hp} {P : Al} {x y : V} {tx ty : T} {Fx Fy : List Addr} {k : Bool} (rx : Rep K H P tx x Fx) (ry : Rep K H P ty y Fy) (e : eqT tx ty = some k) :
    (scal x y = true ∧ decide (x = y) = k) ∨ ∃ d e, Dp K H x d ∧ Dp K H y e ∧ SeqAt.shaped d = true ∧ SeqAt.shaped e = true ∧ PyData.eqv d e = k := by
  have gen : (if dataOk tx = true ∧ dataOk ty = true then some (PyData.eqv tx.toD ty.toD) else none) = some k → ∃ d e, Dp K H x d ∧ Dp K H y e ∧ SeqAt.shaped d = true ∧ SeqAt.shaped e = true ∧ PyData.eqv d e = k := fun h => by
    split at h
    · rename_i c; exact ⟨tx.toD, ty.toD, dataOk_dp c.1 rx, dataOk_dp c.2 ry, c.1, c.2, Option.some.inj h⟩
    · cases h
  cases tx with
  | int i =>
    cases ty with
    | int j =>
      obtain ⟨rfl, _⟩ := rx; obtain ⟨rfl, _⟩ := ry
      simp only [eqT, Option.some.injEq] at e
      exact .inl ⟨rfl, by rw [← e]; simp⟩
    | _ => exact .inr (gen e)
  | str i =>
    cases ty with
    | str j =>
      obtain ⟨rfl, _⟩ := rx; obtain ⟨rfl, _⟩ := ry
      simp only [eqT, Option.some.injEq] at e
      exact .inl ⟨rfl, by rw [← e]; simp⟩
    | _ => exact .inr (gen e)
  | bl i =>
    cases ty with
    | bl j =>
      obtain ⟨rfl, _⟩ := rx; obtain ⟨rfl, _⟩ := ry
      simp only [eqT, Option.some.injEq] at e
      exact .inl ⟨rfl, by rw [← e]; simp⟩
    | _ => exact .inr (gen e)
  | _ => exact .inr (gen e)
theorem eqO_ok {K : PySem.W.Frag} : Op2 K (fun x y H Q => rEq x y H Q ∨ rEqD K x y H Q) eqO := by
  intro H O C A x y tx ty Fx Fy Q t cz rx ry e h
  unfold eqO at e
  cases q : eqT tx ty with
  | none => rw [q] at e; cases e
  | some k =>
    rw [q] at e; simp only [Option.map_some, Option.some.injEq] at e; subst e
    rcases eqT_ok rx ry q with ⟨h1, h2⟩ | ⟨d, e, h1, h2, h3, h4, h5⟩
    · exact .inl ⟨h1, by rw [h2]; exact h.bl⟩
    · exact .inr ⟨d, e, h1, h2, h3, h4, by rw [h5]; exact h.bl⟩
theorem neO_ok {K : PySem.W.Frag} : Op2 K (fun x y H Q => rNe x y H Q ∨ rNeD K x y H Q) neO := by
  intro H O C A x y tx ty Fx Fy Q t cz rx ry e h
  unfold neO at e
  cases q : eqT tx ty with
  | none => rw [q] at e; cases e
  | some k =>
    rw [q] at e; simp only [Option.map_some, Option.some.injEq] at e; subst e
    rcases eqT_ok rx ry q with ⟨h1, h2⟩ | ⟨d, e, h1, h2, h3, h4, h5⟩
    · exact .inl ⟨h1, by rw [h2]; exact h.bl⟩
    · exact .inr ⟨d, e, h1, h2, h3, h4, by rw [h5]; exact h.bl⟩
theorem DE.eq (hu : X.A.units + 64 < cLine) (ha : DE X ec W a fa) (hb : DE X ec W b fb) : DE X ec W (.Compare a [.Eq] [b] pos) (bin2 eqO fa fb) := DE.cmp (OpR.or op_eq (op_eqD hu)) eqO_ok ha hb (nomark _)
theorem DE.ne (hu : X.A.units + 64 < cLine) (ha : DE X ec W a fa) (hb : DE X ec W b fb) : DE X ec W (.Compare a [.NotEq] [b] pos) (bin2 neO fa fb) := DE.cmp (OpR.or op_ne (op_neD hu)) neO_ok ha hb (nomark _)
theorem DT.eq (hu : X.A.units + 64 < cLine) (ha : DE X ec W a fa) (hb : DE X ec W b fb) : DT X ec W (.Compare a [.Eq] [b] pos) (asB (bin2 eqO fa fb)) := DT.cmp (OpR.or op_eq (op_eqD hu)) eqO_ok ha hb (nomark _)
theorem DT.ne (hu : X.A.units + 64 < cLine) (ha : DE X ec W a fa) (hb : DE X ec W b fb) : DT X ec W (.Compare a [.NotEq] [b] pos) (asB (bin2 neO fa fb)) := DT.cmp (OpR.or op_ne (op_neD hu)) neO_ok ha hb (nomark _)
/-- is None -/
def isN : T → T → Option T
  | .non, .non => some (.bl true)
  | _, .non => some (.bl false)
  | _, _ => none
def notN : T → T → Option T
  | .non, .non => some (.bl false)
  | _, .non => some (.bl true)
  | _, _ => none
theorem rep_non {K : PySem.W.Frag} {H : Hp} {P : Al} : ∀ {t : T} {v : V} {F : List Addr}, Rep K H P t v F → (v = .non ↔ t = .non)
  | .non, v, F, r => by obtain ⟨rfl, _⟩ := r; simp
  | .bl b, v, F, r => by obtain ⟨rfl, _⟩ := r; simp
  | .int b, v, F, r => by obtain ⟨rfl, _⟩ := r; simp
  | .str b, v, F, r => by obtain ⟨rfl, _⟩ := r; simp
  | .tup ts, v, F, r => by obtain ⟨a, vs, rfl, _⟩ := r; simp
  | .tupN ts, v, F, r => by obtain ⟨a, vs, rfl, _⟩ := r; simp
  | .lst g ts, v, F, r => by obtain ⟨a, vs, G, rfl, _⟩ := r; simp
  | .dct g ts, v, F, r => by obtain ⟨a, vs, G, rfl, _⟩ := r; simp
theorem isN_ok {K : PySem.W.Frag} : Op2 K (fun x y H Q => y = .non ∧ Q (.bl (decide (x = .non))) H) isN := by
  intro H O C A x y tx ty Fx Fy Q t cz rx ry e h
  have hy : ty = .non := by cases tx <;> cases ty <;> simp [isN] at e ⊢
  subst hy
  obtain ⟨rfl, _⟩ := ry
  have hx := rep_non rx
  by_cases c : tx = .non
  · subst c
    simp only [isN, Option.some.injEq] at e; subst e
    exact ⟨rfl, by rw [decide_eq_true (hx.mpr rfl)]; exact h.bl⟩
  · have e' : t = .bl false := by cases tx <;> simp [isN] at e c ⊢ <;> exact e.symm
    subst e'
    exact ⟨rfl, by rw [decide_eq_false (fun z => c (hx.mp z))]; exact h.bl⟩
theorem notN_ok {K : PySem.W.Frag} : Op2 K (fun x y H Q => y = .non ∧ Q (.bl (!decide (x = .non))) H) notN := by
  intro H O C A x y tx ty Fx Fy Q t cz rx ry e h
  have hy : ty = .non := by cases tx <;> cases ty <;> simp [notN] at e ⊢
  subst hy
  obtain ⟨rfl, _⟩ := ry
  have hx := rep_non rx
  by_cases c : tx = .non
  · subst c
    simp only [notN, Option.some.injEq] at e; subst e
    exact ⟨rfl, by rw [decide_eq_true (hx.mpr rfl)]; exact h.bl⟩
  · have e' : t = .bl true := by cases tx <;> simp [notN] at e c ⊢ <;> exact e.symm
    subst e'
    exact ⟨rfl, by rw [decide_eq_false (fun z => c (hx.mp z))]; exact h.bl⟩
theorem DE.isN (ha : DE X ec W a fa) (hb : DE X ec W b fb) : DE X ec W (.Compare a [.Is] [b] pos) (bin2 VS.isN fa fb) := DE.cmp op_isN isN_ok ha hb (nomark _)
theorem DE.notN (ha : DE X ec W a fa) (hb : DE X ec W b fb) : DE X ec W (.Compare a [.IsNot] [b] pos) (bin2 VS.notN fa fb) := DE.cmp op_notN notN_ok ha hb (nomark _)
theorem DT.isN (ha : DE X ec W a fa) (hb : DE X ec W b fb) : DT X ec W (.Compare a [.Is] [b] pos) (asB (bin2 VS.isN fa fb)) := DT.cmp op_isN isN_ok ha hb (nomark _)
theorem DT.notN (ha : DE X ec W a fa) (hb : DE X ec W b fb) : DT X ec W (.Compare a [.IsNot] [b] pos) (asB (bin2 VS.notN fa fb)) := DT.cmp op_notN notN_ok ha hb (nomark _)
end
end VS

namespace VS
open PySem PySem.Spec L2
open PyProof.Rows hiding St

/-! ### dicts: looking up -/
def keyK : T → Option Key
  | .int i => some (.inl i)
  | .str x => some (.inr x)
  | _ => none
def keyKs : List T → Option (List Key)
  | [] => some []
  | t :: ts => match keyK t, keyKs ts with
    | some k, some ks => some (k :: ks)
    | _, _ => none
abbrev KK := Sum Key (List Key)
def kOf : T → Option KK
  | .tup ts => (keyKs ts).map .inr
  | t => (keyK t).map .inl
def lookT (kvs : List (T × T)) (k : T) : Option T := (kvs.find? fun p => decide (kOf p.1 = kOf k)).map (·.2)
def isK (t : T) : Bool := match kOf t with | some (.inl _) => true | _ => false
def isKs (t : T) : Bool := match kOf t with | some (.inr _) => true | _ => false
def keyFit (kvs : List (T × T)) (k : T) : Bool := (isK k && kvs.all fun p => isK p.1) || (isKs k && kvs.all fun p => isKs p.1)
theorem kOf_kT (k : Key) : kOf (kT k) = some (.inl k) := by cases k <;> rfl
theorem keyK_kT (k : Key) : keyK (kT k) = some k := by cases k <;> rfl
theorem keyKs_kT : ∀ ks : List Key, keyKs (ks.map kT) = some ks
  | [] => rfl
  | k :: ks => by simp [keyKs, keyK_kT, keyKs_kT ks]
theorem kOf_tT (ks : List Key) : kOf (tT ks) = some (.inr ks) := by unfold tT kOf; simp [keyKs_kT]
theorem keyK_inv {t : T} {k : Key} (h : keyK t = some k) : t = kT k := by
  cases t <;> simp [keyK] at h <;> subst h <;> rfl
theorem keyKs_inv : ∀ {ts : List T} {ks : List Key}, keyKs ts = some ks → ts = ks.map kT
  | [], ks, h => by simp [keyKs] at h; subst h; rfl
  | t :: ts, ks, h => by
    unfold keyKs at h
    cases e1 : keyK t with
    | none => rw [e1] at h; cases h
    | some k =>
      cases e2 : keyKs ts with
      | none => rw [e1, e2] at h; cases h
      | some ks' =>
        rw [e1, e2] at h
        simp only [Option.some.injEq] at h; subst h
        rw [keyK_inv e1, keyKs_inv e2]; rfl
theorem isK_inv {t : T} (h : isK t = true) : ∃ k, t = kT k := by
  unfold isK at h
  cases t with
  | int i => exact ⟨.inl i, rfl⟩
  | str x => exact ⟨.inr x, rfl⟩
  | tup ts =>
    unfold kOf at h
    cases e : keyKs ts with
    | none => simp [e] at h
    | some ks => simp [e] at h
  | _ => simp [kOf, keyK] at h
theorem isKs_inv {t : T} (h : isKs t = true) : ∃ ks, t = tT ks := by
  unfold isKs at h
  cases t with
  | tup ts =>
    unfold kOf at h
    cases e : keyKs ts with
    | none => simp [e] at h
    | some ks => exact ⟨ks, by unfold tT; rw [← keyKs_inv e]⟩
  | _ => simp [kOf, keyK] at h
section
variable {K : PySem.W.Frag} {H : Hp} {P : Al}
theorem rep_kT : ∀ {k : Key} {v : V} {F : List Addr}, Rep K H P (kT k) v F → v = kV k
  | .inl i, v, F, h => h.1
  | .inr x, v, F, h => h.1
theorem reps_kT : ∀ {ks : List Key} {vs : List V} {F : List Addr}, Reps K H P (ks.map kT) vs F → vs = ks.map kV
  | [], vs, F, h => h.1
  | k :: ks, vs, F, ⟨v, r, F1, F2, e, _, c, d⟩ => by rw [e, rep_kT c, reps_kT d]; rfl
theorem rep_tT {ks : List Key} {v : V} {F : List Addr} (h : Rep K H P (tT ks) v F) : ∃ b, v = .ref b ∧ H b = some (.tup (ks.map kV)) := by
  obtain ⟨b, vs, rfl, e, r⟩ := h
  exact ⟨b, rfl, by rw [e, reps_kT r]⟩
theorem look_K : ∀ (ks : List (Key × V)) {kvs : List (T × T)} {G : List Addr}, RepD K H P kvs (ks.map fun p => (kT p.1, p.2)) G → ∀ k : Key, (∃ t v G', lookT kvs (kT k) = some t ∧ valV ks k = some v ∧ Rep K H P t v G' ∧ G'.Sublist G) ∨ (lookT kvs (kT k) = none ∧ valV ks k = none)
  | [], [], _, _, k => .inr ⟨rfl, rfl⟩
  | [], (kk, t) :: kvs, G, ⟨v, r, F1, F2, e, _⟩, k => by cases e
  | p :: ks, [], G, ⟨e, _⟩, k => by cases e
  | (k0, v0) :: ks, (kk, t) :: kvs, G, ⟨v, r, F1, F2, e, e', c, d⟩, k => by
    simp only [List.map_cons, List.cons.injEq, Prod.mk.injEq] at e
    obtain ⟨⟨rfl, rfl⟩, rfl⟩ := e
    subst e'
    by_cases q : k0 = k
    · subst q
      exact .inl ⟨t, v0, F1, by unfold lookT; rw [List.find?_cons_of_pos (by simp)]; rfl, valV_pos rfl, c, List.sublist_append_left _ _⟩
    · have e1 : lookT ((kT k0, t) :: kvs) (kT k) = lookT kvs (kT k) := by
        unfold lookT; rw [List.find?_cons_of_neg (by simp [kOf_kT, q])]
      have e2 : valV ((k0, v0) :: ks) k = valV ks k := valV_neg q
      rw [e1, e2]
      rcases look_K ks d k with ⟨t', v', G', h1, h2, h3, h4⟩ | h
      · exact .inl ⟨t', v', G', h1, h2, h3, h4.trans (List.sublist_append_right _ _)⟩
      · exact .inr h
theorem look_T : ∀ (ks : List (List Key × V)) {kvs : List (T × T)} {G : List Addr}, RepD K H P kvs (ks.map fun p => (tT p.1, p.2)) G → ∀ k : List Key, (∃ t v G', lookT kvs (tT k) = some t ∧ valV ks k = some v ∧ Rep K H P t v G' ∧ G'.Sublist G) ∨ (lookT kvs (tT k) = none ∧ valV ks k = none)
  | [], [], _, _, k => .inr ⟨rfl, rfl⟩
  | [], (kk, t) :: kvs, G, ⟨v, r, F1, F2, e, _⟩, k => by cases e
  | p :: ks, [], G, ⟨e, _⟩, k => by cases e
  | (k0, v0) :: ks, (kk, t) :: kvs, G, ⟨v, r, F1, F2, e, e', c, d⟩, k => by
    simp only [List.map_cons, List.cons.injEq, Prod.mk.injEq] at e
    obtain ⟨⟨rfl, rfl⟩, rfl⟩ := e
    subst e'
    by_cases q : k0 = k
    · subst q
      exact .inl ⟨t, v0, F1, by unfold lookT; rw [List.find?_cons_of_pos (by simp)]; rfl, valV_pos rfl, c, List.sublist_append_left _ _⟩
    · have e1 : lookT ((tT k0, t) :: kvs) (tT k) = lookT kvs (tT k) := by
        unfold lookT; rw [List.find?_cons_of_neg (by simp [kOf_tT, q])]
      have e2 : valV ((k0, v0) :: ks) k = valV ks k := valV_neg q
      rw [e1, e2]
      rcases look_T ks d k with ⟨t', v', G', h1, h2, h3, h4⟩ | h
      · exact .inl ⟨t', v', G', h1, h2, h3, h4.trans (List.sublist_append_right _ _)⟩
      · exact .inr h
theorem repD_keys : ∀ {kvs : List (T × T)} {es : List (T × V)} {G : List Addr}, RepD K H P kvs es G → kvs.map (·.1) = es.map (·.1)
  | [], _, _, ⟨e, _⟩ => by rw [e]; rfl
  | (k, t) :: kvs, _, _, ⟨v, r, F1, F2, e, _, _, d⟩ => by rw [e]; simp [repD_keys d]
end
/-- what a look-up asks: also of an empty dict, by a tuple -/
def DGetX (H : Hp) (a : Addr) (y : V) (r : Option V) : Prop :=
  DGet H a y r ∨ ∃ (b : Addr) (ks : List Key), Rd H a (.dK []) ∧ y = .ref b ∧ H b = some (.tup (ks.map kV)) ∧ r = none
theorem look_ok {K : PySem.W.Frag} {H : Hp} {P P' : Al} {a : Addr} {o : HO} {es : List (T × V)} {kvs : List (T × T)} {G Fk : List Addr} {k : T} {y : V} (rd : Rd H a o) (d : DIs o es) (r : RepD K H P kvs es G) (ry : Rep K H P' k y Fk) (f : keyFit kvs k = true) :
    (∃ t v G', lookT kvs k = some t ∧ DGet H a y (some v) ∧ Rep K H P t v G' ∧ G'.Sublist G) ∨ (lookT kvs k = none ∧ DGetX H a y none) := by
  have hk := repD_keys r
  simp only [keyFit, Bool.or_eq_true, Bool.and_eq_true, List.all_eq_true] at f
  rcases f with ⟨f1, f2⟩ | ⟨f1, f2⟩
  · obtain ⟨key, rfl⟩ := isK_inv f1
    have hy := rep_kT ry
    subst hy
    rcases d with ⟨ks, rfl, nk, rfl⟩ | ⟨ks, rfl, ne, nk, rfl⟩
    · rcases look_K ks r key with ⟨t, v, G', h1, h2, h3, h4⟩ | ⟨h1, h2⟩
      · exact .inl ⟨t, v, G', h1, .inl ⟨ks, key, rd, rfl, h2.symm⟩, h3, h4⟩
      · exact .inr ⟨h1, .inl (.inl ⟨ks, key, rd, rfl, h2.symm⟩)⟩
    · exfalso
      cases ks with
      | nil => exact ne rfl
      | cons p ks =>
        cases kvs with
        | nil => cases hk
        | cons q kvs =>
          simp only [List.map_cons, List.cons.injEq] at hk
          have := f2 q (by simp)
          rw [hk.1] at this
          simp [isK, kOf_tT] at this
  · obtain ⟨key, rfl⟩ := isKs_inv f1
    obtain ⟨b, rfl, hb⟩ := rep_tT ry
    rcases d with ⟨ks, rfl, nk, rfl⟩ | ⟨ks, rfl, ne, nk, rfl⟩
    · cases ks with
      | nil =>
        cases kvs with
        | nil => exact .inr ⟨rfl, .inr ⟨b, key, rd, rfl, hb, rfl⟩⟩
        | cons q kvs => cases hk
      | cons p ks =>
        cases kvs with
        | nil => cases hk
        | cons q kvs =>
          exfalso
          simp only [List.map_cons, List.cons.injEq] at hk
          have := f2 q (by simp)
          rw [hk.1] at this
          simp [isKs, kOf_kT] at this
    · rcases look_T ks r key with ⟨t, v, G', h1, h2, h3, h4⟩ | ⟨h1, h2⟩
      · exact .inl ⟨t, v, G', h1, .inr ⟨ks, key, b, rd, rfl, hb, h2.symm⟩, h3, h4⟩
      · exact .inr ⟨h1, .inl (.inr ⟨ks, key, b, rd, rfl, hb, h2.symm⟩)⟩
/-! the model's own look-ups, of an empty dict by a tuple too -/
section
variable {X : Cx} {pins : List (Addr × Obj)} {σ : L2.St} {H : Hp} {s : Shared} {a : Addr} {y d : V} {u r : Value} {o : Option V} {A : Around} {E : Value → Shared → Prop}
theorem empty_dt (I : Inv X pins σ H s) (e : Rd H a (.dK [])) : (a == sysModules) = false ∧ s.heap.DictOfH (tupleKind (mixKind X.prog X.w)) a [] := by
  obtain ⟨_, hd, vs, rel, o, es, ep, ho, hc, hda, _, hp, _⟩ := dk_rd I.hok e
  cases rel
  have : es.toList = [] := List.length_eq_zero_iff.mp (by rw [hp.length]; rfl)
  exact ⟨hd, o, es, ep, ho, hc, hda, by rw [this]; rfl, by simp, by simp⟩
theorem x_in {Q : Value → Shared → Prop} (hu : A.units + 1 < cLine) (I : Inv X pins σ H s) (g : DGetX H a y o) (ry : RelV y u) (h : ∀ s', Inv X pins σ H s' → Q (.bool o.isSome) s') : wpAny (model X.prog X.w) A (compareOp .In u (.ref a)) Q E s := by
  rcases g with g | ⟨b, ks, e, rfl, hb, rfl⟩
  · exact d_in hu I g ry h
  · cases (show u = Value.ref b from ry)
    obtain ⟨hd, dd⟩ := empty_dt I e
    exact wpAny_in_heap (tupleKind_room_in1 hu) (key_of I.hok hb) hd dd (h _ (I.tok _))
theorem x_notIn {Q : Value → Shared → Prop} (hu : A.units + 1 < cLine) (I : Inv X pins σ H s) (g : DGetX H a y o) (ry : RelV y u) (h : ∀ s', Inv X pins σ H s' → Q (.bool (!o.isSome)) s') : wpAny (model X.prog X.w) A (compareOp .NotIn u (.ref a)) Q E s := by
  rcases g with g | ⟨b, ks, e, rfl, hb, rfl⟩
  · exact d_notIn hu I g ry h
  · cases (show u = Value.ref b from ry)
    obtain ⟨hd, dd⟩ := empty_dt I e
    exact wpAny_notIn_heap (tupleKind_room_in1 hu) (key_of I.hok hb) hd dd (h _ (I.tok _))
theorem x_get2 {Q : Value → Shared → Prop} (hu : A.units + 1 < cLine) (I : Inv X pins σ H s) (g : DGetX H a y o) (ry : RelV y u) (rd : RelV d r) (h : ∀ w' s', Inv X pins σ H s' → RelV (o.getD d) w' → Q w' s') :
    wpAny (model X.prog X.w) A (PySem.call (.builtin "dict.get") [.ref a, u, r]) Q E s := by
  rcases g with g | ⟨b, ks, e, rfl, hb, rfl⟩
  · exact d_get2 hu I g ry rd h
  · cases (show u = Value.ref b from ry)
    obtain ⟨hd, dd⟩ := empty_dt I e
    exact call_meetsIn PySem.F.slot_dict_get dd.typeIs PySem.F.entry_dict_get (PySem.F.args_dict_get_3 _ _ _) (meetsH_dict_get_default (tupleKind (mixKind X.prog X.w)) a b hd r) ⟨tupleKind_room_in1 hu, ks, [], key_of I.hok hb, dd, h _ _ (I.tok _) rd⟩
end
def tXGet2 (td ty tx : TE) : TE := fun σ H Q => td σ H fun x H1 => ∃ a, x = .ref a ∧ IsD H1 a ∧ ty σ H1 fun y H2 => tx σ H2 fun z H3 => ∃ o, DGetX H3 a y o ∧ Q (o.getD z) H3
section
variable {X : Cx} {o e f : Expr} {apos cpos : Pos} {td ty tx : TE}
theorem pe_xget2 (hu : X.A.units + 1 < cLine) (ho : PE X o td) (he : PE X e ty) (hf : PE X f tx) (m : M2 X o "get" apos e f cpos) : PE X (.Call (.Attribute o "get" apos) [e, f] [] cpos) (tXGet2 td ty tx) := by
  refine ⟨fun pins s σ H Q I h => ?_⟩
  refine wpAny_Call_method m.base m.few m.line PySem.F.plainAttrs_dict PySem.F.slot_dict_get PySem.F.type_dict_get (thn (ho.run pins s σ H _ I h) fun u s1 ⟨x, H1, I1, rx, a, ex, d, q1⟩ => ?_)
  subst ex
  obtain rfl : u = Value.ref a := rx
  obtain ⟨t1, t2, _⟩ := isD_at I1 d
  refine ⟨t1, t2, ?_⟩
  rw [m.trees]
  refine Calls.callWith_builtin rfl (Calls.evalArgs_plain (Calls.spliced_cons (thn (he.run pins s1 σ H1 _ I1 q1) fun iv s2 ⟨y, H2, I2, ry, q2⟩ =>
    Calls.spliced_cons (thn (hf.run pins s2 σ H2 _ I2 q2) fun fv s3 ⟨z, H3, I3, rz, ov, g, q3⟩ => Calls.spliced_nil ?_))))
  exact x_get2 hu I3 g ry rz fun w' s4 I4 rw' => ⟨_, H3, I4, rw', q3⟩
end
theorem op_in_x {X : Cx} (hu : X.A.units + 1 < cLine) : OpR X (compareOp .In) (fun x y H Q => ∃ a o, y = .ref a ∧ DGetX H a x o ∧ Q (.bl o.isSome) H) := fun pins s σ H x y v u Q I rx ry h => by
  obtain ⟨a, o, rfl, g, q⟩ := h
  obtain rfl : u = Value.ref a := ry
  exact x_in hu I g rx fun s' I' => ⟨.bl _, H, I', rfl, q⟩
theorem op_notIn_x {X : Cx} (hu : X.A.units + 1 < cLine) : OpR X (compareOp .NotIn) (fun x y H Q => ∃ a o, y = .ref a ∧ DGetX H a x o ∧ Q (.bl (!o.isSome)) H) := fun pins s σ H x y v u Q I rx ry h => by
  obtain ⟨a, o, rfl, g, q⟩ := h
  obtain rfl : u = Value.ref a := ry
  exact x_notIn hu I g rx fun s' I' => ⟨.bl _, H, I', rfl, q⟩

/-! ### in -/
def flatT : T → Bool
  | .non | .bl _ | .int _ | .str _ => true
  | _ => false
def eqF : T → T → Bool
  | .non, .non => true
  | .bl a, .bl b => a == b
  | .bl a, .int b => (if a then 1 else 0) == b
  | .int a, .bl b => a == (if b then 1 else 0)
  | .int a, .int b => a == b
  | .str a, .str b => a == b
  | _, _ => false
def inT (x : T) : T → Option Bool
  | .lst g ys => if flatT x && ys.all flatT then some (ys.any fun y => eqF y x) else if dataOk x && dataOk (.lst g ys) then some ((T.toDs ys).any fun z => PyData.eqv z x.toD) else none
  | .tup ys => if flatT x && ys.all flatT then some (ys.any fun y => eqF y x) else none
  | .tupN ys => if flatT x && ys.all flatT then some (ys.any fun y => eqF y x) else none
  | .str z => match x with
    | .str s => match s.cps.toList with
      | [c] => some (decide (c ∈ z.cps.toList))
      | _ => none
    | _ => none
  | .dct _ kvs => if keyFit kvs x = true then some (lookT kvs x).isSome else none
  | _ => none
def inO (x y : T) : Option T := (inT x y).map .bl
def ninO (x y : T) : Option T := (inT x y).map fun b => .bl (!b)
section
variable {K : PySem.W.Frag} {H : Hp} {P : Al}
def fV : T → V
  | .bl b => .bl b
  | .int i => .int i
  | .str x => .str x
  | _ => .non
theorem rep_flat : ∀ {t : T} {v : V} {F : List Addr}, flatT t = true → Rep K H P t v F → v = fV t
  | .non, _, _, _, r => r.1
  | .bl _, _, _, _, r => r.1
  | .int _, _, _, _, r => r.1
  | .str _, _, _, _, r => r.1
  | .tup _, _, _, h, _ => by cases h
  | .tupN _, _, _, h, _ => by cases h
  | .lst _ _, _, _, h, _ => by cases h
  | .dct _ _, _, _, h, _ => by cases h
theorem fV_flat (t : T) : flatV (fV t) = true := by cases t <;> rfl
theorem fV_eq {t u : T} (h1 : flatT t = true) (h2 : flatT u = true) : eqV (fV t) (fV u) = eqF t u := by
  cases t <;> first | (cases h1; done) | (cases u <;> first | (cases h2; done) | rfl)
theorem reps_flat : ∀ {ts : List T} {vs : List V} {F : List Addr}, ts.all flatT = true → Reps K H P ts vs F → vs = ts.map fV
  | [], _, _, _, r => r.1
  | t :: ts, _, _, h, ⟨v, r, F1, F2, e, _, c, d⟩ => by
    simp only [List.all_cons, Bool.and_eq_true] at h
    rw [e, rep_flat h.1 c, reps_flat h.2 d]; rfl
theorem flat_any {u : T} (hu : flatT u = true) : ∀ {ts : List T}, ts.all flatT = true → ((ts.map fV).any fun y => eqV y (fV u)) = ts.any fun y => eqF y u
  | [], _ => rfl
  | t :: ts, h => by
    simp only [List.all_cons, Bool.and_eq_true] at h
    simp only [List.map_cons, List.any_cons, fV_eq h.1 hu, flat_any hu h.2]
theorem all_fV (ts : List T) : (ts.map fV).all flatV = true := by
  rw [List.all_map]; exact List.all_eq_true.mpr fun t _ => fV_flat t
end
section
variable {X : Cx} {ec : Nat → Addr} {W : WX} {a b c : Expr} {fa fb fd : FE} {pos : Pos}
def rInA (K : PySem.W.Frag) (neg : Bool) : R2 := fun x y H Q => rIn K neg x y H Q ∨ (∃ d ds, Dp K H x d ∧ Dp K H y (.list ds) ∧ SeqAt.shaped d = true ∧ SeqAt.shaped (.list ds) = true ∧ Q (.bl (if neg then !(ds.any fun z => PyData.eqv z d) else ds.any fun z => PyData.eqv z d)) H) ∨
  (∃ (c : Nat) (z : Str), x = .str ⟨#[c]⟩ ∧ y = .str z ∧ Q (.bl (if neg then !decide (c ∈ z.cps.toList) else decide (c ∈ z.cps.toList))) H) ∨ ∃ a o, y = .ref a ∧ DGetX H a x o ∧ Q (.bl (if neg then !o.isSome else o.isSome)) H
theorem op_inA (hu : X.A.units + 65 < cLine) : OpR X (compareOp .In) (rInA X.K false) := OpR.or op_in_seq (OpR.or (op_inD hu) (OpR.or op_in_sign (op_in_x (by omega))))
theorem op_ninA (hu : X.A.units + 65 < cLine) : OpR X (compareOp .NotIn) (rInA X.K true) := OpR.or op_notIn_seq (OpR.or (op_notInD hu) (OpR.or op_notIn_sign (op_notIn_x (by omega))))
theorem inT_ok {K : PySem.W.Frag} {neg : Bool} {H : Hp} {O C A : Addr → Prop} {x y : V} {tx ty : T} {Fx Fy F0 : List Addr} {Q : VK} {k : Bool} (rx : Rep K H (Pm O C (AF A F0) A) tx x Fx) (ry : Rep K H (Pm O C (AF A F0) A) ty y Fy) (e : inT tx ty = some k)
    (h : Q (.bl (if neg then !k else k)) H) : rInA K neg x y H Q := by
  cases ty with
  | lst g ys =>
    have ry0 := ry
    obtain ⟨a, vs, G, rfl, l, p, r⟩ := ry
    simp only [inT] at e
    split at e
    · rename_i c
      simp only [Bool.and_eq_true] at c
      simp only [Option.some.injEq] at e; subst e
      have h3 := reps_flat c.2 r
      have h1 := rep_flat c.1 rx
      subst h3; subst h1
      refine .inl ⟨a, _, rfl, .inl l.sq, fV_flat _, all_fV _, ?_⟩
      unfold inV; rw [flat_any c.1 c.2]; exact h
    · split at e
      · rename_i c
        simp only [Bool.and_eq_true] at c
        simp only [Option.some.injEq] at e; subst e
        exact .inr (.inl ⟨tx.toD, T.toDs ys, dataOk_dp c.1 rx, dataOk_dp (t := .lst g ys) c.2 ry0, c.1, c.2, h⟩)
      · cases e
  | tup ys =>
    obtain ⟨a, vs, rfl, l, r⟩ := ry
    simp only [inT] at e
    split at e
    · rename_i c
      simp only [Bool.and_eq_true] at c
      simp only [Option.some.injEq] at e; subst e
      have h3 := reps_flat c.2 r
      have h1 := rep_flat c.1 rx
      subst h3; subst h1
      refine .inl ⟨a, _, rfl, .inr (SqT.of l), fV_flat _, all_fV _, ?_⟩
      unfold inV; rw [flat_any c.1 c.2]; exact h
    · cases e
  | tupN ys =>
    obtain ⟨a, vs, rfl, l, r⟩ := ry
    simp only [inT] at e
    split at e
    · rename_i c
      simp only [Bool.and_eq_true] at c
      simp only [Option.some.injEq] at e; subst e
      have h3 := reps_flat c.2 r
      have h1 := rep_flat c.1 rx
      subst h3; subst h1
      refine .inl ⟨a, _, rfl, .inr l.sqt, fV_flat _, all_fV _, ?_⟩
      unfold inV; rw [flat_any c.1 c.2]; exact h
    · cases e
  | str z =>
    obtain ⟨rfl, _⟩ := ry
    cases tx with
    | str s =>
      obtain ⟨rfl, _⟩ := rx
      simp only [inT] at e
      split at e
      · rename_i ch hc
        simp only [Option.some.injEq] at e; subst e
        refine .inr (.inr (.inl ⟨ch, z, ?_, rfl, h⟩))
        have : s.cps = #[ch] := by
          rw [← Array.toArray_toList (xs := s.cps), hc]
        cases s with
        | mk cps => simp only at this; subst this; rfl
      · cases e
    | _ => simp [inT] at e
  | dct g kvs =>
    obtain ⟨a, es, G, rfl, l, p, r⟩ := ry
    simp only [inT] at e
    split at e
    · rename_i c
      simp only [Option.some.injEq] at e; subst e
      obtain ⟨o, rd, d⟩ := l.rd
      rcases look_ok rd d r rx c with ⟨t, v, G', h1, h2, _⟩ | ⟨h1, h2⟩
      · rw [h1] at h; exact .inr (.inr (.inr ⟨a, _, rfl, .inl h2, h⟩))
      · rw [h1] at h; exact .inr (.inr (.inr ⟨a, _, rfl, h2, h⟩))
    · cases e
  | _ => simp [inT] at e
theorem inO_ok {K : PySem.W.Frag} : Op2 K (rInA K false) inO := by
  intro H O C A x y tx ty Fx Fy Q t cz rx ry e h
  unfold inO at e
  cases q : inT tx ty with
  | none => rw [q] at e; cases e
  | some k => rw [q] at e; simp only [Option.map_some, Option.some.injEq] at e; subst e; exact inT_ok rx ry q h.bl
theorem ninO_ok {K : PySem.W.Frag} : Op2 K (rInA K true) ninO := by
  intro H O C A x y tx ty Fx Fy Q t cz rx ry e h
  unfold ninO at e
  cases q : inT tx ty with
  | none => rw [q] at e; cases e
  | some k => rw [q] at e; simp only [Option.map_some, Option.some.injEq] at e; subst e; exact inT_ok rx ry q h.bl
theorem DE.in_ (hu : X.A.units + 65 < cLine) (ha : DE X ec W a fa) (hb : DE X ec W b fb) (hm : behindInMarks .In b = false := by rfl) : DE X ec W (.Compare a [.In] [b] pos) (bin2 inO fa fb) := DE.cmp (op_inA hu) inO_ok ha hb hm
theorem DE.nin (hu : X.A.units + 65 < cLine) (ha : DE X ec W a fa) (hb : DE X ec W b fb) (hm : behindInMarks .NotIn b = false := by rfl) : DE X ec W (.Compare a [.NotIn] [b] pos) (bin2 ninO fa fb) := DE.cmp (op_ninA hu) ninO_ok ha hb hm
theorem DT.in_ (hu : X.A.units + 65 < cLine) (ha : DE X ec W a fa) (hb : DE X ec W b fb) (hm : behindInMarks .In b = false := by rfl) : DT X ec W (.Compare a [.In] [b] pos) (asB (bin2 inO fa fb)) := DT.cmp (op_inA hu) inO_ok ha hb hm
theorem DT.nin (hu : X.A.units + 65 < cLine) (ha : DE X ec W a fa) (hb : DE X ec W b fb) (hm : behindInMarks .NotIn b = false := by rfl) : DT X ec W (.Compare a [.NotIn] [b] pos) (asB (bin2 ninO fa fb)) := DT.cmp (op_ninA hu) ninO_ok ha hb hm

/-! ### subscripts -/
def ixT : T → T → Option T
  | .lst _ xs, .int i => atI xs i
  | .tup xs, .int i => atI xs i
  | .tupN xs, .int i => atI xs i
  | .str z, .int i => if z.length ≤ sizeLine then (atI z.cps.toList i).map fun c => .str ⟨#[c]⟩ else none
  | .dct _ kvs, k => if keyFit kvs k = true then lookT kvs k else none
  | _, _ => none
theorem reps_at {K : PySem.W.Frag} {H : Hp} {P : Al} : ∀ {ts : List T} {vs : List V} {F : List Addr} {j : Nat} {t : T}, Reps K H P ts vs F → ts[j]? = some t → ∃ v G, vs[j]? = some v ∧ Rep K H P t v G ∧ G.Sublist F
  | [], _, _, j, t, _, h => by simp at h
  | u :: ts, _, _, j, t, ⟨v, r, F1, F2, e, e', c, d⟩, h => by
    subst e; subst e'
    cases j with
    | zero => simp at h; subst h; exact ⟨v, F1, rfl, c, List.sublist_append_left _ _⟩
    | succ j =>
      obtain ⟨v', G, h1, h2, h3⟩ := reps_at (j := j) d (by simpa using h)
      exact ⟨v', G, by simpa using h1, h2, h3.trans (List.sublist_append_right _ _)⟩
theorem atI_reps {K : PySem.W.Frag} {H : Hp} {P : Al} {ts : List T} {vs : List V} {F : List Addr} {i : Int} {t : T} (r : Reps K H P ts vs F) (h : atI ts i = some t) : ∃ v G, atI vs i = some v ∧ Rep K H P t v G ∧ G.Sublist F := by
  unfold atI at h ⊢
  rw [r.length] at h
  cases e : ixN vs.length i with
  | none => rw [e] at h; cases h
  | some j => rw [e] at h; exact reps_at r h
theorem pe_or {e : Expr} {t1 t2 : TE} (h1 : PE X e t1) (h2 : PE X e t2) : PE X e (fun σ H Q => t1 σ H Q ∨ t2 σ H Q) := ⟨fun pins s σ H Q I q => q.elim (h1.run pins s σ H Q I) (h2.run pins s σ H Q I)⟩
def isD : T → Bool
  | .dct _ _ => true
  | _ => false
def ixS (x y : T) : Option T := if isD x = true then none else ixT x y
def ixD (x y : T) : Option T := if isD x = true then ixT x y else none
theorem ixS_ok {K : PySem.W.Frag} : Op2 K (rIx K) ixS := by
  intro H O C A x y tx ty Fx Fy Q t cz rx ry e h
  cases tx with
  | lst g xs =>
    cases ty with
    | int i =>
      obtain ⟨a, vs, G, rfl, l, p, r⟩ := rx; obtain ⟨rfl, rfl⟩ := ry
      have e' : atI xs i = some t := e
      obtain ⟨v, G', h1, h2, h3⟩ := atI_reps r e'
      exact .inl ⟨a, vs, i, v, rfl, rfl, l.sq, h1, h.same cz h2 ((h3.trans p.sublist).trans (List.sublist_append_left _ _))⟩
    | _ => simp [ixS, isD, ixT] at e
  | tup xs =>
    cases ty with
    | int i =>
      obtain ⟨a, vs, rfl, l, r⟩ := rx; obtain ⟨rfl, rfl⟩ := ry
      have e' : atI xs i = some t := e
      obtain ⟨v, G', h1, h2, h3⟩ := atI_reps r e'
      exact .inr (.inl ⟨a, vs, i, v, rfl, rfl, SqT.of l, h1, h.same cz h2 (h3.trans (List.sublist_append_left _ _))⟩)
    | _ => simp [ixS, isD, ixT] at e
  | tupN xs =>
    cases ty with
    | int i =>
      obtain ⟨a, vs, rfl, l, r⟩ := rx; obtain ⟨rfl, rfl⟩ := ry
      have e' : atI xs i = some t := e
      obtain ⟨v, G', h1, h2, h3⟩ := atI_reps r e'
      exact .inr (.inl ⟨a, vs, i, v, rfl, rfl, l.sqt, h1, h.same cz h2 (h3.trans (List.sublist_append_left _ _))⟩)
    | _ => simp [ixS, isD, ixT] at e
  | str z =>
    cases ty with
    | int i =>
      obtain ⟨rfl, _⟩ := rx; obtain ⟨rfl, _⟩ := ry
      have e' : (if z.length ≤ sizeLine then (atI z.cps.toList i).map (fun c => T.str ⟨#[c]⟩) else none) = some t := e
      split at e'
      · rename_i c
        cases q : atI z.cps.toList i with
        | none => rw [q] at e'; cases e'
        | some ch =>
          rw [q] at e'; simp only [Option.map_some, Option.some.injEq] at e'; subst e'
          exact .inr (.inr ⟨z, i, ch, rfl, rfl, c, q, h.str⟩)
      · cases e'
    | _ => simp [ixS, isD, ixT] at e
  | _ => simp [ixS, isD, ixT] at e
theorem ixD_ok {K : PySem.W.Frag} : Op2 K (fun x y H Q => ∃ a v, x = .ref a ∧ DGet H a y (some v) ∧ Q v H) ixD := by
  intro H O C A x y tx ty Fx Fy Q t cz rx ry e h
  cases tx with
  | dct g kvs =>
    obtain ⟨a, es, G, rfl, l, p, r⟩ := rx
    simp only [ixD, isD, ixT, if_true] at e
    split at e
    · rename_i c
      obtain ⟨o, rd, d⟩ := l.rd
      rcases look_ok rd d r ry c with ⟨t', v, G', h1, h2, h3, h4⟩ | ⟨h1, h2⟩
      · rw [h1] at e; cases e
        exact ⟨a, v, rfl, h2, h.same cz h3 ((h4.trans p.sublist).trans (List.sublist_append_left _ _))⟩
      · rw [h1] at e; cases e
    · cases e
  | _ => simp [ixD, isD] at e
theorem DE.ix (hu : X.A.units + 1 < cLine) (ha : DE X ec W a fa) (hb : DE X ec W b fb) (hs : PlainIx b := by exact fun _ _ => rfl) : DE X ec W (.Subscript a b pos) (bin2 ixT fa fb) := by
  refine ⟨pe_mono (pe_or (pe_ix (pos := pos) ix_seq ha.run hb.run hs) (pe_dget (pos := pos) hu ha.run hb.run hs)) fun σ H Q h => ?_⟩
  obtain ⟨B, env, fp, s, h⟩ := h
  have cong : ∀ g : T → T → Option T, (∀ x, fa env = .ok x → ∀ y, g x y = ixT x y) → Post X.K H B (Aw fp) (wx W ec σ) Q (bin2 g fa fb env) := fun g hg => by
    unfold bin2 at h ⊢
    cases q : fa env with
    | ok x =>
      rw [q] at h
      simp only [R.ok_bind] at h ⊢
      have : (fun y => R.ofO (g x y)) = fun y => R.ofO (ixT x y) := funext fun y => by rw [hg x q y]
      rw [this]; exact h
    | exc c => rw [q] at h; exact h
    | bad => rw [q] at h; exact h
  by_cases c : ∃ x, fa env = .ok x ∧ isD x = true
  · obtain ⟨x, q, d⟩ := c
    refine .inr (two_op ixD_ok (ec := ec) (W := W) ⟨B, env, fp, s, cong ixD fun x' q' y => ?_⟩)
    rw [q] at q'; cases q'; unfold ixD; rw [if_pos d]
  · refine .inl (two_op ixS_ok (ec := ec) (W := W) ⟨B, env, fp, s, cong ixS fun x' q' y => ?_⟩)
    unfold ixS; rw [if_neg fun d => c ⟨x', q', d⟩]
end
end VS

namespace VS
open PySem PySem.Spec L2
open PyProof.Rows hiding St

/-! ### order -/
def intsOf : List T → Option (List Int)
  | [] => some []
  | .int i :: r => (intsOf r).map (i :: ·)
  | _ => none
theorem reps_ints {K : PySem.W.Frag} {H : Hp} {P : Al} : ∀ {ts : List T} {ns : List Int} {vs : List V} {F : List Addr}, intsOf ts = some ns → Reps K H P ts vs F → vs = ns.map V.int
  | [], ns, _, _, h, r => by simp [intsOf] at h; subst h; exact r.1
  | .int i :: ts, ns, _, _, h, ⟨v, r, F1, F2, e, _, c, d⟩ => by
    unfold intsOf at h
    cases q : intsOf ts with
    | none => rw [q] at h; cases h
    | some ms =>
      rw [q] at h; simp only [Option.map_some, Option.some.injEq] at h; subst h
      rw [e, c.1, reps_ints q d]; rfl
  | .non :: _, _, _, _, h, _ => by simp [intsOf] at h
  | .bl _ :: _, _, _, _, h, _ => by simp [intsOf] at h
  | .str _ :: _, _, _, _, h, _ => by simp [intsOf] at h
  | .tup _ :: _, _, _, _, h, _ => by simp [intsOf] at h
  | .lst _ _ :: _, _, _, _, h, _ => by simp [intsOf] at h
  | .dct _ _ :: _, _, _, _, h, _ => by simp [intsOf] at h
theorem intsOf_map (ns : List Int) : intsOf (ns.map T.int) = some ns := by
  induction ns with
  | nil => rfl
  | cons n ns ih => simp [intsOf, ih]
def ltT : T → T → Option T
  | .int i, .int j => some (.bl (decide (i < j)))
  | .str x, .str y => some (.bl (decide (x.cps.toList < y.cps.toList)))
  | .tup xs, .tup ys => match intsOf xs, intsOf ys with
    | some ns, some ms => some (.bl (HT.lexLt ns ms))
    | _, _ => none
  | _, _ => none
def leT : T → T → Option T
  | .int i, .int j => some (.bl (decide (i ≤ j)))
  | .str x, .str y => some (.bl (!decide (y.cps.toList < x.cps.toList)))
  | _, _ => none
def gtT : T → T → Option T
  | .int i, .int j => some (.bl (decide (j < i)))
  | _, _ => none
def geT : T → T → Option T
  | .int i, .int j => some (.bl (decide (j ≤ i)))
  | _, _ => none
section
variable {X : Cx} {ec : Nat → Addr} {W : WX} {a b c : Expr} {fa fb fd : FE} {pos : Pos}
def rLt (K : PySem.W.Frag) : R2 := fun x y H Q => rI0 (fun i j => .bl (decide (i < j))) x y H Q ∨ (∃ i j, x = .str i ∧ y = .str j ∧ Q (.bl (decide (i.cps.toList < j.cps.toList))) H) ∨ rLtT K x y H Q
def rLe : R2 := fun x y H Q => rI0 (fun i j => .bl (decide (i ≤ j))) x y H Q ∨ ∃ i j, x = .str i ∧ y = .str j ∧ Q (.bl (!decide (j.cps.toList < i.cps.toList))) H
theorem op_ltA (hu : X.A.units + 1 < cLine) : OpR X (compareOp .Lt) (rLt X.K) := OpR.or op_lt (OpR.or op_lt_str (op_ltT (by omega)))
theorem op_leA : OpR X (compareOp .LtE) rLe := OpR.or op_le op_le_str
theorem ltT_ok {K : PySem.W.Frag} : Op2 K (rLt K) ltT := by
  intro H O C A x y tx ty Fx Fy Q t cz rx ry e h
  cases tx with
  | int i =>
    cases ty with
    | int j => obtain ⟨rfl, _⟩ := rx; obtain ⟨rfl, _⟩ := ry; simp only [ltT, Option.some.injEq] at e; subst e; exact .inl ⟨i, j, rfl, rfl, h.bl⟩
    | _ => simp [ltT] at e
  | str i =>
    cases ty with
    | str j => obtain ⟨rfl, _⟩ := rx; obtain ⟨rfl, _⟩ := ry; simp only [ltT, Option.some.injEq] at e; subst e; exact .inr (.inl ⟨i, j, rfl, rfl, h.bl⟩)
    | _ => simp [ltT] at e
  | tup xs =>
    cases ty with
    | tup ys =>
      obtain ⟨a, vs, rfl, l, r⟩ := rx; obtain ⟨b, ws, rfl, l', r'⟩ := ry
      simp only [ltT] at e
      cases q1 : intsOf xs with
      | none => rw [q1] at e; cases e
      | some ns =>
        cases q2 : intsOf ys with
        | none => rw [q1, q2] at e; cases e
        | some ms =>
          rw [q1, q2] at e; simp only [Option.some.injEq] at e; subst e
          have e1 := reps_ints q1 r
          have e2 := reps_ints q2 r'
          subst e1; subst e2
          exact .inr (.inr ⟨a, b, ns, ms, rfl, rfl, SqT.of l, SqT.of l', h.bl⟩)
    | _ => simp [ltT] at e
  | _ => simp [ltT] at e
theorem leT_ok {K : PySem.W.Frag} : Op2 K rLe leT := by
  intro H O C A x y tx ty Fx Fy Q t cz rx ry e h
  cases tx with
  | int i =>
    cases ty with
    | int j => obtain ⟨rfl, _⟩ := rx; obtain ⟨rfl, _⟩ := ry; simp only [leT, Option.some.injEq] at e; subst e; exact .inl ⟨i, j, rfl, rfl, h.bl⟩
    | _ => simp [leT] at e
  | str i =>
    cases ty with
    | str j => obtain ⟨rfl, _⟩ := rx; obtain ⟨rfl, _⟩ := ry; simp only [leT, Option.some.injEq] at e; subst e; exact .inr ⟨i, j, rfl, rfl, h.bl⟩
    | _ => simp [leT] at e
  | _ => simp [leT] at e
theorem intB_ok {K : PySem.W.Frag} {f : Int → Int → Bool} {g : T → T → Option T} (hg : ∀ x y t, g x y = some t → ∃ i j, x = .int i ∧ y = .int j ∧ t = .bl (f i j)) : Op2 K (rI0 fun i j => .bl (f i j)) g := by
  intro H O C A x y tx ty Fx Fy Q t cz rx ry e h
  obtain ⟨i, j, rfl, rfl, rfl⟩ := hg _ _ _ e
  obtain ⟨rfl, _⟩ := rx; obtain ⟨rfl, _⟩ := ry
  exact ⟨i, j, rfl, rfl, h.bl⟩
theorem gtT_ok {K : PySem.W.Frag} : Op2 K (rI0 fun i j => .bl (decide (j < i))) gtT := intB_ok fun x y t e => by
  cases x <;> cases y <;> simp [gtT] at e ⊢; exact e.symm
theorem geT_ok {K : PySem.W.Frag} : Op2 K (rI0 fun i j => .bl (decide (j ≤ i))) geT := intB_ok fun x y t e => by
  cases x <;> cases y <;> simp [geT] at e ⊢; exact e.symm
theorem DE.lt (hu : X.A.units + 1 < cLine) (ha : DE X ec W a fa) (hb : DE X ec W b fb) : DE X ec W (.Compare a [.Lt] [b] pos) (bin2 ltT fa fb) := DE.cmp (op_ltA hu) ltT_ok ha hb (nomark _)
theorem DT.lt (hu : X.A.units + 1 < cLine) (ha : DE X ec W a fa) (hb : DE X ec W b fb) : DT X ec W (.Compare a [.Lt] [b] pos) (asB (bin2 ltT fa fb)) := DT.cmp (op_ltA hu) ltT_ok ha hb (nomark _)
theorem DE.le (ha : DE X ec W a fa) (hb : DE X ec W b fb) : DE X ec W (.Compare a [.LtE] [b] pos) (bin2 leT fa fb) := DE.cmp op_leA leT_ok ha hb (nomark _)
theorem DT.le (ha : DE X ec W a fa) (hb : DE X ec W b fb) : DT X ec W (.Compare a [.LtE] [b] pos) (asB (bin2 leT fa fb)) := DT.cmp op_leA leT_ok ha hb (nomark _)
theorem DE.gt (ha : DE X ec W a fa) (hb : DE X ec W b fb) : DE X ec W (.Compare a [.Gt] [b] pos) (bin2 gtT fa fb) := DE.cmp op_gt gtT_ok ha hb (nomark _)
theorem DT.gt (ha : DE X ec W a fa) (hb : DE X ec W b fb) : DT X ec W (.Compare a [.Gt] [b] pos) (asB (bin2 gtT fa fb)) := DT.cmp op_gt gtT_ok ha hb (nomark _)
theorem DE.ge (ha : DE X ec W a fa) (hb : DE X ec W b fb) : DE X ec W (.Compare a [.GtE] [b] pos) (bin2 geT fa fb) := DE.cmp op_ge geT_ok ha hb (nomark _)
theorem DT.ge (ha : DE X ec W a fa) (hb : DE X ec W b fb) : DT X ec W (.Compare a [.GtE] [b] pos) (asB (bin2 geT fa fb)) := DT.cmp op_ge geT_ok ha hb (nomark _)
/-- a op b op' c, b no object -/
def chainF (g g' : T → T → Option T) (fa fb fd : FE) : FE := fun env => do
  let x ← fa env
  let y ← fb env
  match g x y with
    | some (.bl true) => if flatT y = true then do let z ← fd env; R.ofO (g' y z) else .bad
    | some (.bl false) => .ok (.bl false)
    | _ => .bad
theorem rep_of_flat {K : PySem.W.Frag} {H : Hp} {P : Al} : ∀ {t : T}, flatT t = true → Rep K H P t (fV t) []
  | .non, _ => ⟨rfl, rfl⟩
  | .bl _, _ => ⟨rfl, rfl⟩
  | .int _, _ => ⟨rfl, rfl⟩
  | .str _, _ => ⟨rfl, rfl⟩
  | .tup _, h => by cases h
  | .lst _ _, h => by cases h
  | .dct _ _, h => by cases h
theorem chain_post {K : PySem.W.Frag} {r r' : R2} {g g' : T → T → Option T} (hg : Op2 K r g) (hg' : Op2 K r' g') {σ : L2.St} {H : Hp} {Q : VK} (h : tD K ec W (chainF g g' fa fb fd) σ H Q) : tChain r r' (tD K ec W fa) (tD K ec W fb) (tD K ec W fd) σ H Q := by
  refine tD.two (k := fun env x y => match g x y with
    | some (.bl true) => if flatT y = true then do let z ← fd env; R.ofO (g' y z) else .bad
    | some (.bl false) => .ok (.bl false)
    | _ => .bad) (ec := ec) (W := W) (Q := Q) h fun B env fp x y tx ty Fx Fy H2 s e rx ry n f p => ?_
  cases eg : g tx ty with
  | none => rw [eg] at p; exact p.elim
  | some t =>
    rw [eg] at p
    cases t with
    | bl k =>
      refine hg H2 B.O B.C (Aw fp) x y tx ty Fx Fy _ (.bl k) (s.cz e n f) rx ry eg fun v H3 F e3 rv _ _ => ?_
      obtain ⟨rfl, _⟩ := rv
      refine ⟨k, rfl, ?_⟩
      cases k with
      | false => exact iteF (p _ H3 [] (e.trans e3) ⟨rfl, rfl⟩ List.nodup_nil (by simp))
      | true =>
        refine iteT ?_
        dsimp only at p
        split at p
        · rename_i fl
          have hy := rep_flat fl ry
          subst hy
          refine tD.one (k := fun z => R.ofO (g' ty z)) (Q := Q) (s.grow (e.trans e3)) (p.ext (e.trans e3)) fun w' tz Fz H4 e4 rz nz fz _ p' => ?_
          cases eg' : g' ty tz with
          | none => simp only [eg', R.ofO] at p'; exact p'.elim
          | some u =>
            simp only [eg', R.ofO] at p'
            exact hg' H4 B.O B.C (Aw fp) (fV ty) w' ty tz [] Fz Q u ((s.grow (e.trans e3)).cz e4 nz fz) (rep_of_flat fl) rz eg' (p'.fin e4 fz)
        · exact p.elim
    | _ => exact p.elim
theorem DE.chain {op op' : CmpOp} {r r' : R2} {g g' : T → T → Option T} (ho : OpR X (compareOp op) r) (ho' : OpR X (compareOp op') r') (hg : Op2 X.K r g) (hg' : Op2 X.K r' g') (ha : DE X ec W a fa) (hb : DE X ec W b fb) (hd : DE X ec W c fd)
    (hm : lastMarks [op, op'] [b, c] = false := by with_unfolding_all rfl) : DE X ec W (.Compare a [op, op'] [b, c] pos) (chainF g g' fa fb fd) :=
  ⟨pe_mono (pe_chain ho ho' ha.run hb.run hd.run hm) fun _ _ _ h => chain_post hg hg' h⟩
theorem DT.chain {op op' : CmpOp} {r r' : R2} {g g' : T → T → Option T} (ho : OpR X (compareOp op) r) (ho' : OpR X (compareOp op') r') (hg : Op2 X.K r g) (hg' : Op2 X.K r' g') (ha : DE X ec W a fa) (hb : DE X ec W b fb) (hd : DE X ec W c fd)
    (hm : lastMarks [op, op'] [b, c] = false := by with_unfolding_all rfl) : DT X ec W (.Compare a [op, op'] [b, c] pos) (asB (chainF g g' fa fb fd)) :=
  ⟨pt_mono (pt_chain ho ho' ha.run hb.run hd.run hm) fun σ H Q h => chain_post hg hg' (Q := fun x H' => ∃ k, x = V.bl k ∧ Q k H') (tD_asB h)⟩
/-- a value as a test -/
def truT : T → Option Bool
  | .non => some false
  | .bl b => some b
  | .int i => some (i != 0)
  | .str y => if y.length ≤ sizeLine then some ((y.length : Int) != 0) else none
  | .lst _ xs => some (!xs.isEmpty)
  | .tup xs => some (!xs.isEmpty)
  | _ => none
def truB (f : FE) : EnvT → R Bool := fun env => do let x ← f env; R.ofO (truT x)
theorem isEmpty_reps {K : PySem.W.Frag} {H : Hp} {P : Al} {ts : List T} {vs : List V} {F : List Addr} (r : Reps K H P ts vs F) : vs.isEmpty = ts.isEmpty := by
  have := r.length
  cases ts <;> cases vs <;> simp at this ⊢
theorem DT.val (ha : DE X ec W a fa) (he : ∀ whole, isTrue a X.env whole = (do let v ← whole; standAt a.pos; holding [v] (truthy v)) := by intro _; rfl) : DT X ec W a (truB fa) := by
  refine ⟨pt_mono (pt_truth ha.run he) fun σ H Q ⟨B, env, fp, s, h⟩ => ⟨B, env, fp, s, ?_⟩⟩
  unfold truB at h
  cases q : fa env with
  | exc c => rw [q] at h; exact h
  | bad => rw [q] at h; exact h
  | ok t =>
    rw [q] at h
    simp only [R.ok_bind] at h
    intro v H1 F e1 r n f
    cases qt : truT t with
    | none => rw [qt] at h; exact h.elim
    | some k =>
      rw [qt] at h
      refine ⟨k, ?_, h H1 e1⟩
      cases t with
      | non => obtain ⟨rfl, _⟩ := r; simp only [truT, Option.some.injEq] at qt; exact qt.symm
      | bl b => obtain ⟨rfl, _⟩ := r; simp only [truT, Option.some.injEq] at qt; exact qt.symm
      | int i => obtain ⟨rfl, _⟩ := r; simp only [truT, Option.some.injEq] at qt; exact qt.symm
      | str y =>
        obtain ⟨rfl, _⟩ := r
        simp only [truT] at qt
        split at qt
        · rename_i c; simp only [Option.some.injEq] at qt; exact ⟨c, qt.symm⟩
        · cases qt
      | lst g xs =>
        obtain ⟨a, vs, G, rfl, l, p, r⟩ := r
        simp only [truT, Option.some.injEq] at qt
        exact .inl ⟨vs, l.sq, by rw [isEmpty_reps r]; exact qt.symm⟩
      | tup xs =>
        obtain ⟨a, vs, rfl, l, r⟩ := r
        simp only [truT, Option.some.injEq] at qt
        exact .inr (.inl ⟨vs, SqT.of l, by rw [isEmpty_reps r]; exact qt.symm⟩)
      | tupN xs => simp [truT] at qt
      | dct g kvs => simp [truT] at qt
/-- and, or as values: of truths -/
def andF (fa fb : FE) : FE := fun env => do let x ← fa env; (match x with | .bl true => fb env | .bl false => .ok (.bl false) | _ => .bad)
def orF (fa fb : FE) : FE := fun env => do let x ← fa env; (match x with | .bl true => .ok (.bl true) | .bl false => fb env | _ => .bad)
def notF (fa : FE) : FE := fun env => do let x ← fa env; (match x with | .bl b => .ok (.bl (!b)) | _ => .bad)
variable {rest : List Expr}
theorem DE.bop1 {op} (ha : DE X ec W a fa) : DE X ec W (.BoolOp op [a] pos) fa := ⟨pe_one ha.run⟩
theorem DE.and_ (ha : DE X ec W a fa) (hb : DE X ec W (.BoolOp .And (b :: rest) pos) fb) : DE X ec W (.BoolOp .And (a :: b :: rest) pos) (andF fa fb) := by
  refine ⟨pe_mono (pe_and ha.run hb.run) fun σ H Q ⟨B, env, fp, s, h⟩ => ?_⟩
  refine tD.one (k := fun x => match x with | .bl true => fb env | .bl false => .ok (.bl false) | _ => .bad) (Q := Q) s h fun x t F H1 e1 r n f q p => ?_
  cases t with
  | bl k =>
    obtain ⟨rfl, _⟩ := r
    refine ⟨k, rfl, ?_⟩
    cases k with
    | true => exact iteT ⟨B, env, fp, s.grow e1, p.ext e1⟩
    | false => exact iteF (p _ H1 [] e1 ⟨rfl, rfl⟩ List.nodup_nil (by simp))
  | _ => exact p.elim
theorem DE.or_ (ha : DE X ec W a fa) (hb : DE X ec W (.BoolOp .Or (b :: rest) pos) fb) : DE X ec W (.BoolOp .Or (a :: b :: rest) pos) (orF fa fb) := by
  refine ⟨pe_mono (L2.pe_or ha.run hb.run) fun σ H Q ⟨B, env, fp, s, h⟩ => ?_⟩
  refine tD.one (k := fun x => match x with | .bl true => .ok (.bl true) | .bl false => fb env | _ => .bad) (Q := Q) s h fun x t F H1 e1 r n f q p => ?_
  cases t with
  | bl k =>
    obtain ⟨rfl, _⟩ := r
    refine ⟨k, rfl, ?_⟩
    cases k with
    | true => exact iteT (p _ H1 [] e1 ⟨rfl, rfl⟩ List.nodup_nil (by simp))
    | false => exact iteF ⟨B, env, fp, s.grow e1, p.ext e1⟩
  | _ => exact p.elim
theorem DE.not_ (ha : DE X ec W a fa) : DE X ec W (.UnaryOp .Not a pos) (notF fa) := by
  refine ⟨pe_mono (pe_not ha.run) fun σ H Q ⟨B, env, fp, s, h⟩ => ?_⟩
  refine tD.one (k := fun x => match x with | .bl b => .ok (.bl (!b)) | _ => .bad) (Q := Q) s h fun x t F H1 e1 r n f q p => ?_
  cases t with
  | bl k => obtain ⟨rfl, _⟩ := r; exact ⟨k, rfl, p _ H1 [] e1 ⟨rfl, rfl⟩ List.nodup_nil (by simp)⟩
  | _ => exact p.elim
def ifF (fc : EnvT → R Bool) (fa fb : FE) : FE := fun env => do let x ← fc env; if x = true then fa env else fb env
theorem DE.ifExp {fc : EnvT → R Bool} (hc : DT X ec W c fc) (ha : DE X ec W a fa) (hb : DE X ec W b fb) : DE X ec W (.IfExp c a b pos) (ifF fc fa fb) := by
  refine ⟨pe_mono (pe_ifExp hc.run ha.run hb.run) fun σ H Q ⟨B, env, fp, s, h⟩ => ⟨B, env, fp, s, ?_⟩⟩
  unfold ifF at h
  cases q : fc env with
  | exc c => rw [q] at h; exact h
  | bad => rw [q] at h; exact h
  | ok k =>
    rw [q] at h
    intro H1 e1
    cases k with
    | true => exact iteT ⟨B, env, fp, s.grow e1, Post.ext h e1⟩
    | false => exact iteF ⟨B, env, fp, s.grow e1, Post.ext h e1⟩
end

/-! ### built-ins by name -/
section
variable {X : Cx} {ec : Nat → Addr} {W : WX} {e a b : Expr} {es : List Expr} {fs : EnvT → R (List T)} {fe fa fb : FE} {p pos : Pos}
def lenT : List T → Option T
  | [.str x] => if x.length ≤ sizeLine then some (.int x.length) else none
  | [.lst _ ts] => some (.int ts.length)
  | [.tup ts] => some (.int ts.length)
  | [.tupN ts] => some (.int ts.length)
  | [.dct _ kvs] => if (kvs.all fun q => isK q.1) = true then some (.int kvs.length) else none
  | _ => none
theorem call_lenD {X : Cx} : CallR X (.builtin "len") (fun xs H Q => ∃ a kvs, xs = [.ref a] ∧ Rd H a (.dK kvs) ∧ Q (.int (kvs.length : Nat)) H) := fun pins s σ H xs us Q I r h => by
  obtain ⟨a, kvs, rfl, rd, q⟩ := h
  have := Vals.ref1 r
  subst this
  exact d_len I rd fun t s' I' => ⟨.int _, H, I', ⟨t, rfl⟩, q⟩
def rLen (K : PySem.W.Frag) : List V → Hp → VK → Prop := fun xs H Q => (∃ x n, xs = [x] ∧ LenV K x H n ∧ Q (.int n) H) ∨ ∃ a kvs, xs = [.ref a] ∧ Rd H a (.dK kvs) ∧ Q (.int (kvs.length : Nat)) H
theorem repD_dk {K : PySem.W.Frag} {H : Hp} {P : Al} {kvs : List (T × T)} {es : List (T × V)} {G : List Addr} {o : HO} (r : RepD K H P kvs es G) (d : DIs o es) (h : (kvs.all fun q => isK q.1) = true) : ∃ ks : List (Key × V), o = .dK ks ∧ ks.length = kvs.length ∧ es = (ks.map fun p => (kT p.1, p.2)) ∧ (ks.map (·.1)).Nodup := by
  have hk := repD_keys r
  rcases d with ⟨ks, rfl, nk, rfl⟩ | ⟨ks, rfl, ne, nk, rfl⟩
  · exact ⟨ks, rfl, by have := congrArg List.length hk; simpa using this.symm, rfl, nk⟩
  · exfalso
    cases ks with
    | nil => exact ne rfl
    | cons p ks =>
      cases kvs with
      | nil => cases hk
      | cons q kvs =>
        simp only [List.map_cons, List.cons.injEq] at hk
        simp only [List.all_cons, Bool.and_eq_true] at h
        rw [hk.1] at h
        simp [isK, kOf_tT] at h
theorem lenT_ok {K : PySem.W.Frag} : OpL K (rLen K) lenT := by
  intro H O C A vs ts F Q t cz r e h
  rcases ts with _ | ⟨t1, _ | ⟨t2, ts⟩⟩
  · simp [lenT] at e
  · obtain ⟨v, r', F1, F2, rfl, rfl, c, d⟩ := r
    obtain ⟨rfl, rfl⟩ := d
    cases t1 with
    | str x =>
      obtain ⟨rfl, rfl⟩ := c
      simp only [lenT] at e
      split at e
      · rename_i q; simp only [Option.some.injEq] at e; subst e
        exact .inl ⟨_, _, rfl, ⟨q, rfl⟩, h.int⟩
      · cases e
    | lst g xs =>
      obtain ⟨a, vs, G, rfl, l, p, r⟩ := c
      simp only [lenT, Option.some.injEq] at e; subst e
      exact .inl ⟨_, vs.length, rfl, .inl ⟨vs, l.sq, rfl⟩, by rw [← r.length]; exact h.int⟩
    | tup xs =>
      obtain ⟨a, vs, rfl, l, r⟩ := c
      simp only [lenT, Option.some.injEq] at e; subst e
      exact .inl ⟨_, vs.length, rfl, .inr ⟨vs, SqT.of l, rfl⟩, by rw [← r.length]; exact h.int⟩
    | tupN xs =>
      obtain ⟨a, vs, rfl, l, r⟩ := c
      simp only [lenT, Option.some.injEq] at e; subst e
      exact .inl ⟨_, vs.length, rfl, .inr ⟨vs, l.sqt, rfl⟩, by rw [← r.length]; exact h.int⟩
    | dct g kvs =>
      obtain ⟨a, es, G, rfl, l, p, r⟩ := c
      simp only [lenT] at e
      split at e
      · rename_i q; simp only [Option.some.injEq] at e; subst e
        obtain ⟨o, rd, d⟩ := l.rd
        obtain ⟨ks, rfl, hl, _⟩ := repD_dk r d q
        exact .inr ⟨a, ks, rfl, rd, by rw [hl]; exact h.int⟩
      · cases e
    | _ => simp [lenT] at e
  · cases t1 <;> simp [lenT] at e
theorem DE.len (hl : Gl X "len") (hm : X.mg "len" = none) (ha : DA X ec W (e :: es) fs) (he : starEach (e :: es) X.env = (false, eval e X.env) :: starEach es X.env := by rfl) (hpl : (backTo pos (starEach es X.env)).any (·.1) = false := by rfl) : DE X ec W (.Call (.Name "len" p) (e :: es) [] pos) (ap lenT fs) :=
  DE.callB (CallR.or call_len call_lenD) lenT_ok hl hm PySem.boot_len ha (by decide) (by decide) he hpl
/-- tuple(x), list(x) -/
def tupleT : List T → Option T
  | [.lst _ ts] => some (.tup ts)
  | [.tup ts] => some (.tup ts)
  | _ => none
def listT : List T → Option T
  | [.lst _ ts] => some (.lst .own ts)
  | [.tup ts] => some (.lst .own ts)
  | [.tupN ts] => some (.lst .own ts)
  | _ => none
theorem tupleT_ok {K : PySem.W.Frag} : OpL K (fun xs H Q => ∃ p ys, xs = [.ref p] ∧ ((SqL K H p ys ∧ ∀ l, H l = none → Q (.ref l) (upd H l (.tup ys))) ∨ (SqT K H p ys ∧ Q (.ref p) H))) tupleT := by
  intro H O C A vs ts F Q t cz r e h
  rcases ts with _ | ⟨t1, _ | ⟨t2, ts⟩⟩
  · simp [tupleT] at e
  · obtain ⟨v, r', F1, F2, rfl, rfl, c, d⟩ := r
    obtain ⟨rfl, rfl⟩ := d
    cases t1 with
    | lst g xs =>
      obtain ⟨a, vs, G, rfl, l, p, r⟩ := c
      simp only [tupleT, Option.some.injEq] at e; subst e
      exact ⟨a, vs, rfl, .inl ⟨l.sq, h.tup cz r (by simpa using p.sublist)⟩⟩
    | tup xs =>
      simp only [tupleT, Option.some.injEq] at e; subst e
      have c0 := c
      obtain ⟨a, vs, rfl, l, r⟩ := c
      exact ⟨a, vs, rfl, .inr ⟨SqT.of l, h.same cz c0 (by simp)⟩⟩
    | _ => simp [tupleT] at e
  · cases t1 <;> simp [tupleT] at e
theorem listT_ok {K : PySem.W.Frag} : OpL K (fun xs H Q => ∃ p ys, xs = [.ref p] ∧ (SqL K H p ys ∨ SqT K H p ys) ∧ ∀ l, H l = none → Q (.ref l) (upd H l (.lst ys))) listT := by
  intro H O C A vs ts F Q t cz r e h
  rcases ts with _ | ⟨t1, _ | ⟨t2, ts⟩⟩
  · simp [listT] at e
  · obtain ⟨v, r', F1, F2, rfl, rfl, c, d⟩ := r
    obtain ⟨rfl, rfl⟩ := d
    cases t1 with
    | lst g xs =>
      obtain ⟨a, vs, G, rfl, l, p, r⟩ := c
      simp only [listT, Option.some.injEq] at e; subst e
      exact ⟨a, vs, rfl, .inl l.sq, h.lst cz r (by simpa using p.sublist)⟩
    | tup xs =>
      obtain ⟨a, vs, rfl, l, r⟩ := c
      simp only [listT, Option.some.injEq] at e; subst e
      exact ⟨a, vs, rfl, .inr (SqT.of l), h.lst cz r (by simp)⟩
    | tupN xs =>
      obtain ⟨a, vs, rfl, l, r⟩ := c
      simp only [listT, Option.some.injEq] at e; subst e
      exact ⟨a, vs, rfl, .inr l.sqt, h.lst cz r (by simp)⟩
    | _ => simp [listT] at e
  · cases t1 <;> simp [listT] at e
theorem DE.tuple_ (hl : Gl X "tuple") (hm : X.mg "tuple" = none) (ha : DA X ec W (e :: es) fs) (he : starEach (e :: es) X.env = (false, eval e X.env) :: starEach es X.env := by rfl) (hpl : (backTo pos (starEach es X.env)).any (·.1) = false := by rfl) : DE X ec W (.Call (.Name "tuple" p) (e :: es) [] pos) (ap tupleT fs) :=
  DE.callT call_tuple_of tupleT_ok hl hm (by decide +kernel) ha (by decide) (by decide) he hpl
theorem DE.list_ (hl : Gl X "list") (hm : X.mg "list" = none) (ha : DA X ec W (e :: es) fs) (he : starEach (e :: es) X.env = (false, eval e X.env) :: starEach es X.env := by rfl) (hpl : (backTo pos (starEach es X.env)).any (·.1) = false := by rfl) : DE X ec W (.Call (.Name "list" p) (e :: es) [] pos) (ap listT fs) :=
  DE.callT call_list_of listT_ok hl hm (by decide +kernel) ha (by decide) (by decide) he hpl
/-- numbers -/
def absT : List T → Option T
  | [.int i] => some (.int (if i < 0 then -i else i))
  | _ => none
def intT : List T → Option T
  | [.int i] => some (.int i)
  | [.bl k] => some (.int (if k then 1 else 0))
  | _ => none
def maxT : List T → Option T
  | [.int i, .int j] => some (.int (if j > i then j else i))
  | _ => none
def minT : List T → Option T
  | [.int i, .int j] => some (.int (if j < i then j else i))
  | _ => none
theorem DE.abs_ (hl : Gl X "abs") (hm : X.mg "abs" = none) (ha : DA X ec W (e :: es) fs) (he : starEach (e :: es) X.env = (false, eval e X.env) :: starEach es X.env := by rfl) (hpl : (backTo pos (starEach es X.env)).any (·.1) = false := by rfl) : DE X ec W (.Call (.Name "abs" p) (e :: es) [] pos) (ap absT fs) := by
  refine DE.callB call_abs (fun H O C A vs ts F Q t cz r e h => ?_) hl hm (by decide +kernel) ha (by decide) (by decide) he hpl
  rcases ts with _ | ⟨t1, _ | ⟨t2, ts⟩⟩
  · simp [absT] at e
  · obtain ⟨v, r', F1, F2, rfl, rfl, c, d⟩ := r
    obtain ⟨rfl, rfl⟩ := d
    cases t1 with
    | int i => obtain ⟨rfl, rfl⟩ := c; simp only [absT, Option.some.injEq] at e; subst e; exact ⟨i, rfl, h.int⟩
    | _ => simp [absT] at e
  · cases t1 <;> simp [absT] at e
theorem DE.int_ (hl : Gl X "int") (hm : X.mg "int" = none) (ha : DA X ec W (e :: es) fs) (he : starEach (e :: es) X.env = (false, eval e X.env) :: starEach es X.env := by rfl) (hpl : (backTo pos (starEach es X.env)).any (·.1) = false := by rfl) : DE X ec W (.Call (.Name "int" p) (e :: es) [] pos) (ap intT fs) := by
  refine DE.callT call_int1 (fun H O C A vs ts F Q t cz r e h => ?_) hl hm (by decide +kernel) ha (by decide) (by decide) he hpl
  rcases ts with _ | ⟨t1, _ | ⟨t2, ts⟩⟩
  · simp [intT] at e
  · obtain ⟨v, r', F1, F2, rfl, rfl, c, d⟩ := r
    obtain ⟨rfl, rfl⟩ := d
    cases t1 with
    | int i => obtain ⟨rfl, rfl⟩ := c; simp only [intT, Option.some.injEq] at e; subst e; exact .inl ⟨i, rfl, h.int⟩
    | bl i => obtain ⟨rfl, rfl⟩ := c; simp only [intT, Option.some.injEq] at e; subst e; exact .inr ⟨i, rfl, h.int⟩
    | _ => simp [intT] at e
  · cases t1 <;> simp [intT] at e
theorem int2L {K : PySem.W.Frag} {f : Int → Int → Int} {g : List T → Option T} (hg : ∀ ts t, g ts = some t → ∃ i j, ts = [.int i, .int j] ∧ t = .int (f i j)) : OpL K (fun xs H Q => ∃ i j, xs = [.int i, .int j] ∧ Q (.int (f i j)) H) g := by
  intro H O C A vs ts F Q t cz r e h
  obtain ⟨i, j, rfl, rfl⟩ := hg _ _ e
  obtain ⟨v, r', F1, F2, rfl, rfl, c, v2, r2, F3, F4, rfl, rfl, c2, d⟩ := r
  obtain ⟨rfl, rfl⟩ := c; obtain ⟨rfl, rfl⟩ := c2; obtain ⟨rfl, rfl⟩ := d
  exact ⟨i, j, rfl, h.int⟩
theorem DE.max2 (hc : X.calm = true) (hl : Gl X "max") (hm : X.mg "max" = none) (ha : DA X ec W (e :: es) fs) (he : starEach (e :: es) X.env = (false, eval e X.env) :: starEach es X.env := by rfl) (hpl : (backTo pos (starEach es X.env)).any (·.1) = false := by rfl) : DE X ec W (.Call (.Name "max" p) (e :: es) [] pos) (ap maxT fs) := by
  refine DE.callB (call_max2 hc) (int2L (f := fun i j => if j > i then j else i) fun ts t e => ?_) hl hm (by decide +kernel) ha (by decide) (by decide) he hpl
  rcases ts with _ | ⟨t1, _ | ⟨t2, _ | ⟨t3, ts⟩⟩⟩
  · simp [maxT] at e
  · cases t1 <;> simp [maxT] at e
  · cases t1 <;> cases t2 <;> simp [maxT] at e ⊢; exact ⟨_, _, ⟨rfl, rfl⟩, e.symm⟩
  · cases t1 <;> cases t2 <;> simp [maxT] at e
theorem DE.min2 (hc : X.calm = true) (hl : Gl X "min") (hm : X.mg "min" = none) (ha : DA X ec W (e :: es) fs) (he : starEach (e :: es) X.env = (false, eval e X.env) :: starEach es X.env := by rfl) (hpl : (backTo pos (starEach es X.env)).any (·.1) = false := by rfl) : DE X ec W (.Call (.Name "min" p) (e :: es) [] pos) (ap minT fs) := by
  refine DE.callB (call_min2 hc) (int2L (f := fun i j => if j < i then j else i) fun ts t e => ?_) hl hm (by decide +kernel) ha (by decide) (by decide) he hpl
  rcases ts with _ | ⟨t1, _ | ⟨t2, _ | ⟨t3, ts⟩⟩⟩
  · simp [minT] at e
  · cases t1 <;> simp [minT] at e
  · cases t1 <;> cases t2 <;> simp [minT] at e ⊢; exact ⟨_, _, ⟨rfl, rfl⟩, e.symm⟩
  · cases t1 <;> cases t2 <;> simp [minT] at e
/-- isinstance -/
def tyN : T → String
  | .non => "NoneType" | .bl _ => "bool" | .int _ => "int" | .str _ => "str" | .tup _ => "tuple" | .tupN _ => "tuple" | .lst _ _ => "list" | .dct _ _ => "dict"
def isT (n : String) (t : T) : Option T := match t with
  | .dct _ kvs => if (kvs.all fun q => isK q.1) = true then some (.bl (n == "dict")) else none
  | t => some (.bl (tyN t == n || (tyN t == "bool" && n == "int")))
def kitAll (n : String) : Bool := ["NoneType", "bool", "int", "str", "tuple", "list", "dict"].all fun a => decide (kitB a n = some (a == n || (a == "bool" && n == "int")))
theorem DE.isinst {n : String} {x : Str} {p2 : Pos} (hl : Gl X "isinstance") (hm : X.mg "isinstance" = none) (hg2 : Gl X x) (hm2 : X.mg x = none) (hv2 : bootBuiltins x = some (.type n)) (hk : kitAll n = true) (ha : DE X ec W e fe) (hn : x ≠ "__name__" := by decide) (hd : (x == ("__debug__" : Str)) = false := by decide)
    (hs2 : starEach [(.Name x p2 : Expr)] X.env = (false, eval (.Name x p2) X.env) :: starEach [] X.env := by rfl)
    (he : starEach [e, .Name x p2] X.env = (false, eval e X.env) :: starEach [.Name x p2] X.env := by rfl) (hpl : (backTo pos (starEach [(.Name x p2 : Expr)] X.env)).any (·.1) = false := by rfl) :
    DE X ec W (.Call (.Name "isinstance" p) [e, .Name x p2] [] pos) (un1 (isT n) fe) := by
  refine ⟨pe_mono (pe_callB (r := rIsi X.K) call_isi hl hm (by decide +kernel) (pa_cons ha.run (pa_cons (pe_bltn (v := .ty n) hg2 hm2 hv2 rfl hn hd) pa_nil hs2) he) (by decide) (by decide) he hpl) fun σ H Q h => ?_⟩
  refine one_op (r := fun x1 H1 Q => rIsi X.K [x1, .ty n] H1 Q) (fun H O C A x tx F Q t cz r e h => ?_) h
  have kit : ∀ a ∈ ["NoneType", "bool", "int", "str", "tuple", "list", "dict"], PySem.W.kitOne X.K (.type a) (.type n) = some (a == n || (a == "bool" && n == "int")) := fun a ha => kit_ty (of_decide_eq_true (List.all_eq_true.mp hk a ha))
  have fin : ∀ (a : String) (b : Unit), a ∈ ["NoneType", "bool", "int", "str", "tuple", "list", "dict"] → TyX X.K H x (.type a) → t = .bl (a == n || (a == "bool" && n == "int")) → rIsi X.K [x, .ty n] H Q := fun a _ ha ty et => by
    subst et
    exact ⟨x, .ty n, .type a, .type n, _, rfl, .ty n, ty, kit a ha, h.bl⟩
  cases tx with
  | non => obtain ⟨rfl, _⟩ := r; simp only [isT, tyN, Option.some.injEq] at e; exact fin "NoneType" () (by simp) (.base .non) e.symm
  | bl b => obtain ⟨rfl, _⟩ := r; simp only [isT, tyN, Option.some.injEq] at e; exact fin "bool" () (by simp) (.base (.bl b)) e.symm
  | int b => obtain ⟨rfl, _⟩ := r; simp only [isT, tyN, Option.some.injEq] at e; exact fin "int" () (by simp) (.base (.int b)) e.symm
  | str b => obtain ⟨rfl, _⟩ := r; simp only [isT, tyN, Option.some.injEq] at e; exact fin "str" () (by simp) (.base (.str b)) e.symm
  | tup ts => obtain ⟨a, vs, rfl, l, r⟩ := r; simp only [isT, tyN, Option.some.injEq] at e; exact fin "tuple" () (by simp) (.base (.tup l)) e.symm
  | tupN ts => obtain ⟨a, vs, rfl, ⟨ob, l, _⟩, r⟩ := r; simp only [isT, tyN, Option.some.injEq] at e; exact fin "tuple" () (by simp) (.fTuple l) e.symm
  | lst g ts =>
    obtain ⟨a, vs, G, rfl, l, p, r⟩ := r
    simp only [isT, tyN, Option.some.injEq] at e
    refine fin "list" () (by simp) ?_ e.symm
    rcases l.sq with (q | ⟨ob, q⟩) | ⟨o, its, n, q, hc, _⟩
    · exact .base (.lst q)
    · exact .base (.frz q)
    · exact .kList q hc
  | dct g kvs =>
    obtain ⟨a, es, G, rfl, l, p, r⟩ := r
    simp only [isT] at e
    split at e
    · rename_i c
      simp only [Option.some.injEq] at e
      obtain ⟨o, rd, d⟩ := l.rd
      obtain ⟨ks, rfl, _, _⟩ := repD_dk r d c
      refine fin "dict" () (by simp) ?_ (by rw [← e]; simp [BEq.comm])
      rcases rd with q | ⟨ob, q⟩
      · exact .base (.dK q)
      · exact .fDict q
    · cases e
end
end VS

namespace VS
open PySem PySem.Spec L2
open PyProof.Rows hiding St

/-! ### no more cells than before -/
def Le (F G : List Addr) : Prop := ∀ a, F.count a ≤ G.count a
theorem count_le_one : ∀ {G : List Addr}, G.Nodup → ∀ a, G.count a ≤ 1
  | [], _, a => by simp
  | b :: G, h, a => by
    obtain ⟨h1, h2⟩ := List.nodup_cons.mp h
    rw [List.count_cons]
    have := count_le_one h2 a
    by_cases c : b = a
    · subst c
      rw [List.count_eq_zero.mpr h1]; simp
    · simp [c]; exact this
theorem nodup_of_count : ∀ {G : List Addr}, (∀ a, G.count a ≤ 1) → G.Nodup
  | [], _ => List.nodup_nil
  | b :: G, h => by
    refine List.nodup_cons.mpr ⟨fun m => ?_, nodup_of_count fun a => ?_⟩
    · have := h b
      have q : 0 < G.count b := List.count_pos_iff.mpr m
      rw [List.count_cons] at this; simp at this; omega
    · have := h a
      rw [List.count_cons] at this; omega
theorem Le.nodup {F G : List Addr} (h : Le F G) (n : G.Nodup) : F.Nodup := nodup_of_count fun a => Nat.le_trans (h a) (count_le_one n a)
theorem Le.mem {F G : List Addr} (h : Le F G) {a : Addr} (m : a ∈ F) : a ∈ G := List.count_pos_iff.mp (Nat.lt_of_lt_of_le (List.count_pos_iff.mpr m) (h a))
theorem Le.refl (F : List Addr) : Le F F := fun _ => Nat.le_refl _
theorem Le.trans {F G L : List Addr} (a : Le F G) (b : Le G L) : Le F L := fun x => Nat.le_trans (a x) (b x)
theorem Le.append {F G F' G' : List Addr} (a : Le F G) (b : Le F' G') : Le (F ++ F') (G ++ G') := fun x => by
  rw [List.count_append, List.count_append]; exact Nat.add_le_add (a x) (b x)
theorem Le.of_sub {F G : List Addr} (h : F.Sublist G) : Le F G := fun a => h.count_le a
theorem Le.comm (F G : List Addr) : Le (F ++ G) (G ++ F) := fun a => by rw [List.count_append, List.count_append]; omega

/-! ### expressions that change what a name owns -/
abbrev FX := EnvT → R (T × EnvT)
def PostX (K : PySem.W.Frag) (ec : Nat → Addr) (W : WX) (B : Bx) (σ : L2.St) (Q : VK) : R (T × EnvT) → EnvT → Prop
  | .ok (t, e), _ => ∀ v H' fp' F, Sta K { B with O := fun a => B.O a ∨ a ∈ F } e σ H' fp' → Rep K H' (Pm B.O B.C (AF (Aw fp') F) (Aw fp')) t v F → F.Nodup → (∀ a ∈ F, ¬ B.O a ∧ ¬ B.C a ∧ (B.H0 a = none ∨ B.F0 a)) → Q v H'
  | .exc c, e => ∀ H' fp', Sta K B e σ H' fp' → W (.ref (ec c)) none σ H'
  | .bad, _ => False
def tX (K : PySem.W.Frag) (ec : Nat → Addr) (W : WX) (f : FX) : TE := fun σ H Q => ∃ B env fp, Sta K B env σ H fp ∧ PostX K ec W B σ Q (f env) env
structure DX (X : Cx) (ec : Nat → Addr) (W : WX) (e : Expr) (f : FX) : Prop where
  run : PE X e (tX X.K ec W f)
def liftX (f : FE) : FX := fun env => do let t ← f env; .ok (t, env)
theorem Sta.fresh {K : PySem.W.Frag} {B : Bx} {env : EnvT} {σ : L2.St} {H : Hp} {fp : Fps} (s : Sta K B env σ H fp) {a : Addr} (h : H a = none) : ¬ B.O a ∧ ¬ B.C a ∧ (B.H0 a = none ∨ B.F0 a) := by
  refine ⟨(s.occ0 h).1, (s.occ0 h).2.2, ?_⟩
  by_cases c0 : B.F0 a
  · exact .inr c0
  · cases q : B.H0 a with
    | none => exact .inl rfl
    | some o => have := s.ext a o q c0; rw [h] at this; cases this
theorem set_self {α : Type} : ∀ {l : List α} {i : Nat} {x : α}, l[i]? = some x → l.set i x = l
  | [], _, _, h => by simp at h
  | a :: l, 0, x, h => by simp at h; subst h; rfl
  | a :: l, i + 1, x, h => by
    show a :: l.set i x = a :: l
    rw [set_self (by simpa using h)]
/-- a list's method at a name that owns it: items, arguments, new items, what it tells -/
def OwnL (K : PySem.W.Frag) (r : V → List V → Hp → VK → Prop) (g : List T → List T → Option (List T × T)) : Prop :=
  ∀ (H : Hp) (P : Al) (p : Addr) (vs : List V) (ts : List T) (G : List Addr) (as : List T) (us : List V) (F : List Addr) (Q : VK) (ts' : List T) (res : T), H p = some (.lst vs) → Reps K H P ts vs G → Reps K H P as us F → g ts as = some (ts', res) →
    (∀ vs' G' v Fr, Reps K H P ts' vs' G' → Rep K H P res v Fr → Le (G' ++ Fr) (G ++ F) → Q v (upd H p (.lst vs'))) → r (.ref p) us H Q
def methX (i : Nat) (g : List T → List T → Option (List T × T)) (fs : EnvT → R (List T)) : FX := fun env => match env[i]? with
  | some (some (.lst .own ts)) => do
    let as ← fs env
    if T.hasL .brw as = true then .bad else match g ts as with
      | some (ts', res) => .ok (res, env.set i (some (.lst .own ts')))
      | none => .bad
  | _ => .bad
theorem meth_post {K : PySem.W.Frag} {ec : Nat → Addr} {W : WX} {i : Nat} {r : V → List V → Hp → VK → Prop} {g : List T → List T → Option (List T × T)} {fs : EnvT → R (List T)} (hg : OwnL K r g) {σ : L2.St} {H : Hp} {Q : VK} (h : tX K ec W (methX i g fs) σ H Q) :
    ∃ v, σ[i]? = some (some v) ∧ tyV K "list" v H ∧ tDA K ec W fs σ H (fun xs H2 => r v xs H2 Q) := by
  obtain ⟨B, env, fp, s, h⟩ := h
  unfold methX at h
  cases e : env[i]? with
  | none => rw [e] at h; exact h.elim
  | some o =>
    rw [e] at h
    match o, e, h with
    | none, e, h => exact h.elim
    | some .non, e, h => exact h.elim
    | some (.bl _), e, h => exact h.elim
    | some (.int _), e, h => exact h.elim
    | some (.str _), e, h => exact h.elim
    | some (.tup _), e, h => exact h.elim
    | some (.dct _ _), e, h => exact h.elim
    | some (.lst .shr _), e, h => exact h.elim
    | some (.lst .prt _), e, h => exact h.elim
    | some (.lst .brw _), e, h => exact h.elim
    | some (.lst .fzn _), e, h => exact h.elim
    | some (.lst .own ts), e, h =>
      obtain ⟨v, hv, rs⟩ := s.slot i _ e
      obtain ⟨p, vs, G, rfl, l, fpe, r0⟩ := rs
      have hp : H p = some (.lst vs) := l
      have fpe : fp i = p :: G := fpe
      have hi : i < env.length := (List.getElem?_eq_some_iff.mp e).1
      refine ⟨.ref p, hv, .inl ⟨rfl, vs, SqL.of hp⟩, B, env, fp, s, ?_⟩
      dsimp only at h
      cases q : fs env with
      | exc c => rw [q] at h; exact fun H' x => h H' fp (s.grow x)
      | bad => rw [q] at h; exact h
      | ok as =>
        rw [q] at h
        intro us H1 F e1 ra nd f
        simp only [R.ok_bind] at h
        by_cases hb : T.hasL .brw as = true
        · rw [if_pos hb] at h; exact h.elim
        · rw [if_neg hb] at h
          have hb' : T.hasL .brw as = false := by simpa using hb
          cases qg : g ts as with
          | none => rw [qg] at h; exact h.elim
          | some pr =>
            obtain ⟨ts', res⟩ := pr
            rw [qg] at h
            have ndG : (p :: G).Nodup := by rw [← fpe]; exact s.nd i
            have hp1 : H1 p = some (.lst vs) := e1 _ _ hp
            have r1 : Reps K H1 (Pm B.O B.C (AF (Aw fp) F) Nz) ts vs G := r0.mono e1 fun g a _ _ d p => Pm.to id (fun z => z.elim id fun m => absurd (f a m) d) id p
            refine hg H1 _ p vs ts G as us F Q ts' res hp1 r1 (noBrwL hb' ra) qg fun vs' G' v Fr rts rr le => ?_
            have GF : (G ++ F).Nodup := List.nodup_append.mpr ⟨(List.nodup_cons.mp ndG).2, nd, fun a ha b hb q => by subst q; exact r0.own_dom _ _ _ a ha (f a hb)⟩
            have pG : p ∉ G := (List.nodup_cons.mp ndG).1
            have pF : p ∉ F := fun m => by have := f p m; rw [hp] at this; cases this
            have memGF : ∀ a, a ∈ G' ++ Fr → a ∈ G ++ F := fun a m => le.mem m
            have hpn : p ∉ G' ++ Fr := fun m => (List.mem_append.mp (memGF p m)).elim pG pF
            have ndn : (G' ++ Fr).Nodup := le.nodup GF
            obtain ⟨n1, n2, n3⟩ := List.nodup_append.mp ndn
            have inG : ∀ a, a ∈ G → Aw fp a := fun a m => ⟨i, by rw [fpe]; exact List.mem_cons_of_mem _ m⟩
            have pA : Aw fp p := ⟨i, by rw [fpe]; exact List.mem_cons_self⟩
            have kp : Kp (fun a => a ∈ fp i) H1 (upd H1 p (.lst vs')) := ⟨fun a o e' n => by rw [upd_ne (fun z => n (by rw [z, fpe]; exact List.mem_cons_self))]; exact e', fun a xs w => by
                obtain ⟨o, h1, h2, _⟩ := (s.grow e1).own_mut a w
                rw [h1]; intro z; exact h2 xs (Option.some.inj z), fun a ob u w => by
                obtain ⟨o, h1, _, h2⟩ := (s.grow e1).own_mut a w
                rw [h1]; intro z; exact h2 ob u (Option.some.inj z)⟩
            have kp1 : Kp (fun a => a = p) H1 (upd H1 p (.lst vs')) := ⟨fun a o e' n => by rw [upd_ne n]; exact e', fun a xs w => by rw [w, hp1]; simp, fun a ob u w => by rw [w, hp1]; simp⟩
            have old : ∀ a, a ∈ G' ++ Fr → a ∈ fp i ∨ H1 a = none ∨ (a ∈ F) := fun a m => (List.mem_append.mp (memGF a m)).elim (fun z => .inl (by rw [fpe]; exact List.mem_cons_of_mem _ z)) fun z => .inr (.inr z)
            -- the state as it was, with the arguments' own cells as new ones: looked at from H
            have rnew : Rep K (upd H1 p (.lst vs')) (Pm (fun a => B.O a ∨ a ∈ Fr) B.C (Aw (fset fp i (p :: G'))) Nz) (.lst .own ts') (.ref p) (p :: G') := by
              refine ⟨p, vs', G', rfl, upd_same, rfl, Reps.keep kp1 ts' vs' G' (fun g a _ n d q => ?_) (fun a ha z => hpn (List.mem_append_left _ (z ▸ ha))) rts⟩
              have nO : ¬ AF (Aw fp) F a → ¬ (a ∈ Fr) := fun h1 h2 => (List.mem_append.mp (memGF a (List.mem_append_right _ h2))).elim (fun z => h1 (.inl (inG a z))) fun z => h1 (.inr z)
              have nA : ¬ AF (Aw fp) F a → ¬ Aw (fset fp i (p :: G')) a := fun h1 ⟨j, hj⟩ => by
                by_cases c : j = i
                · subst c; rw [fset_same] at hj
                  rcases List.mem_cons.mp hj with z | z
                  · exact h1 (.inl (z ▸ pA))
                  · exact (List.mem_append.mp (memGF a (List.mem_append_left _ z))).elim (fun z => h1 (.inl (inG a z))) fun z => h1 (.inr z)
                · rw [fset_ne c] at hj; exact h1 (.inl ⟨j, hj⟩)
              have np : ¬ AF (Aw fp) F a → ¬ a = p := fun h1 z => h1 (.inl (z ▸ pA))
              cases g with
              | own => exact absurd rfl n
              | shr => exact ⟨⟨fun z => z.elim q.1 (nO q.2.1), nA q.2.1, q.2.2⟩, np q.2.1⟩
              | prt => exact ⟨⟨fun z => z.elim q.1 (nO q.2), nA q.2⟩, np q.2⟩
              | brw => exact (show False from q).elim
              | fzn => exact ⟨⟨fun z => z.elim q.1 (nO q.2), nA q.2⟩, np q.2⟩
            have kpH : Kp (fun a => a ∈ fp i) H (upd H1 p (.lst vs')) := ⟨fun a o e' n => kp.keep a o (e1 a o e') n, fun a xs w => by
                obtain ⟨o, h1, h2, _⟩ := s.own_mut a w
                rw [h1]; intro z; exact h2 xs (Option.some.inj z), fun a ob u w => by
                obtain ⟨o, h1, _, h2⟩ := s.own_mut a w
                rw [h1]; intro z; exact h2 ob u (Option.some.inj z)⟩
            have here : ∀ a, a ∈ G' ++ Fr → a ∈ fp i ∨ H a = none := fun a m => (List.mem_append.mp (memGF a m)).elim (fun z => .inl (by rw [fpe]; exact List.mem_cons_of_mem _ z)) fun z => .inr (f a z)
            have st := s.changeE (E := fun a => a ∈ Fr) hi kpH rnew (List.nodup_cons.mpr ⟨fun m => hpn (List.mem_append_left _ m), n1⟩)
              (fun a ha => (List.mem_cons.mp ha).elim (fun z => .inl (by rw [z, fpe]; exact List.mem_cons_self)) fun z => here a (List.mem_append_left _ z))
              (fun a ha => ⟨here a (List.mem_append_right _ ha), fun m => (List.mem_cons.mp m).elim (fun z => hpn (List.mem_append_right _ (z ▸ ha))) (fun z => n3 a z a ha rfl), by
                have hne : a ≠ p := fun z => hpn (List.mem_append_right _ (by rw [← z]; exact ha))
                rw [upd_ne hne]; exact rr.own_dom _ _ _ a ha⟩)
            rw [set_self hv] at st
            refine h v _ _ Fr st ?_ n2 fun a ha => ?_
            · refine Rep.keep kp1 res v Fr (fun g a _ n d q => ?_) (fun a ha z => hpn (List.mem_append_right _ (z ▸ ha))) rr
              have nA : ¬ AF (Aw fp) F a → ¬ AF (Aw (fset fp i (p :: G'))) Fr a := fun h1 z => by
                rcases z with ⟨j, hj⟩ | z
                · by_cases c : j = i
                  · subst c; rw [fset_same] at hj
                    rcases List.mem_cons.mp hj with z | z
                    · exact h1 (.inl (z ▸ pA))
                    · exact (List.mem_append.mp (memGF a (List.mem_append_left _ z))).elim (fun z => h1 (.inl (inG a z))) fun z => h1 (.inr z)
                  · rw [fset_ne c] at hj; exact h1 (.inl ⟨j, hj⟩)
                · exact (List.mem_append.mp (memGF a (List.mem_append_right _ z))).elim (fun z => h1 (.inl (inG a z))) fun z => h1 (.inr z)
              have np : ¬ AF (Aw fp) F a → ¬ a = p := fun h1 z => h1 (.inl (z ▸ pA))
              cases g with
              | own => exact absurd rfl n
              | shr => exact ⟨⟨q.1, nA q.2.1, q.2.2⟩, np q.2.1⟩
              | prt => exact ⟨⟨q.1, nA q.2⟩, np q.2⟩
              | brw => exact (show False from q).elim
              | fzn => exact ⟨⟨q.1, nA q.2⟩, np q.2⟩
            · rcases List.mem_append.mp (memGF a (List.mem_append_right _ ha)) with z | z
              · have m : a ∈ fp i := by rw [fpe]; exact List.mem_cons_of_mem _ z
                exact ⟨(s.dis i a m).1, (s.dis i a m).2, s.own i a m⟩
              · exact s.fresh (f a z)
section
variable {X : Cx} {ec : Nat → Addr} {W : WX} {e o a b : Expr} {es : List Expr} {fs : EnvT → R (List T)} {fe fa fb : FE} {fx : FX} {p pos apos : Pos}
theorem DE.x (h : DE X ec W e fe) : DX X ec W e (liftX fe) := by
  refine ⟨pe_mono h.run fun σ H Q ⟨B, env, fp, s, h⟩ => ⟨B, env, fp, s, ?_⟩⟩
  unfold liftX at h
  cases q : fe env with
  | ok t =>
    rw [q] at h
    intro v H1 F e1 r n f
    exact h v H1 fp F (s.push e1 fun a ha => ⟨f a ha, r.own_dom _ _ _ a ha⟩) r n fun a ha => s.fresh (f a ha)
  | exc c => rw [q] at h; exact fun H' x => h H' fp (s.grow x)
  | bad => rw [q] at h; exact h
theorem DX.meth (i : Nat) {x name : Str} {id : String} {xp : Pos} {r : V → List V → Hp → VK → Prop} {g : List T → List T → Option (List T × T)} (slot : Slot "list" name id) (hty : typeOf (.builtin id) = pure (.type "method_descriptor")) (hm : MtR X id r) (hg : OwnL X.K r g) (ha : DA X ec W (e :: es) fs)
    (hN : X.N[i]? = some x := by rfl) (hv : Vis X.env.scope x := by first | exact Or.inl rfl | exact Or.inr (Or.inl rfl) | exact Or.inr (Or.inr rfl)) (hd : (x == ("__debug__" : Str)) = false := by decide) (hcd : (x == ("__classdict__" : Str)) = false := by decide)
    (hbase : attributeBase (.Name x xp) name X.env (eval (.Name x xp) X.env) = eval (.Name x xp) X.env := by rfl)
    (hfew : ((backTo pos (starEach (e :: es) X.env)).all (fun x => !x.1) && (backToKw pos (keywordEach [] X.env)).all (fun x => x.1.isSome)
      && decide ((e :: es).length + ([] : List Keyword).length + (if ([] : List Keyword).isEmpty then 0 else 1) < 30)) = true := by rfl)
    (hline : (apos.endLine == pos.line) = true := by rfl) (hs : starEach (e :: es) X.env = (false, eval e X.env) :: starEach es X.env := by rfl) (hplain : (backTo pos (starEach es X.env)).any (·.1) = false := by rfl) :
    DX X ec W (.Call (.Attribute (.Name x xp) name apos) (e :: es) [] pos) (methX i g fs) :=
  ⟨pe_mono (pe_bm PySem.F.plainAttrs_list slot hty hm (pe_var (i := i) hN hv hd hcd) ha.run hbase hfew hline hs hplain) fun σ H Q h => meth_post hg h⟩
theorem DX.meth0 (i : Nat) {x name : Str} {id : String} {xp : Pos} {r : V → List V → Hp → VK → Prop} {g : List T → List T → Option (List T × T)} (slot : Slot "list" name id) (hty : typeOf (.builtin id) = pure (.type "method_descriptor")) (hm : MtR X id r) (hg : OwnL X.K r g)
    (hN : X.N[i]? = some x := by rfl) (hv : Vis X.env.scope x := by first | exact Or.inl rfl | exact Or.inr (Or.inl rfl) | exact Or.inr (Or.inr rfl)) (hd : (x == ("__debug__" : Str)) = false := by decide) (hcd : (x == ("__classdict__" : Str)) = false := by decide)
    (hbase : attributeBase (.Name x xp) name X.env (eval (.Name x xp) X.env) = eval (.Name x xp) X.env := by rfl)
    (hline : (apos.endLine == pos.line) = true := by rfl) :
    DX X ec W (.Call (.Attribute (.Name x xp) name apos) [] [] pos) (methX i g fun _ => .ok []) := by
  refine ⟨pe_mono (pe_bm0 PySem.F.plainAttrs_list slot hty hm (pe_var (i := i) hN hv hd hcd) hbase hline) fun σ H Q h => ?_⟩
  obtain ⟨v, h1, h2, B, env, fp, s, h3⟩ := meth_post (ec := ec) (W := W) hg h
  exact ⟨v, h1, h2, h3 [] H [] (Ext.refl _) ⟨rfl, rfl⟩ List.nodup_nil (by simp)⟩
end

/-! ### statements out of these -/
section
variable {X : Cx} {ec : Nat → Addr} {W : WX} {e tg : Expr} {fx : FX} {pos : Pos}
def bX (env : EnvT) (r : R (T × EnvT)) (k : T → EnvT → Out) : Out := match r with
  | .ok (t, e) => k t e
  | .exc c => .exc c env
  | .bad => .bad
@[simp] theorem bX_ok (env : EnvT) (t : T) (e : EnvT) (k : T → EnvT → Out) : bX env (.ok (t, e)) k = k t e := id rfl
@[simp] theorem bX_exc (env : EnvT) (c : Nat) (k : T → EnvT → Out) : bX env (.exc c) k = .exc c env := id rfl
@[simp] theorem bX_bad (env : EnvT) (k : T → EnvT → Out) : bX env .bad k = .bad := id rfl
theorem tX.atStmt {K : PySem.W.Frag} {B : Bx} {env : EnvT} {σ : L2.St} {H : Hp} {fp : Fps} {D : Ends} {R' : VK} {k : T → EnvT → Out} (s : Sta K B env σ H fp) (h : PostS K ec W B D (bX env (fx env) k))
    (hk : ∀ x t e' F H1 fp1, Sta K { B with O := fun a => B.O a ∨ a ∈ F } e' σ H1 fp1 → Rep K H1 (Pm B.O B.C (AF (Aw fp1) F) (Aw fp1)) t x F → F.Nodup → (∀ a ∈ F, ¬ B.O a ∧ ¬ B.C a ∧ (B.H0 a = none ∨ B.F0 a)) → PostS K ec W B D (k t e') → R' x H1) : tX K ec W fx σ H R' := by
  refine ⟨B, env, fp, s, ?_⟩
  cases e : fx env with
  | ok p => obtain ⟨t, e'⟩ := p; rw [e] at h; exact fun v H' fp' F s' r n f => hk v t e' F H' fp' s' r n f h
  | exc c => rw [e] at h; exact fun H' fp' s' => h σ H' fp' s'
  | bad => rw [e] at h; exact h
theorem DS.exprX (he : DX X ec W e fx) (hs : swapsWith e none pos.line X.env = pure false := by rfl) : DS X ec W (.Expr e pos) (fun env => bX env (fx env) fun _ e' => .nx e') :=
  ⟨ps_mono (ps_expr he.run hs) fun D σ H ⟨B, env, fp, s, h⟩ => tX.atStmt s h fun x t e' F H1 fp1 s1 _ _ _ p => p σ H1 fp1 (s1.unhide fun _ z => .inl z)⟩
def asgX (g : T → EnvT → Option EnvT) (fx : FX) : FS := fun env => bX env (fx env) fun t e' => if t.has .brw = false then (match g t e' with | some e2 => .nx e2 | none => .bad) else .bad
theorem DS.asgX {is : List Nat} {g : T → EnvT → Option EnvT} (he : DX X ec W e fx) (hg : DG X tg is g) (hs : swapsWithSole [tg] e pos.line X.env = pure false := by rfl) (hw : swappedStores [tg] e X.env = pure none := by rfl) (h1 : (assignEach [tg] X.env).map (·.2) = [assign tg X.env] := by rfl) : DS X ec W (.Assign [tg] e pos) (VS.asgX g fx) := by
  refine ⟨ps_mono (ps_asg he.run hg.run hs hw h1) fun D σ H ⟨B, env, fp, s, h⟩ => tX.atStmt s h fun x t e' F H1 fp1 s1 r n f p => ?_⟩
  by_cases c : t.has .brw = false
  · rw [if_pos c] at p
    refine ⟨B, e', fp1, t, F, s1, noBrw c r, n, f, ?_⟩
    cases q : g t e' with
    | none => rw [q] at p; exact p.elim
    | some e2 => rw [q] at p; exact fun σ' fp' s' _ => p σ' H1 fp' s'
  · rw [if_neg c] at p; exact p.elim
end

/-! ### the methods -/
def mAppend (ts : List T) : List T → Option (List T × T)
  | [t] => if ts.length < sizeLine then some (ts ++ [t], .non) else none
  | _ => none
def mExtend (ts : List T) : List T → Option (List T × T)
  | [.lst g us] => if g ≠ .fzn ∧ ts.length + us.length ≤ sizeLine then some (ts ++ us, .non) else none
  | _ => none
def mPop (ts : List T) : List T → Option (List T × T)
  | [] => (ts[ts.length - 1]?).map fun t => (ts.dropLast, t)
  | [.int i] => if fits62 i = true then (ixN ts.length i).bind fun k => (ts[k]?).map fun t => (ts.eraseIdx k, t) else none
  | _ => none
def mClear (_ : List T) : List T → Option (List T × T)
  | [] => some ([], .non)
  | _ => none
def mReverse (ts : List T) : List T → Option (List T × T)
  | [] => some (ts.reverse, .non)
  | _ => none
section
variable {K : PySem.W.Frag} {H : Hp} {P : Al}
theorem reps_one {t : T} {us : List V} {F : List Addr} (r : Reps K H P [t] us F) : ∃ v, us = [v] ∧ Rep K H P t v F := by
  obtain ⟨v, r', F1, F2, rfl, rfl, c, rfl, rfl⟩ := r
  exact ⟨v, rfl, by simpa using c⟩
theorem own_append {K : PySem.W.Frag} : OwnL K rAppend mAppend := by
  intro H P p vs ts G as us F Q ts' res hp rt ra e h
  rcases as with _ | ⟨t, _ | ⟨t2, as⟩⟩
  · simp [mAppend] at e
  · simp only [mAppend] at e
    split at e
    · rename_i c
      simp only [Option.some.injEq, Prod.mk.injEq] at e
      obtain ⟨rfl, rfl⟩ := e
      obtain ⟨v, rfl, rv⟩ := reps_one ra
      exact ⟨p, vs, v, rfl, rfl, hp, by rw [← rt.length]; exact c, h (vs ++ [v]) (G ++ F) .non [] (rt.append ra) ⟨rfl, rfl⟩ (by rw [List.append_nil]; exact Le.refl _)⟩
    · cases e
  · simp [mAppend] at e
theorem own_extend {K : PySem.W.Frag} : OwnL K rExtend mExtend := by
  intro H P p vs ts G as us F Q ts' res hp rt ra e h
  rcases as with _ | ⟨t, _ | ⟨t2, as⟩⟩
  · simp [mExtend] at e
  · cases t with
    | lst g xs =>
      simp only [mExtend] at e
      split at e
      · rename_i c
        simp only [Option.some.injEq, Prod.mk.injEq] at e
        obtain ⟨rfl, rfl⟩ := e
        obtain ⟨v, rfl, b, ws, G', rfl, l, fp, r⟩ := reps_one ra
        exact ⟨p, b, vs, ws, rfl, rfl, hp, l.at_ c.1, by rw [← rt.length, ← r.length]; exact c.2, h (vs ++ ws) (G ++ G') .non [] (rt.append r) ⟨rfl, rfl⟩ (by rw [List.append_nil]; exact (Le.refl _).append (Le.of_sub fp.sublist))⟩
      · cases e
    | _ => simp [mExtend] at e
  · cases t <;> simp [mExtend] at e
theorem reps_erase : ∀ {ts : List T} {vs : List V} {F : List Addr} {k : Nat} {t : T}, Reps K H P ts vs F → ts[k]? = some t → ∃ v G1 G2, vs[k]? = some v ∧ Rep K H P t v G2 ∧ Reps K H P (ts.eraseIdx k) (vs.eraseIdx k) G1 ∧ Le (G1 ++ G2) F
  | [], _, _, k, t, _, h => by simp at h
  | u :: ts, _, _, 0, t, ⟨v, r, F1, F2, e, e', c, d⟩, h => by
    subst e; subst e'
    simp at h; subst h
    exact ⟨v, F2, F1, rfl, c, d, Le.comm F2 F1⟩
  | u :: ts, _, _, k + 1, t, ⟨v, r, F1, F2, e, e', c, d⟩, h => by
    subst e; subst e'
    obtain ⟨w', G1, G2, h1, h2, h3, h4⟩ := reps_erase (k := k) d (by simpa using h)
    refine ⟨w', F1 ++ G1, G2, by simpa using h1, h2, ⟨v, r.eraseIdx k, F1, G1, rfl, rfl, c, h3⟩, ?_⟩
    rw [List.append_assoc]; exact (Le.refl F1).append h4
theorem own_pop {K : PySem.W.Frag} : OwnL K (fun x xs H Q => rPop x xs H Q ∨ rPopAt x xs H Q) mPop := by
  intro H P p vs ts G as us F Q ts' res hp rt ra e h
  rcases as with _ | ⟨t, _ | ⟨t2, as⟩⟩
  · obtain ⟨rfl, rfl⟩ := ra
    simp only [mPop] at e
    cases q : ts[ts.length - 1]? with
    | none => rw [q] at e; cases e
    | some t =>
      rw [q] at e
      simp only [Option.map_some, Option.some.injEq, Prod.mk.injEq] at e
      obtain ⟨rfl, rfl⟩ := e
      obtain ⟨v, G1, G2, h1, h2, h3, h4⟩ := reps_erase rt q
      refine .inl ⟨p, vs, v, rfl, rfl, hp, by rw [← rt.length]; exact h1, ?_⟩
      have e1 : ts.eraseIdx (ts.length - 1) = ts.dropLast := List.eraseIdx_length_sub_one ..
      have e2 : vs.eraseIdx (ts.length - 1) = vs.dropLast := by rw [rt.length]; exact List.eraseIdx_length_sub_one ..
      rw [e1, e2] at h3
      exact h vs.dropLast G1 v G2 h3 h2 (by simpa using h4)
  · cases t with
    | int i =>
      obtain ⟨v, rfl, rfl, rfl⟩ := reps_one ra
      simp only [mPop] at e
      split at e
      rotate_left
      · cases e
      rename_i hf
      cases q : ixN ts.length i with
      | none => rw [q] at e; cases e
      | some k =>
        rw [q] at e
        simp only [Option.bind_some] at e
        cases q2 : ts[k]? with
        | none => rw [q2] at e; cases e
        | some t =>
          rw [q2] at e
          simp only [Option.map_some, Option.some.injEq, Prod.mk.injEq] at e
          obtain ⟨rfl, rfl⟩ := e
          obtain ⟨v, G1, G2, h1, h2, h3, h4⟩ := reps_erase rt q2
          rw [rt.length] at q
          obtain ⟨s1, s2, s3, s4⟩ := ixN_seq q
          have := fits62_lo hf
          exact .inr ⟨p, vs, i, k, v, rfl, rfl, hp, by omega, by omega, s1, h1, h _ G1 v G2 h3 h2 (by simpa using h4)⟩
    | _ => simp [mPop] at e
  · cases t <;> simp [mPop] at e
theorem own_clear {K : PySem.W.Frag} : OwnL K rClear mClear := by
  intro H P p vs ts G as us F Q ts' res hp rt ra e h
  rcases as with _ | ⟨t, as⟩
  · obtain ⟨rfl, rfl⟩ := ra
    simp only [mClear, Option.some.injEq, Prod.mk.injEq] at e
    obtain ⟨rfl, rfl⟩ := e
    exact ⟨p, vs, rfl, rfl, hp, h [] [] .non [] ⟨rfl, rfl⟩ ⟨rfl, rfl⟩ (fun a => by simp)⟩
  · simp [mClear] at e
end
end VS

namespace VS
open PySem PySem.Spec L2
open PyProof.Rows hiding St

/-! ### an owned node is written -/
theorem Sta.update {K : PySem.W.Frag} {B : Bx} {env : EnvT} {σ : L2.St} {H H1 : Hp} {fp : Fps} {i : Nat} {t' res : T} {v0 vr : V} {F F' Fr : List Addr} {b : Addr} {o' : HO} (s : Sta K B env σ H fp) (e1 : Ext H H1) (hi : i < env.length) (hb : b ∈ fp i) (hv : σ[i]? = some (some v0))
    (nd : F.Nodup) (f : ∀ a ∈ F, H a = none) (r1 : Rep K (upd H1 b o') (Pm B.O B.C (AF (Aw fp) F) Nz) t' v0 F') (r2 : Rep K (upd H1 b o') (Pm B.O B.C (AF (Aw fp) F) Nz) res vr Fr) (le : Le (F' ++ Fr) (fp i ++ F)) :
    Sta K { B with O := fun a => B.O a ∨ a ∈ Fr } (env.set i (some t')) σ (upd H1 b o') (fset fp i F') ∧ Rep K (upd H1 b o') (Pm B.O B.C (AF (Aw (fset fp i F')) Fr) (Aw (fset fp i F'))) res vr Fr ∧ Fr.Nodup ∧ ∀ a ∈ Fr, ¬ B.O a ∧ ¬ B.C a ∧ (B.H0 a = none ∨ B.F0 a) := by
  have ndA : (fp i ++ F).Nodup := List.nodup_append.mpr ⟨s.nd i, nd, fun a ha c hc q => by subst q; exact s.odom ⟨i, ha⟩ (f a hc)⟩
  have mem : ∀ a, a ∈ F' ++ Fr → a ∈ fp i ∨ a ∈ F := fun a m => List.mem_append.mp (le.mem m)
  obtain ⟨n1, n2, n3⟩ := List.nodup_append.mp (le.nodup ndA)
  have nAF : ∀ a, ¬ AF (Aw fp) F a → ¬ (a ∈ F') ∧ ¬ (a ∈ Fr) := fun a h => ⟨fun m => (mem a (List.mem_append_left _ m)).elim (fun z => h (.inl ⟨i, z⟩)) fun z => h (.inr z), fun m => (mem a (List.mem_append_right _ m)).elim (fun z => h (.inl ⟨i, z⟩)) fun z => h (.inr z)⟩
  have nA : ∀ a, ¬ AF (Aw fp) F a → ¬ Aw (fset fp i F') a := fun a h ⟨j, hj⟩ => by
    by_cases c : j = i
    · subst c; rw [fset_same] at hj; exact (nAF a h).1 hj
    · rw [fset_ne c] at hj; exact h (.inl ⟨j, hj⟩)
  have here : ∀ a, a ∈ F' ++ Fr → a ∈ fp i ∨ H a = none := fun a m => (mem a m).elim .inl fun z => .inr (f a z)
  have kp : Kp (fun a => a ∈ fp i) H (upd H1 b o') := ⟨fun a o e' n => by rw [upd_ne (fun z => n (by rw [z]; exact hb))]; exact e1 a o e', fun a xs w => by
      obtain ⟨o, h1, h2, _⟩ := s.own_mut a w
      rw [h1]; intro z; exact h2 xs (Option.some.inj z), fun a ob u w => by
      obtain ⟨o, h1, _, h2⟩ := s.own_mut a w
      rw [h1]; intro z; exact h2 ob u (Option.some.inj z)⟩
  have st := s.changeE (E := fun a => a ∈ Fr) hi kp (r1.mono (Ext.refl _) fun g a _ n d q => by
      cases g with
      | own => trivial
      | shr => exact ⟨fun z => z.elim q.1 (nAF a q.2.1).2, nA a q.2.1, q.2.2⟩
      | prt => exact ⟨fun z => z.elim q.1 (nAF a q.2).2, nA a q.2⟩
      | brw => exact q
      | fzn => exact ⟨fun z => z.elim q.1 (nAF a q.2).2, nA a q.2⟩) n1 (fun a ha => here a (List.mem_append_left _ ha))
    (fun a ha => ⟨here a (List.mem_append_right _ ha), fun m => n3 a m a ha rfl, r2.own_dom _ _ _ a ha⟩)
  rw [set_self hv] at st
  refine ⟨st, r2.mono (Ext.refl _) fun g a _ n d q => ?_, n2, fun a ha => ?_⟩
  · have nn : ¬ AF (Aw fp) F a → ¬ AF (Aw (fset fp i F')) Fr a := fun h z => z.elim (nA a h) (nAF a h).2
    cases g with
    | own => trivial
    | shr => exact ⟨q.1, nn q.2.1, q.2.2⟩
    | prt => exact ⟨q.1, nn q.2⟩
    | brw => exact (show False from q).elim
    | fzn => exact ⟨q.1, nn q.2⟩
  · rcases mem a (List.mem_append_right _ ha) with z | z
    · exact ⟨(s.dis i a z).1, (s.dis i a z).2, s.own i a z⟩
    · exact s.fresh (f a z)
/-- writing at an own node keeps what has no part in it -/
theorem kp_upd {H : Hp} {b : Addr} {o o' : HO} (h : H b = some o) (h1 : ∀ xs, o ≠ .tup xs) (h2 : ∀ ob u, o ≠ .frz ob u) : Kp (fun a => a = b) H (upd H b o') :=
  ⟨fun a u e n => by rw [upd_ne n]; exact e, fun a xs w z => by rw [w, h] at z; exact h1 xs (Option.some.inj z), fun a ob u w z => by rw [w, h] at z; exact h2 ob u (Option.some.inj z)⟩
section
variable {K : PySem.W.Frag} {H : Hp} {O C A : Addr → Prop} {F : List Addr} {b : Addr} {o o' : HO}
theorem keepP (hA : A b) {g : Tg} {a : Addr} (n : g ≠ .own) (q : Pm O C (AF A F) Nz g a) : Pm O C (AF A F) Nz g a ∧ ¬ a = b := by
  refine ⟨q, fun z => ?_⟩
  subst z
  cases g with
  | own => exact n rfl
  | shr => exact q.2.1 (.inl hA)
  | prt => exact q.2 (.inl hA)
  | brw => exact q
  | fzn => exact q.2 (.inl hA)
theorem Rep.past {t : T} {v : V} {G : List Addr} (r : Rep K H (Pm O C (AF A F) Nz) t v G) (k : Kp (fun a => a = b) H (upd H b o')) (hA : A b) (hn : b ∉ G) : Rep K (upd H b o') (Pm O C (AF A F) Nz) t v G :=
  Rep.keep k t v G (fun g a _ n d q => keepP hA n q) (fun a ha z => hn (z ▸ ha)) r
theorem Reps.past {t : List T} {v : List V} {G : List Addr} (r : Reps K H (Pm O C (AF A F) Nz) t v G) (k : Kp (fun a => a = b) H (upd H b o')) (hA : A b) (hn : b ∉ G) : Reps K (upd H b o') (Pm O C (AF A F) Nz) t v G :=
  Reps.keep k t v G (fun g a _ n d q => keepP hA n q) (fun a ha z => hn (z ▸ ha)) r
theorem RepD.past {t : List (T × T)} {v : List (T × V)} {G : List Addr} (r : RepD K H (Pm O C (AF A F) Nz) t v G) (k : Kp (fun a => a = b) H (upd H b o')) (hA : A b) (hn : b ∉ G) : RepD K (upd H b o') (Pm O C (AF A F) Nz) t v G :=
  RepD.keep k t v G (fun g a _ n d q => keepP hA n q) (fun a ha z => hn (z ▸ ha)) r
end

/-! ### storing by place or key -/
def putT (kvs : List (T × T)) (k t : T) : List (T × T) :=
  if (kvs.any fun p => decide (kOf p.1 = kOf k)) = true then kvs.map fun p => if kOf p.1 = kOf k then (p.1, t) else p else kvs ++ [(k, t)]
def setT : T → T → T → Option T
  | .lst .own xs, .int n, t => (ixN xs.length n).map fun j => .lst .own (xs.set j t)
  | .dct .own kvs, k, t => if keyFit kvs k = true ∧ kvs.length < sizeLine then some (.dct .own (putT kvs k t)) else none
  | _, _, _ => none
/-- what a store at a[y] makes of the heap -/
def SetX (H : Hp) (a : Addr) (y v : V) (o' : HO) : Prop :=
  (∃ xs k j, y = .int k ∧ H a = some (.lst xs) ∧ ixN xs.length k = some j ∧ o' = .lst (xs.set j v)) ∨ DPut H a y v (upd H a o') ∨
  ∃ (b : Addr) (ks : List Key), H a = some (.dK []) ∧ y = .ref b ∧ H b = some (.tup (ks.map kV)) ∧ o' = .dT [(ks, v)]
theorem redub {X : Cx} {pins : List (Addr × Obj)} {σ : L2.St} {H : Hp} {s : Shared} {a : Addr} (I : Inv X pins σ H s) (e : H a = some (.dK [])) : Inv X pins σ (upd H a (.dT [])) s := by
  have mu : Mut (H a) := by rw [e]; trivial
  have dd := (empty_dt I (.inl e)).2
  obtain ⟨ob, hob⟩ := id dd
  have h1 : ∃ u, s.heap.get? a = some u := ⟨ob, hob.elim fun _ z => z.elim fun _ z => z.1⟩
  have new : ObjOk X.prog X.w (upd H a (.dT [])) s.heap a (.dT []) := by
    obtain ⟨o, es, ep, h1, h2, h3, h4, _, _⟩ := dd
    exact ⟨Nat.zero_le _, (empty_dt I (.inl e)).1, [], .nil, o, es, ep, h1, h2, h3, h4, List.nodup_nil⟩
  have := I.un (h' := s.heap) (t' := s.toks) (Un.write (o := .dT []) mu (.inl rfl) (fun _ _ _ q => q) h1) (I.hok.write mu (.inl rfl) (fun _ _ _ q => q) h1 new)
  exact this
theorem x_set {X : Cx} {pins : List (Addr × Obj)} {σ : L2.St} {H : Hp} {s : Shared} {a : Addr} {y v : V} {o' : HO} {iv r : Value} {Q : Unit → Shared → Prop} (hu : X.A.units + 1 < cLine) (I : Inv X pins σ H s) (g : SetX H a y v o') (ry : RelV y iv) (rv : RelV v r) (h : ∀ s', Inv X pins σ (upd H a o') s' → Q () s') :
    wpAny (model X.prog X.w) X.A (setItem (.ref a) iv r) Q X.xe s := by
  rcases g with ⟨xs, k, j, rfl, e, hj, rfl⟩ | g | ⟨b, ks, e, rfl, hb, rfl⟩
  · exact thn (set_list pins s σ H (.ref a) (.int k) v (.ref a) iv r _ I rfl ry rv ⟨a, xs, k, j, rfl, rfl, e, hj, (rfl : upd H a _ = upd H a _)⟩) fun _ s' ⟨H', I', e'⟩ => by subst e'; exact h s' I'
  · exact d_setItem hu I g ry rv h
  · refine d_setItem hu (redub I e) (.inr ⟨[], ks, b, upd_same, rfl, by rw [upd_ne (ne_of hb e (fun z => nomatch z))]; exact hb, Nat.lt_of_lt_of_le Nat.zero_lt_one (sz1000 (by omega)), rfl⟩) ry rv fun s' I' => h s' ?_
    rw [upd_upd] at I'; exact I'
def sXPut (td ty tv : TE) : TS := fun D σ H => tv σ H fun v H1 => td σ H1 fun x H2 => ty σ H2 fun y H3 => ∃ a o', x = .ref a ∧ SetX H3 a y v o' ∧ D.nx σ (upd H3 a o')
theorem ps_xput {X : Cx} {o i value : Expr} {td ty tv : TE} {pos pos' : Pos} (hu : X.A.units + 1 < cLine) (ho : PE X o td) (hi : PE X i ty) (hv : PE X value tv) (hs : swapsWith value (some (.Subscript o i pos')) pos.line X.env = pure false := by rfl) :
    PS X (.Assign [.Subscript o i pos'] value pos) (sXPut td ty tv) := by
  refine ⟨fun pins s σ H D I h => ?_⟩
  refine wpAny_Assign_Subscript (thn (hv.run pins s σ H _ I h) fun r s1 ⟨v, H1, I1, rv, q1⟩ => thn (ho.run pins s1 σ H1 _ I1 q1) fun u s2 ⟨x, H2, I2, rx, q2⟩ => thn (hi.run pins s2 σ H2 _ I2 q2) fun iv s3 ⟨y, H3, I3, ry, a, o', ex, g, q3⟩ => ?_) hs
  subst ex
  obtain rfl : u = Value.ref a := rx
  exact x_set hu I3 g ry rv fun s4 I4 => ⟨σ, _, I4, q3⟩
theorem reps_set {K : PySem.W.Frag} {H : Hp} {P : Al} : ∀ {ts : List T} {vs : List V} {G : List Addr} {j : Nat} {t : T} {v : V} {F : List Addr}, Reps K H P ts vs G → Rep K H P t v F → ∃ G', Reps K H P (ts.set j t) (vs.set j v) G' ∧ Le G' (G ++ F)
  | [], _, G, j, t, v, F, ⟨e, e'⟩, r => by subst e; exact ⟨G, ⟨rfl, e'⟩, Le.of_sub (List.sublist_append_left _ _)⟩
  | u :: ts, _, G, 0, t, v, F, ⟨w', r, F1, F2, e, e', c, d⟩, rt => by
    subst e; subst e'
    refine ⟨F ++ F2, ⟨v, r, F, F2, rfl, rfl, rt, d⟩, fun a => ?_⟩
    simp only [List.count_append]; omega
  | u :: ts, _, G, j + 1, t, v, F, ⟨w', r, F1, F2, e, e', c, d⟩, rt => by
    subst e; subst e'
    obtain ⟨G', h1, h2⟩ := reps_set (j := j) d rt
    refine ⟨F1 ++ G', ⟨w', r.set j v, F1, G', rfl, rfl, c, h1⟩, ?_⟩
    rw [List.append_assoc]; exact (Le.refl F1).append h2
section
variable {K : PySem.W.Frag} {H : Hp} {P : Al} {κ : Type} [DecidableEq κ] {em : κ → T}
/-- the pairs of a dict behind a store -/
theorem repD_put (he : ∀ a b : κ, kOf (em a) = kOf (em b) ↔ a = b) : ∀ (ks : List (κ × V)) {kvs : List (T × T)} {G : List Addr} (k : κ) {t : T} {v : V} {F : List Addr}, RepD K H P kvs (ks.map fun p => (em p.1, p.2)) G → (ks.map (·.1)).Nodup → Rep K H P t v F →
    ∃ G', RepD K H P (putT kvs (em k) t) ((putK ks k v).map fun p => (em p.1, p.2)) G' ∧ Le G' (G ++ F) := by
  intro ks kvs G k t v F r nk rt
  -- replaced or not
  have rep : ∀ (ks : List (κ × V)) {kvs : List (T × T)} {G : List Addr}, RepD K H P kvs (ks.map fun p => (em p.1, p.2)) G → (ks.map (·.1)).Nodup → ∃ G', RepD K H P (kvs.map fun p => if kOf p.1 = kOf (em k) then (p.1, t) else p) ((ks.map fun kv => if kv.1 = k then (kv.1, v) else kv).map fun p => (em p.1, p.2)) G' ∧ Le G' (G ++ F) ∧
      ((kvs.any fun p => decide (kOf p.1 = kOf (em k))) = (ks.any fun kv => decide (kv.1 = k))) ∧ (k ∉ ks.map (·.1) → Le G' G) := by
    intro ks
    induction ks with
    | nil =>
      intro kvs G r _
      cases kvs with
      | nil => exact ⟨G, r, Le.of_sub (List.sublist_append_left _ _), rfl, fun _ => Le.refl _⟩
      | cons p kvs => obtain ⟨kk, tt⟩ := p; obtain ⟨_, _, _, _, e, _⟩ := r; cases e
    | cons p ks ih =>
      intro kvs G r nk
      obtain ⟨k0, v0⟩ := p
      cases kvs with
      | nil => obtain ⟨e, _⟩ := r; cases e
      | cons q kvs =>
        obtain ⟨kk, tt⟩ := q
        obtain ⟨w', rr, F1, F2, e, e', c, d⟩ := r
        simp only [List.map_cons, List.cons.injEq, Prod.mk.injEq] at e
        obtain ⟨⟨rfl, rfl⟩, rfl⟩ := e
        subst e'
        simp only [List.map_cons] at nk
        obtain ⟨nk1, nk2⟩ := List.nodup_cons.mp nk
        obtain ⟨G', h1, h2, h3, h4⟩ := ih d nk2
        by_cases q : k0 = k
        · subst q
          have e1 : (((em k0, tt) :: kvs).map fun p => if kOf p.1 = kOf (em k0) then (p.1, t) else p) = (em k0, t) :: (kvs.map fun p => if kOf p.1 = kOf (em k0) then (p.1, t) else p) := by simp
          have e2 : (((k0, v0) :: ks).map fun kv => if kv.1 = k0 then (kv.1, v) else kv) = (k0, v) :: (ks.map fun kv => if kv.1 = k0 then (kv.1, v) else kv) := by simp
          rw [e1, e2]
          refine ⟨F ++ G', ⟨v, _, F, G', rfl, rfl, rt, h1⟩, ?_, by simp, fun hn => absurd (by simp) hn⟩
          have := h4 nk1
          intro a
          have := this a
          simp only [List.count_append]; omega
        · have q' : ¬ kOf (em k0) = kOf (em k) := fun z => q ((he _ _).mp z)
          have e1 : (((em k0, tt) :: kvs).map fun p => if kOf p.1 = kOf (em k) then (p.1, t) else p) = (em k0, tt) :: (kvs.map fun p => if kOf p.1 = kOf (em k) then (p.1, t) else p) := by simp [q']
          have e2 : (((k0, v0) :: ks).map fun kv => if kv.1 = k then (kv.1, v) else kv) = (k0, v0) :: (ks.map fun kv => if kv.1 = k then (kv.1, v) else kv) := by simp [q]
          rw [e1, e2]
          refine ⟨F1 ++ G', ⟨v0, _, F1, G', rfl, rfl, c, h1⟩, by rw [List.append_assoc]; exact (Le.refl F1).append h2, by simp [q, q', h3], fun hn => (Le.refl F1).append (h4 fun m => hn (by simp [m]))⟩
  obtain ⟨G', h1, h2, h3, h4⟩ := rep ks r nk
  unfold putT putK
  rw [h3]
  by_cases c : (ks.any fun kv => decide (kv.1 = k)) = true
  · rw [if_pos c, if_pos c]; exact ⟨G', h1, h2⟩
  · rw [if_neg c, if_neg c]
    have app : ∀ (ks : List (κ × V)) {kvs : List (T × T)} {G : List Addr}, RepD K H P kvs (ks.map fun p => (em p.1, p.2)) G → RepD K H P (kvs ++ [(em k, t)]) ((ks ++ [(k, v)]).map fun p => (em p.1, p.2)) (G ++ F) := by
      intro ks
      induction ks with
      | nil =>
        intro kvs G r
        cases kvs with
        | nil => obtain ⟨_, rfl⟩ := r; exact ⟨v, [], F, [], rfl, by simp, rt, rfl, rfl⟩
        | cons p kvs => obtain ⟨kk, tt⟩ := p; obtain ⟨_, _, _, _, e, _⟩ := r; cases e
      | cons p ks ih =>
        intro kvs G r
        obtain ⟨k0, v0⟩ := p
        cases kvs with
        | nil => obtain ⟨e, _⟩ := r; cases e
        | cons q kvs =>
          obtain ⟨kk, tt⟩ := q
          obtain ⟨w', rr, F1, F2, e, e', c, d⟩ := r
          simp only [List.map_cons, List.cons.injEq, Prod.mk.injEq] at e
          obtain ⟨⟨rfl, rfl⟩, rfl⟩ := e
          subst e'
          exact ⟨v0, _, F1, F2 ++ F, rfl, by rw [List.append_assoc], c, ih d⟩
    exact ⟨G ++ F, app ks r, Le.refl _⟩
end

theorem keys_put {κ : Type} [DecidableEq κ] {ks : List (κ × V)} {k : κ} {v : V} (h : (ks.map (·.1)).Nodup) : ((putK ks k v).map (·.1)).Nodup := by
  unfold putK
  by_cases c : (ks.any fun kv => decide (kv.1 = k)) = true
  · rw [if_pos c]
    have : ((ks.map fun kv => if kv.1 = k then (kv.1, v) else kv).map (·.1)) = ks.map (·.1) := by
      rw [List.map_map]; refine List.map_congr_left fun p _ => ?_
      show (if p.1 = k then (p.1, v) else p).1 = p.1
      split <;> rfl
    rw [this]; exact h
  · rw [if_neg c, List.map_append]
    refine List.nodup_append.mpr ⟨h, by simp, fun a ha b hb e => ?_⟩
    simp only [List.map_cons, List.map_nil, List.mem_singleton] at hb
    subst hb; subst e
    obtain ⟨p, hp, rfl⟩ := List.mem_map.mp ha
    exact c (List.any_eq_true.mpr ⟨p, hp, by simp⟩)
theorem kT_inj (a b : Key) : kOf (kT a) = kOf (kT b) ↔ a = b := by rw [kOf_kT, kOf_kT]; simp
theorem tT_inj (a b : List Key) : kOf (tT a) = kOf (tT b) ↔ a = b := by rw [kOf_tT, kOf_tT]; simp
theorem map_ne_nil {α β : Type} {f : α → β} {l : List α} (h : l ≠ []) : l.map f ≠ [] := fun z => h (List.map_eq_nil_iff.mp z)
theorem putK_ne {κ : Type} [DecidableEq κ] {ks : List (κ × V)} {k : κ} {v : V} (h : ks ≠ []) : putK ks k v ≠ [] := by
  unfold putK; split
  · exact map_ne_nil h
  · simp
/-- an own container behind a store -/
theorem set_ok {K : PySem.W.Frag} {H : Hp} {P : Al} {c k t c' : T} {a : Addr} {y v : V} {L Fk F : List Addr} {Pk : Al} (rc : Rep K H P c (.ref a) L) (rk : Rep K H Pk k y Fk) (rt : Rep K H P t v F) (e : setT c k t = some c') :
    ∃ G, L = a :: G ∧ (∃ o, H a = some o ∧ (∀ xs, o ≠ .tup xs) ∧ ∀ ob u, o ≠ .frz ob u) ∧ ∃ o' G', SetX H a y v o' ∧ Le G' (G ++ F) ∧ ((∃ ts vs, c' = .lst .own ts ∧ o' = .lst vs ∧ Reps K H P ts vs G') ∨ ∃ kvs es, c' = .dct .own kvs ∧ DIs o' es ∧ RepD K H P kvs es G') := by
  cases c with
  | lst g xs =>
    cases g with
    | own =>
      obtain ⟨a', vs, G, ea, l, fp, r⟩ := rc
      cases ea
      have fp : L = a :: G := fp
      have l : H a = some (.lst vs) := l
      cases k with
      | int n =>
        simp only [setT] at e
        obtain ⟨rfl, _⟩ := rk
        cases q : ixN xs.length n with
        | none => rw [q] at e; cases e
        | some j =>
          rw [q] at e
          simp only [Option.map_some, Option.some.injEq] at e; subst e
          obtain ⟨G', h1, h2⟩ := reps_set (j := j) r rt
          exact ⟨G, fp, ⟨_, l, (fun _ z => nomatch z), (fun _ _ z => nomatch z)⟩, .lst (vs.set j v), G', .inl ⟨vs, n, j, rfl, l, by rw [← r.length]; exact q, rfl⟩, h2, .inl ⟨_, _, rfl, rfl, h1⟩⟩
      | _ => simp [setT] at e
    | _ => cases k <;> simp [setT] at e
  | dct g kvs =>
    cases g with
    | own =>
      obtain ⟨a', es, G, ea, l, fp, r⟩ := rc
      cases ea
      have fp : L = a :: G := fp
      obtain ⟨o, ho, d⟩ := l
      have hk := repD_keys r
      have hlen : kvs.length = es.length := by have := congrArg List.length hk; simpa using this
      simp only [setT] at e
      split at e
      · rename_i cc
        simp only [Option.some.injEq] at e; subst e
        have f := cc.1
        simp only [keyFit, Bool.or_eq_true, Bool.and_eq_true, List.all_eq_true] at f
        rcases f with ⟨f1, f2⟩ | ⟨f1, f2⟩
        · obtain ⟨key, rfl⟩ := isK_inv f1
          have hy := rep_kT rk
          subst hy
          rcases d with ⟨ks, rfl, nk, rfl⟩ | ⟨ks, rfl, ne, nk, rfl⟩
          · obtain ⟨G', h1, h2⟩ := repD_put kT_inj ks key r nk rt
            exact ⟨G, fp, ⟨_, ho, (fun _ z => nomatch z), (fun _ _ z => nomatch z)⟩, .dK (putK ks key v), G', .inr (.inl (.inl ⟨ks, key, ho, rfl, by have := cc.2; rw [hlen] at this; simpa using this, rfl⟩)), h2, .inr ⟨_, _, rfl, .inl ⟨_, rfl, keys_put nk, rfl⟩, h1⟩⟩
          · exfalso
            cases ks with
            | nil => exact ne rfl
            | cons p ks =>
              cases kvs with
              | nil => cases hk
              | cons q kvs =>
                simp only [List.map_cons, List.cons.injEq] at hk
                have := f2 q (by simp)
                rw [hk.1] at this
                simp [isK, kOf_tT] at this
        · obtain ⟨key, rfl⟩ := isKs_inv f1
          obtain ⟨b, rfl, hb⟩ := rep_tT rk
          rcases d with ⟨ks, rfl, nk, rfl⟩ | ⟨ks, rfl, ne, nk, rfl⟩
          · cases ks with
            | nil =>
              cases kvs with
              | nil =>
                obtain ⟨_, rfl⟩ := r
                exact ⟨[], fp, ⟨_, ho, (fun _ z => nomatch z), (fun _ _ z => nomatch z)⟩, .dT [(key, v)], F, .inr (.inr ⟨b, key, ho, rfl, hb, rfl⟩), Le.refl _, .inr ⟨putT [] (tT key) t, [(tT key, v)], rfl, .inr ⟨[(key, v)], rfl, by simp, by simp, rfl⟩, ⟨v, [], F, [], rfl, by simp, rt, rfl, rfl⟩⟩⟩
              | cons q kvs => cases hk
            | cons p ks =>
              cases kvs with
              | nil => cases hk
              | cons q kvs =>
                exfalso
                simp only [List.map_cons, List.cons.injEq] at hk
                have := f2 q (by simp)
                rw [hk.1] at this
                simp [isKs, kOf_kT] at this
          · obtain ⟨G', h1, h2⟩ := repD_put tT_inj ks key r nk rt
            exact ⟨G, fp, ⟨_, ho, (fun _ z => nomatch z), (fun _ _ z => nomatch z)⟩, .dT (putK ks key v), G', .inr (.inl (.inr ⟨ks, key, b, ho, rfl, hb, by have := cc.2; rw [hlen] at this; simpa using this, rfl⟩)), h2, .inr ⟨_, _, rfl, .inr ⟨_, rfl, putK_ne ne, keys_put nk, rfl⟩, h1⟩⟩
      · cases e
    | _ => cases k <;> simp [setT] at e
  | _ => cases k <;> simp [setT] at e
/-- x[k] = e, x a name that owns -/
def putS (i : Nat) (fk fe : FE) : FS := fun env => match env[i]? with
  | some (some c) => bS env (fe env) fun t => bS env (fk env) fun k => if t.has .brw = false then (match setT c k t with | some c' => .nx (env.set i (some c')) | none => .bad) else .bad
  | _ => .bad
section
variable {X : Cx} {ec : Nat → Addr} {W : WX} {k e : Expr} {fk fe : FE} {pos pos' xp : Pos} {x : Str}
theorem DS.put (i : Nat) (hu : X.A.units + 1 < cLine) (hk : DE X ec W k fk) (he : DE X ec W e fe) (hN : X.N[i]? = some x := by rfl) (hv : Vis X.env.scope x := by first | exact Or.inl rfl | exact Or.inr (Or.inl rfl) | exact Or.inr (Or.inr rfl)) (hd : (x == ("__debug__" : Str)) = false := by decide) (hcd : (x == ("__classdict__" : Str)) = false := by decide)
    (hs : swapsWith e (some (.Subscript (.Name x xp) k pos')) pos.line X.env = pure false := by rfl) : DS X ec W (.Assign [.Subscript (.Name x xp) k pos'] e pos) (putS i fk fe) := by
  refine ⟨ps_mono (ps_xput hu (pe_var (i := i) hN hv hd hcd) hk.run he.run hs) fun D σ H ⟨B, env, fp, s, h⟩ => ?_⟩
  unfold putS at h
  cases ev : env[i]? with
  | none => rw [ev] at h; exact h.elim
  | some oc =>
    cases oc with
    | none => rw [ev] at h; exact h.elim
    | some c =>
      rw [ev] at h
      dsimp only at h
      have hi : i < env.length := (List.getElem?_eq_some_iff.mp ev).1
      obtain ⟨v0, hv0, rs⟩ := s.slot i c ev
      refine tD.atStmt s h fun v t F H1 e1 r n f p => ⟨v0, hv0, ?_⟩
      have s1 : Sta X.K { B with O := fun a => B.O a ∨ a ∈ F } env σ H1 fp := s.push e1 fun a ha => ⟨f a ha, r.own_dom _ _ _ a ha⟩
      refine ⟨_, env, fp, s1, ?_⟩
      cases qk : fk env with
      | exc cc => rw [qk] at p; exact fun H' x2 => p σ H' fp (s.grow (e1.trans x2))
      | bad => rw [qk] at p; exact p
      | ok kk =>
        rw [qk] at p
        intro y H2 Fk e2 rk nk fk2
        simp only [bS_ok] at p
        by_cases hb : t.has .brw = false
        · rw [if_pos hb] at p
          cases qs : setT c kk t with
          | none => rw [qs] at p; exact p.elim
          | some c' =>
            rw [qs] at p
            have ex : Ext H H2 := e1.trans e2
            -- the container, the value, at H2
            have hr : Rep X.K H2 (Pm B.O B.C (AF (Aw fp) F) Nz) c v0 (fp i) := rs.mono ex fun g a _ _ d p => Pm.to id (fun z => z.elim id fun m => absurd (f a m) d) id p
            have hcell : ∃ a, v0 = .ref a := by
              cases c with
              | lst g xs => obtain ⟨a, _, _, e, _⟩ := rs; exact ⟨a, e⟩
              | dct g xs => obtain ⟨a, _, _, e, _⟩ := rs; exact ⟨a, e⟩
              | _ => cases kk <;> simp [setT] at qs
            obtain ⟨a, rfl⟩ := hcell
            have rt : Rep X.K H2 (Pm B.O B.C (AF (Aw fp) F) Nz) t v F := (noBrw hb r).ext e2
            obtain ⟨G, hL, ⟨o, ho, ho1, ho2⟩, o', G', sx, le, kids⟩ := set_ok hr rk rt qs
            have ha : a ∈ fp i := by rw [hL]; exact List.mem_cons_self
            have hA : Aw fp a := ⟨i, ha⟩
            have ndL : (a :: G).Nodup := by rw [← hL]; exact s.nd i
            have aF : a ∉ F := fun m => s.odom hA (f a m)
            have aG' : a ∉ G' := fun m => (List.mem_append.mp (le.mem m)).elim (List.nodup_cons.mp ndL).1 aF
            have kp := kp_upd (o' := o') ho ho1 ho2
            have r1 : Rep X.K (upd H2 a o') (Pm B.O B.C (AF (Aw fp) F) Nz) c' (.ref a) (a :: G') := by
              rcases kids with ⟨ts, vs, rfl, rfl, rr⟩ | ⟨kvs, es, rfl, d, rr⟩
              · exact ⟨a, vs, G', rfl, upd_same, rfl, rr.past kp hA aG'⟩
              · exact ⟨a, es, G', rfl, ⟨o', upd_same, d⟩, rfl, rr.past kp hA aG'⟩
            obtain ⟨st, _⟩ := s.update (t' := c') (res := .non) (vr := .non) (F := F) (Fr := []) ex hi ha hv0 n f r1 ⟨rfl, rfl⟩ (by rw [List.append_nil, hL]; intro b; have := le b; simp only [List.cons_append, List.count_cons, List.count_append] at *; omega)
            exact ⟨a, o', rfl, sx, p σ _ _ (st.unhide fun _ z => .inl z)⟩
        · rw [if_neg hb] at p; exact p.elim
/-- {} -/
theorem DE.dnew : DE X ec W (.Dict [] [] pos) (fun _ => .ok (.dct .own [])) :=
  ⟨pe_mono pe_dnewK fun σ H Q ⟨B, env, fp, s, h⟩ p hp => h (.ref p) _ [p] (Ext.new hp) ⟨p, [], [], rfl, ⟨_, upd_same, .inl ⟨[], rfl, by simp, rfl⟩⟩, rfl, rfl, rfl⟩ (by simp) (by simp [hp])⟩
/-- dict(d) -/
def dictT : List T → Option T
  | [.dct _ kvs] => if (kvs.all fun q => isK q.1) = true then some (.dct .own kvs) else none
  | _ => none
theorem call_dictD {X : Cx} : CallR X (.type "dict") (fun xs H Q => ∃ a kvs, xs = [.ref a] ∧ Rd H a (.dK kvs) ∧ ∀ p, H p = none → Q (.ref p) (upd H p (.dK kvs))) := fun pins s σ H xs us Q I r h => by
  obtain ⟨a, kvs, rfl, rd, q⟩ := h
  have := Vals.ref1 r
  subst this
  exact d_copyOf I rd fun p s' hp I' => ⟨.ref p, _, I', rfl, q p hp⟩
theorem RepD.more {K : PySem.W.Frag} {H H1 : Hp} {F G : List Addr} {O C A Z : Addr → Prop} {t : List (T × T)} {v : List (T × V)} {L : List Addr} (e : Ext H H1) (r : RepD K H (Pm O C (AF A F) Z) t v L) (hg : ∀ a ∈ G, a ∈ F ∨ H a = none) :
    RepD K H1 (Pm O C (AF A G) Z) t v L :=
  RepD.keep e.kp t v L (fun g a _ _ d p => ⟨Pm.to id (fun z => z.elim .inl fun m => (hg a m).elim .inr fun z => absurd z d) id p, fun z => z⟩) (fun _ _ z => z) r
theorem DE.dict_ {e : Expr} {es : List Expr} {fs : EnvT → R (List T)} {p : Pos} (hl : Gl X "dict") (hm : X.mg "dict" = none) (ha : DA X ec W (e :: es) fs) (he : starEach (e :: es) X.env = (false, eval e X.env) :: starEach es X.env := by rfl) (hpl : (backTo pos (starEach es X.env)).any (·.1) = false := by rfl) : DE X ec W (.Call (.Name "dict" p) (e :: es) [] pos) (ap dictT fs) := by
  refine DE.callT call_dictD (fun H O C A vs ts F Q t cz r e h => ?_) hl hm (by decide +kernel) ha (by decide) (by decide) he hpl
  rcases ts with _ | ⟨t1, _ | ⟨t2, ts⟩⟩
  · simp [dictT] at e
  · obtain ⟨v, r', F1, F2, rfl, rfl, c, d⟩ := r
    obtain ⟨rfl, rfl⟩ := d
    cases t1 with
    | dct g kvs =>
      obtain ⟨a, es, G, rfl, l, p, r⟩ := c
      simp only [dictT] at e
      split at e
      · rename_i q; simp only [Option.some.injEq] at e; subst e
        obtain ⟨o, rd, d⟩ := l.rd
        obtain ⟨ks, rfl, hl, rfl, nk⟩ := repD_dk r d q
        refine ⟨a, ks, rfl, rd, fun p1 hp1 => h (.ref p1) _ (p1 :: G) (Ext.new hp1) ⟨p1, _, G, rfl, ⟨_, upd_same, .inl ⟨ks, rfl, nk, rfl⟩⟩, rfl, r.more (Ext.new hp1) (fun b hb => (List.mem_cons.mp hb).elim (fun z => .inr (z ▸ hp1)) fun m => .inl (by simpa using p.sublist.subset m))⟩ ?_ fun b hb => (List.mem_cons.mp hb).elim (fun z => .inl (z ▸ hp1)) fun m => .inr (by simpa using p.sublist.subset m)⟩
        exact List.nodup_cons.mpr ⟨fun m => RepD.own_dom _ _ _ r p1 m hp1, cz.nd.sublist (by simpa using p.sublist)⟩
      · cases e
    | _ => simp [dictT] at e
  · cases t1 <;> simp [dictT] at e
/-- d.get(k, z), d no passing value -/
def getT (d k z : T) : Option T := match d with
  | .dct _ kvs => if keyFit kvs k = true then some ((lookT kvs k).getD z) else none
  | _ => none
def isDv : T → Bool
  | .dct g _ => decide (g ≠ .own)
  | _ => false
def getF (fd fk fz : FE) : FE := fun env => do let d ← fd env; if isDv d = true then do let k ← fk env; let z ← fz env; R.ofO (getT d k z) else .bad
theorem DE.get2 {o k z : Expr} {fd fk fz : FE} {apos cpos : Pos} (hu : X.A.units + 1 < cLine) (ho : DE X ec W o fd) (hk : DE X ec W k fk) (hz : DE X ec W z fz) (m : M2 X o "get" apos k z cpos := by exact ⟨rfl, rfl, rfl, rfl⟩) : DE X ec W (.Call (.Attribute o "get" apos) [k, z] [] cpos) (getF fd fk fz) := by
  refine ⟨pe_mono (pe_xget2 hu ho.run hk.run hz.run m) fun σ H Q ⟨B, env, fp, s, h⟩ => ?_⟩
  unfold getF at h
  refine tD.one (k := fun d => if isDv d = true then do let k ← fk env; let z ← fz env; R.ofO (getT d k z) else .bad) (Q := Q) s h fun x td Fd H1 e1 rd nd fd1 _ p => ?_
  by_cases c : isDv td = true
  · rw [if_pos c] at p
    cases td with
    | dct g kvs =>
      have hg : g ≠ .own := by simpa [isDv] using c
      obtain ⟨a, es, G, rfl, l, fpp, r⟩ := rd
      have hF : G = [] ∧ Fd = [] := by cases g <;> first | exact absurd rfl hg | exact fpp
      obtain ⟨rfl, rfl⟩ := hF
      obtain ⟨o', rd', d⟩ := l.rd
      refine ⟨a, rfl, ?_, ?_⟩
      · rcases d with ⟨ks, rfl, _⟩ | ⟨ks, rfl, _⟩
        · exact .inl ⟨ks, rd'⟩
        · exact .inr ⟨ks, rd'⟩
      · refine tD.twoAt (k := fun k z => R.ofO (getT (.dct g kvs) k z)) (Q := Q) (s.grow e1) (p.ext e1) fun y w' ty tw Fy Fw H2 e2 ry rw' n f _ _ p2 => ?_
        have ex : Ext H H2 := e1.trans e2
        by_cases kf : keyFit kvs ty = true
        · simp only [getT, kf, if_true, R.ofO_some] at p2
          have r2 : RepD X.K H2 (Pm B.O B.C (AF (Aw fp) (Fy ++ Fw)) (Aw fp)) kvs es [] := by
            refine RepD.more e2 r fun b hb => .inr (f b hb)
          have rd2 : Rd H2 a o' := by
            rcases rd' with q | ⟨ob, q⟩
            · exact .inl (e2 a _ q)
            · exact .inr ⟨ob, e2 a _ q⟩
          have fin := Post.fin (F := Fy ++ Fw) p2 e2 f
          have cz := (s.grow e1).cz e2 n f
          rcases look_ok rd2 d r2 ry kf with ⟨t, v, G', h1, h2, h3, h4⟩ | ⟨h1, h2⟩
          · rw [h1] at fin
            exact ⟨_, .inl h2, fin.same cz h3 (h4.trans (List.nil_sublist _))⟩
          · rw [h1] at fin
            exact ⟨_, h2, fin.same cz rw' (List.sublist_append_right _ _)⟩
        · simp only [getT, kf] at p2; exact p2.elim
    | _ => simp [isDv] at c
  · rw [if_neg c] at p; exact p.elim
end

/-! ### giving up what is owned -/
theorem Sta.freeze {K : PySem.W.Frag} {B : Bx} {env : EnvT} {σ : L2.St} {H : Hp} {fp : Fps} {i : Nat} {t : T} (s : Sta K B env σ H fp) (e : env[i]? = some (some t)) : Sta K B (env.set i (some (t.tag frze))) σ H (fset fp i []) := by
  have hi : i < env.length := (List.getElem?_eq_some_iff.mp e).1
  have sub : ∀ a, Aw (fset fp i []) a → Aw fp a := fun a ⟨j, hj⟩ => by
    by_cases c : j = i
    · subst c; rw [fset_same] at hj; simp at hj
    · rw [fset_ne c] at hj; exact ⟨j, hj⟩
  refine ⟨by simpa using s.len, fun j u eu => ?_, fun j ej => ?_, fun j => ?_, fun j l a hjl ha hb => ?_, s.ext, fun j a ha => ?_, s.dom, fun j a ha => ?_⟩
  · by_cases c : j = i
    · subst c
      rw [List.getElem?_set_self hi] at eu
      cases eu
      obtain ⟨v, hv, r⟩ := s.slot j t e
      refine ⟨v, hv, ?_⟩
      rw [fset_same]
      refine Rep.tagN (f := frze) (fun g => by cases g <;> simp [frze]) ⟨rfl, fun g => by cases g <;> simp [frze], fun g => by cases g <;> simp [frze]⟩ (fun g a n p => ?_) t v _ (fun b hb => ?_) r
      · cases g with
        | own => exact absurd rfl n
        | shr => exact ⟨p.1, fun z => p.2.1 (sub a z), p.2.2⟩
        | prt => exact ⟨p.1, fun z => p.2 (sub a z)⟩
        | brw => exact p
        | fzn => exact ⟨p.1, fun z => p.2 (sub a z)⟩
      · refine ⟨(s.dis j b hb).1, fun ⟨l, hl⟩ => ?_, (s.dis j b hb).2⟩
        by_cases d : l = j
        · subst d; rw [fset_same] at hl; simp at hl
        · rw [fset_ne d] at hl; exact s.dj j l b (Ne.symm d) hb hl
    · rw [List.getElem?_set_ne (Ne.symm c)] at eu
      obtain ⟨v, hv, r⟩ := s.slot j u eu
      refine ⟨v, hv, ?_⟩
      rw [fset_ne c]
      exact r.mono (Ext.refl _) fun g a _ _ _ p => Pm.to id (sub a) id p
  · by_cases c : j = i
    · subst c; rw [fset_same]
    · rw [fset_ne c]; exact s.emp j fun u z => ej u (by rw [List.getElem?_set_ne (Ne.symm c)]; exact z)
  · by_cases c : j = i
    · subst c; rw [fset_same]; exact List.nodup_nil
    · rw [fset_ne c]; exact s.nd j
  · by_cases c : j = i
    · subst c; rw [fset_same] at ha; simp at ha
    · rw [fset_ne c] at ha
      by_cases d : l = i
      · subst d; rw [fset_same] at hb; simp at hb
      · rw [fset_ne d] at hb; exact s.dj j l a hjl ha hb
  · by_cases c : j = i
    · subst c; rw [fset_same] at ha; simp at ha
    · rw [fset_ne c] at ha; exact s.own j a ha
  · by_cases c : j = i
    · subst c; rw [fset_same] at ha; simp at ha
    · rw [fset_ne c] at ha; exact s.dis j a ha
def freezeV (i : Nat) (env : EnvT) : EnvT := match env[i]? with
  | some (some t) => env.set i (some (t.tag frze))
  | _ => env
/-- ahead of a block: name i no longer owns -/
theorem DSs.freeze {X : Cx} {ec : Nat → Addr} {W : WX} {sts : List Stmt} {f : FS} (i : Nat) (h : DSs X ec W sts f) : DSs X ec W sts (fun env => f (freezeV i env)) := by
  refine ⟨pss_mono h.run fun D σ H ⟨B, env, fp, s, p⟩ => ?_⟩
  unfold freezeV at p
  dsimp only at p
  cases e : env[i]? with
  | none => rw [e] at p; exact ⟨B, env, fp, s, p⟩
  | some o =>
    cases o with
    | none => rw [e] at p; exact ⟨B, env, fp, s, p⟩
    | some t => rw [e] at p; exact ⟨B, _, _, s.freeze e, p⟩
end VS

namespace VS
open PySem PySem.Spec L2
open PyProof.Rows hiding St

/-! ### slices -/
def cutT {α : Type} (xs : List α) (lo hi : Option Int) : List α := (xs.drop (HT.sIx xs.length 0 lo)).take (HT.sIx xs.length xs.length hi - HT.sIx xs.length 0 lo)
theorem reps_drop {K : PySem.W.Frag} {H : Hp} {P : Al} : ∀ {ts : List T} {vs : List V} {F : List Addr} (n : Nat), Reps K H P ts vs F → ∃ G, Reps K H P (ts.drop n) (vs.drop n) G ∧ G.Sublist F
  | ts, vs, F, 0, r => ⟨F, r, List.Sublist.refl _⟩
  | [], _, F, n + 1, ⟨e, e'⟩ => by subst e; exact ⟨F, ⟨rfl, e'⟩, List.Sublist.refl _⟩
  | t :: ts, _, F, n + 1, ⟨v, r, F1, F2, e, e', c, d⟩ => by
    subst e; subst e'
    obtain ⟨G, h1, h2⟩ := reps_drop n d
    exact ⟨G, h1, h2.trans (List.sublist_append_right _ _)⟩
theorem reps_take {K : PySem.W.Frag} {H : Hp} {P : Al} : ∀ {ts : List T} {vs : List V} {F : List Addr} (n : Nat), Reps K H P ts vs F → ∃ G, Reps K H P (ts.take n) (vs.take n) G ∧ G.Sublist F
  | ts, vs, F, 0, r => ⟨[], ⟨rfl, rfl⟩, List.nil_sublist _⟩
  | [], _, F, n + 1, ⟨e, e'⟩ => by subst e; exact ⟨F, ⟨rfl, e'⟩, List.Sublist.refl _⟩
  | t :: ts, _, F, n + 1, ⟨v, r, F1, F2, e, e', c, d⟩ => by
    subst e; subst e'
    obtain ⟨G, h1, h2⟩ := reps_take n d
    exact ⟨F1 ++ G, ⟨v, r.take n, F1, G, rfl, rfl, c, h1⟩, (List.Sublist.refl _).append h2⟩
theorem reps_cut {K : PySem.W.Frag} {H : Hp} {P : Al} {ts : List T} {vs : List V} {F : List Addr} (lo hi : Option Int) (r : Reps K H P ts vs F) : ∃ G, Reps K H P (cutT ts lo hi) (cutV vs lo hi) G ∧ G.Sublist F := by
  unfold cutT cutV
  rw [r.length]
  obtain ⟨G, h1, h2⟩ := reps_drop (HT.sIx vs.length 0 lo) r
  obtain ⟨G', h3, h4⟩ := reps_take (HT.sIx vs.length vs.length hi - HT.sIx vs.length 0 lo) h1
  exact ⟨G', h3, h4.trans h2⟩
def sliceT (t : T) (lo hi : Option Int) : Option T := match t with
  | .lst _ xs => some (.lst .own (cutT xs lo hi))
  | .tup xs => some (.tup (cutT xs lo hi))
  | .str z => if z.length ≤ sizeLine then some (.str (cutS z lo hi)) else none
  | _ => none
def rSl (K : PySem.W.Frag) : V → Option Int → Option Int → Hp → VK → Prop := fun x lo hi H Q => rSlL K x lo hi H Q ∨ rSlA K x lo hi H Q ∨ rSlS x lo hi H Q
theorem slice_ok {K : PySem.W.Frag} {H : Hp} {O C A : Addr → Prop} {x : V} {tx t : T} {F : List Addr} {Q : VK} {lo hi : Option Int} (cz : Cz H O C A F) (rx : Rep K H (Pm O C (AF A F) A) tx x F) (e : sliceT tx lo hi = some t) (h : Fin K H O C A F Q t) : rSl K x lo hi H Q := by
  cases tx with
  | lst g xs =>
    obtain ⟨a, vs, G, rfl, l, p, r⟩ := rx
    simp only [sliceT, Option.some.injEq] at e; subst e
    obtain ⟨G', h1, h2⟩ := reps_cut lo hi r
    exact .inl ⟨a, vs, rfl, l.sq, h.lst cz h1 (h2.trans p.sublist)⟩
  | tup xs =>
    obtain ⟨a, vs, rfl, l, r⟩ := rx
    simp only [sliceT, Option.some.injEq] at e; subst e
    obtain ⟨G', h1, h2⟩ := reps_cut lo hi r
    refine .inr (.inl ⟨a, vs, rfl, SqT.of l, fun z => ?_, fun _ => h.tup cz h1 h2⟩)
    have hl := r.length
    have : cutT xs lo hi = xs := by
      unfold cutT
      rw [hl, z.1, z.2, List.drop_zero, Nat.sub_zero, ← hl, List.take_length]
    rw [this] at h
    exact h.same cz (t := .tup xs) ⟨a, vs, rfl, l, r⟩ (List.Sublist.refl _)
  | str z =>
    obtain ⟨rfl, _⟩ := rx
    simp only [sliceT] at e
    split at e
    · rename_i c; simp only [Option.some.injEq] at e; subst e
      exact .inr (.inr ⟨z, rfl, c, h.str⟩)
    · cases e
  | _ => simp [sliceT] at e
/-- a slice's end -/
structure DP (X : Cx) (ec : Nat → Addr) (W : WX) (e : Option Expr) (f : EnvT → R (Option Int)) : Prop where
  ex : ∃ t, PO X e t ∧ ∀ {B : Bx} {env : EnvT} {σ : L2.St} {H : Hp} {fp : Fps} {Q : Option Int → Hp → Prop}, Sta X.K B env σ H fp →
    (match f env with | .ok o => ∀ H', Ext H H' → Q o H' | .exc c => ∀ H', Ext H H' → wx W ec σ c H' | .bad => False) → t σ H Q
section
variable {X : Cx} {ec : Nat → Addr} {W : WX} {e : Expr} {fe : FE} {lo hi : Option Expr} {fl fh : EnvT → R (Option Int)} {pos p2 : Pos}
theorem DP.none : DP X ec W none (fun _ => .ok none) := ⟨_, po_none, fun s h => h _ (Ext.refl _)⟩
def partF (f : FE) : EnvT → R (Option Int) := fun env => do let t ← f env; (match t with | .int i => .ok (some i) | _ => .bad)
theorem DP.some (h : DE X ec W e fe) : DP X ec W (some e) (partF fe) := by
  refine ⟨_, po_some h.run, fun {B env σ H fp Q} s h => ⟨B, env, fp, s, ?_⟩⟩
  unfold partF at h
  cases q : fe env with
  | exc c => rw [q] at h; exact h
  | bad => rw [q] at h; exact h
  | ok t =>
    rw [q] at h
    intro v H1 F e1 r n f
    cases t with
    | int i => obtain ⟨rfl, _⟩ := r; exact ⟨i, rfl, h H1 e1⟩
    | _ => exact h.elim
def sliceF (fe : FE) (fl fh : EnvT → R (Option Int)) : FE := fun env => do let t ← fe env; let l ← fl env; let h ← fh env; R.ofO (sliceT t l h)
theorem DE.slice (he : DE X ec W e fe) (hl : DP X ec W lo fl) (hh : DP X ec W hi fh) : DE X ec W (.Subscript e (.Slice lo hi none p2) pos) (sliceF fe fl fh) := by
  obtain ⟨tl, pl, kl⟩ := hl.ex
  obtain ⟨th, ph, kh⟩ := hh.ex
  refine ⟨pe_mono (pe_slice (SlR.or sl_list (SlR.or sl_tupA sl_str)) he.run pl ph) fun σ H Q ⟨B, env, fp, s, h⟩ => ?_⟩
  refine tD.one (k := fun t => do let l ← fl env; let h ← fh env; R.ofO (sliceT t l h)) (Q := Q) s h fun x tx F H1 e1 r n f _ p => ?_
  refine kl (s.grow e1) ?_
  cases q1 : fl env with
  | exc c => rw [q1] at p; exact fun H' x => p H' (e1.trans x)
  | bad => rw [q1] at p; exact p
  | ok l =>
    rw [q1] at p
    intro H2 e2
    refine kh ((s.grow e1).grow e2) ?_
    simp only [R.ok_bind] at p
    cases q2 : fh env with
    | exc c => rw [q2] at p; exact fun H' x => p H' ((e1.trans e2).trans x)
    | bad => rw [q2] at p; exact p
    | ok u =>
      rw [q2] at p
      intro H3 e3
      simp only [R.ok_bind] at p
      cases q3 : sliceT tx l u with
      | none => rw [q3] at p; exact p.elim
      | some t =>
        rw [q3] at p
        have ex := (e1.trans e2).trans e3
        exact slice_ok (s.cz ex n f) (r.ext (e2.trans e3)) q3 (Post.fin p ex f)
end
end VS

namespace VS
open PySem PySem.Spec L2
open PyProof.Rows hiding St

/-! ### short names, rooms, the end of a law -/
abbrev setS (i : Nat) (fe : FE) : FS := fun env => bS env (fe env) fun t => setV i t env
abbrev exprS (fe : FE) : FS := fun env => bS env (fe env) fun _ => .nx env
abbrev exprXS (fx : FX) : FS := fun env => bX env (fx env) fun _ e' => .nx e'
abbrev retS (fe : FE) : FS := fun env => bS env (fe env) retV
abbrev retNS : FS := fun _ => .rt .non
abbrev forS (fi : EnvT → R (List T)) (g : T → EnvT → Option EnvT) (fb : FS) : FS := fun env => bS env (fi env) fun its => loopS g fb its env
abbrev frzS (i : Nat) (f : FS) : FS := fun env => f (freezeV i env)
abbrev brkS : FS := fun env => .bk env
abbrev contS : FS := fun env => .ct env
abbrev cF (t : T) : FE := fun _ => .ok t
abbrev nilA : EnvT → R (List T) := fun _ => .ok []
abbrev yesB : EnvT → R Bool := fun _ => .ok true
abbrev noneP : EnvT → R (Option Int) := fun _ => .ok none
theorem u1 {k : Nat} {A : Around} (h : Room k A) : A.units + 1 < cLine := by have := h.un; omega
theorem u64 {k : Nat} {A : Around} (h : Room k A) : A.units + 64 < cLine := by have := h.un; omega
theorem u65 {k : Nat} {A : Around} (h : Room k A) : A.units + 65 < cLine := by have := h.un; omega
/-- what is known of a def, wherever it is called -/
structure CalleeK (P : Program) (w : World) (K : PySem.W.Frag) (mg : Str → Option Value) (base : Heap) (ec : Nat → Addr) (x : Str) (k n : Nat) (dts : List T) (sem : List T → R T) : Prop where
  ex : ∃ (f : Addr) (fd : FuncData) (ps : List Str) (ds : List Value) (dvs : List V), FnOk P w K mg base (L2.CX P w) k f fd ps (SPc K ec n sem) ∧ mg x = some (.ref f) ∧ PySem.W.keepIn K (.ref f) = true ∧ Binds K fd ps ds ∧ Vals dvs ds ∧
    ∀ H P, Reps K H P dts dvs []
theorem CalleeK.mk0 {P : Program} {w : World} {K : PySem.W.Frag} {mg : Str → Option Value} {base : Heap} {ec : Nat → Addr} {x : Str} {k n : Nat} {sem : List T → R T} {f : Addr} {fd : FuncData} {ps : List Str} (F : FnOk P w K mg base (L2.CX P w) k f fd ps (SPc K ec n sem)) (hm : mg x = some (.ref f)) (hk : PySem.W.keepIn K (.ref f) = true) (hb : Binds K fd ps []) :
    CalleeK P w K mg base ec x k n [] sem := ⟨f, fd, ps, [], [], F, hm, hk, hb, .nil, fun _ _ => ⟨rfl, rfl⟩⟩
/-- a def of the top, by its facts -/
structure DefAt (K : PySem.W.Frag) (mg : Str → Option Value) (x : Str) (st : Stmt) (f : Addr) (fd : FuncData) : Prop where
  fn : Fun K x x st f fd
  at_ : mg x = some (.ref f)
theorem def_callee {P : Program} {w : World} {K : PySem.W.Frag} {mg : Str → Option Value} {base : Heap} {x : Str} {st : Stmt} {f : Addr} {fd : FuncData} {N ps : List Str} {k m : Nat} {ec : Nat → Addr} {g : FS} (D : DefAt K mg x st f fd) (S : FnScope N ps (defScope st)) (hm : N.length = ps.length + m)
    (hbd : ∀ (kV doc pm : Value) (an : Option Addr) (cdv ct : Value) (us : List Value), us.length = ps.length → bindArgs (PySem.W.fnOf x x (defArgs st) (defBody st) (defScope st) .none kV doc pm an cdv ct) ⟨us, []⟩ = pure (ps.zip us))
    (hb : ∀ (cdv : Value) (A : Around) (outer : List Env) (s : Shared) (H : Hp) (E : XK), Room k (A.deeper (envOfC x (defScope st) s.heap.objs.size f cdv)) →
      DSs (cxOf (L2.CX P w) P w K mg base N x (defScope st) f cdv A outer s H E) ec (fun cls d _ H => E cls d H) (defBody st) g) :
    CalleeK P w K mg base ec x (k + 1) ps.length [] (fun ts => bodyR (g (env0 m ts))) :=
  CalleeK.mk0 (def_ok D.fn S hm (fun _ _ => id) hb) D.at_ D.fn.kp (D.fn.binds hbd)
theorem script_rep {K : PySem.W.Frag} {H : Hp} {P : Al} {a : Addr} {ns : List Int} (hO : Only H) (hS : SqL K H a (ns.map V.int)) : Reps K H P [.lst .fzn (ns.map T.int)] [.ref a] [] := by
  have repInts : ∀ ns : List Int, Reps K H P (ns.map T.int) (ns.map V.int) [] := fun ns => by
    induction ns with
    | nil => exact ⟨rfl, rfl⟩
    | cons n ns ih => exact ⟨.int n, ns.map V.int, [], [], rfl, rfl, ⟨rfl, rfl⟩, ih⟩
  have fz : FzL K H a (ns.map V.int) := by
    rcases hS with (h | ⟨o, h⟩) | h
    · rcases hO a with q | ⟨o, xs, q⟩ <;> rw [h] at q <;> cases q
    · exact .inl ⟨o, h⟩
    · exact .inr h
  exact ⟨.ref a, [], [], [], rfl, rfl, ⟨a, ns.map V.int, [], rfl, fz, ⟨rfl, rfl⟩, repInts ns⟩, rfl, rfl⟩
theorem law_walk {l : PySem.W.OpenLaw} {k : Nat} {q : Program} {loose : List Str} {XP : (Str → Option Value) → Heap → Prop} {YP : World → Heap → Prop} {d : DefRec} {K : Params → PySem.W.Frag} {x : Str} {r : List T → R T}
    (hn : l.most = some 63) (hdf : d.params.defaults = []) (hr : Room k callerA) (h : ∀ ns : List Int, ns.length ≤ 63 → r [.lst .fzn (ns.map T.int)] = .ok (.bl true))
    (hY : ∀ (w : World) (h : Heap), YP w h → (K w.params).In h)
    (F : ∀ (w : World) (mg : Str → Option Value) (fa : Addr) (h : Heap), (K w.params).In h → h.Ns mainGlobals mg → mg d.name = some (.ref fa) →
      ∃ fd : FuncData, (∀ (s : Shared) (u : Value), BindsTo s fd ⟨[u], []⟩ [(x, u)]) ∧ ∃ ec : Nat → Addr, ∀ base : Heap, (K w.params).In base → base.Ns mainGlobals mg → FnOk l.prog w (K w.params) mg base (L2.CX l.prog w) k fa fd [x] (SPc (K w.params) ec 1 r)) :
    PySem.W.WalkO q loose XP YP l.row.toRowW d [] (fun f vs => PySem.call f vs) := by
  refine L2.walk_of (n := 63) (k := k) (x := x) (CX := fun w => L2.CX l.prog w) (sp := fun w => fun vs H Q E => ∀ ec, SPc (K w.params) ec 1 r vs H Q E) hn (by rw [sizeLine_eq]; omega) hdf hr hY (fun w mg fa h KX G hmg => ?_) (fun w H a ns hl hO hS ec => ?_) fun w H s e s' ⟨_, _, _, _, _, _, _, _, _, _, _, _, z⟩ => z
  · obtain ⟨fd, hb, ec, hF⟩ := F w mg fa h KX G hmg
    exact ⟨fd, hb, fun base h1 h2 => (hF base h1 h2).imp fun vs H Q E h => h ec⟩
  · refine ⟨[.lst .fzn (ns.map T.int)], [], fun _ => False, fun _ => False, rfl, List.nodup_nil, script_rep hO hS, fun a z => z.elim id id |>.elim, by simp, ?_⟩
    rw [h ns hl]
    intro v H' G ro
    exact ro.rep.1
end VS

namespace VS
open PySem PySem.Spec L2
open PyProof.Rows hiding St

section
variable {X : Cx} {ec : Nat → Addr} {W : WX} {a b e : Expr} {fa fb fe : FE} {x : Str} {p pos : Pos} {k n : Nat} {dts : List T} {sem : List T → R T}
/-- x(), x a def of the top without arguments -/
theorem DE.call0 (c : Callee X ec x k n dts sem) (hr : Room k X.A) (tk : Takes X W) (hg : Gl X x) (hn : dts.length = n := by rfl)
    (hdb : (x == ("__debug__" : Str)) = false := by decide) : DE X ec W (.Call (.Name x p) [] [] pos) (callF sem dts nilA) := by
  obtain ⟨f, fd, ps, ds, dvs, F, hm, hk, hb, hd, hdt⟩ := c.ex
  refine ⟨⟨fun pins s σ H Q I ⟨B, env, fp, st, h⟩ => ?_⟩⟩
  refine wpAny_Call_Name_kw (ld_glob I hg hm ?_ hdb)
  refine PySem.W.callWith_K0 I.kIn hk ?_
  have h' : Post X.K H B (Aw fp) (wx W ec σ) Q (callV sem dts []) := h
  have hs := call_post (n := n) (ts := []) (vs := []) (F := []) st (Ext.refl H) ⟨rfl, rfl⟩ List.nodup_nil (by simp) hdt (by simpa using hn) h'
  exact run_dfl (us := []) (vs := []) F hr hb hd (passAt tk σ) I .nil hs

/-! ### list(range(..)), tuple(range(..)) -/
def rgOk (i j : Int) : Bool := fits62 i && fits62 j && decide ((j - i).toNat ≤ 16777216)
theorem rgOk_ok {i j : Int} (h : rgOk i j = true) : RgOk i j := by
  simp only [rgOk, Bool.and_eq_true, decide_eq_true_eq] at h
  obtain ⟨⟨h1, h2⟩, h3⟩ := h
  obtain ⟨a1, a2⟩ := fits62_lo h1
  obtain ⟨b1, b2⟩ := fits62_lo h2
  exact ⟨a1, a2, b1, b2, by omega⟩
def rgL (i j : Int) : List T := (List.range (j - i).toNat).map fun (k : Nat) => .int (i + k)
theorem rgL_rep {K : PySem.W.Frag} {H : Hp} {P : Al} (i j : Int) : Reps K H P (rgL i j) (rgV i j) [] := by
  unfold rgL rgV
  generalize (List.range (j - i).toNat) = l
  induction l with
  | nil => exact ⟨rfl, rfl⟩
  | cons n l ih => exact ⟨_, _, [], [], rfl, rfl, ⟨rfl, rfl⟩, ih⟩
def lrg1 : T → Option T
  | .int j => if rgOk 0 j = true then some (.lst .own (rgL 0 j)) else none
  | _ => none
def lrg2 : T → T → Option T
  | .int i, .int j => if rgOk i j = true then some (.lst .own (rgL i j)) else none
  | _, _ => none
theorem DE.listRg1 {p2 : Pos} (hc : X.calm = true) (hl : Gl X "list") (hm : X.mg "list" = none) (hl2 : Gl X "range") (hm2 : X.mg "range" = none) (ha : DE X ec W a fa) (na : starEach [a] X.env = (false, eval a X.env) :: starEach [] X.env := by rfl)
    (nb : starEach [.Call (.Name "range" p2) [a] [] pos] X.env = (false, eval (.Call (.Name "range" p2) [a] [] pos) X.env) :: starEach [] X.env := by rfl) {pos2 : Pos} : DE X ec W (.Call (.Name "list" p) [.Call (.Name "range" p2) [a] [] pos] [] pos2) (un1 lrg1 fa) := by
  refine ⟨pe_mono (pe_listRg hc hl hm (prg_1 hl2 hm2 ha.run na) nb) fun σ H Q h => ?_⟩
  refine one_op (r := fun x H1 Q => ∃ n, x = .int n ∧ RgOk 0 n ∧ ∀ q, H1 q = none → Q (.ref q) (upd H1 q (.lst (rgV 0 n)))) (fun H O C A x tx F Q t cz r e h => ?_) h
  cases tx with
  | int i =>
    obtain ⟨rfl, rfl⟩ := r
    simp only [lrg1] at e
    split at e
    · rename_i c; simp only [Option.some.injEq] at e; subst e
      exact ⟨i, rfl, rgOk_ok c, h.lst cz (rgL_rep 0 i) (List.Sublist.refl _)⟩
    · cases e
  | _ => simp [lrg1] at e
theorem DE.listRg2 {p2 : Pos} (hc : X.calm = true) (hl : Gl X "list") (hm : X.mg "list" = none) (hl2 : Gl X "range") (hm2 : X.mg "range" = none) (ha : DE X ec W a fa) (hb : DE X ec W b fb) (na : starEach [a, b] X.env = (false, eval a X.env) :: starEach [b] X.env := by rfl)
    (nb : starEach [b] X.env = (false, eval b X.env) :: starEach [] X.env := by rfl) (hp : (backTo pos (starEach [b] X.env)).any (·.1) = false := by rfl)
    (nc : starEach [.Call (.Name "range" p2) [a, b] [] pos] X.env = (false, eval (.Call (.Name "range" p2) [a, b] [] pos) X.env) :: starEach [] X.env := by rfl) {pos2 : Pos} : DE X ec W (.Call (.Name "list" p) [.Call (.Name "range" p2) [a, b] [] pos] [] pos2) (bin2 lrg2 fa fb) := by
  refine ⟨pe_mono (pe_listRg hc hl hm (prg_2 hl2 hm2 ha.run hb.run na nb hp) nc) fun σ H Q h => ?_⟩
  refine two_op (r := fun x y H1 Q => ∃ i j, x = .int i ∧ y = .int j ∧ RgOk i j ∧ ∀ q, H1 q = none → Q (.ref q) (upd H1 q (.lst (rgV i j)))) (fun H O C A x y tx ty Fx Fy Q t cz rx ry e h => ?_) h
  cases tx with
  | int i => cases ty with
    | int j =>
      obtain ⟨rfl, rfl⟩ := rx
      obtain ⟨rfl, rfl⟩ := ry
      simp only [lrg2] at e
      split at e
      · rename_i c; simp only [Option.some.injEq] at e; subst e
        exact ⟨i, j, rfl, rfl, rgOk_ok c, h.lst cz (rgL_rep i j) (List.nil_sublist _)⟩
      · cases e
    | _ => simp [lrg2] at e
  | _ => simp [lrg2] at e
end

theorem def_fn {P : Program} {w : World} {K : PySem.W.Frag} {mg : Str → Option Value} {base : Heap} {x : Str} {st : Stmt} {f : Addr} {fd : FuncData} {N ps : List Str} {k m : Nat} {ec : Nat → Addr} {g : FS} (D : DefAt K mg x st f fd) (S : FnScope N ps (defScope st)) (hm : N.length = ps.length + m)
    (hb : ∀ (cdv : Value) (A : Around) (outer : List Env) (s : Shared) (H : Hp) (E : XK), Room k (A.deeper (envOfC x (defScope st) s.heap.objs.size f cdv)) →
      DSs (cxOf (L2.CX P w) P w K mg base N x (defScope st) f cdv A outer s H E) ec (fun cls d _ H => E cls d H) (defBody st) g) :
    FnOk P w K mg base (L2.CX P w) (k + 1) f fd ps (SPc K ec ps.length (fun ts => bodyR (g (env0 m ts)))) := def_ok D.fn S hm (fun _ _ => id) hb

/-! ### more own-list methods -/
theorem Reps.rev {K : PySem.W.Frag} {H : Hp} {P : Al} : ∀ {ts : List T} {vs : List V} {F : List Addr}, Reps K H P ts vs F → ∃ G, Reps K H P ts.reverse vs.reverse G ∧ Le G F
  | [], _, _, ⟨e, e'⟩ => by subst e; subst e'; exact ⟨[], ⟨rfl, rfl⟩, Le.refl _⟩
  | t :: ts, _, _, ⟨v, r, F1, F2, e1, e2, c, d⟩ => by
    subst e1; subst e2
    obtain ⟨G, g, l⟩ := Reps.rev d
    refine ⟨G ++ F1, ?_, ?_⟩
    · rw [List.reverse_cons, List.reverse_cons]
      exact g.append ⟨v, [], F1, [], rfl, by simp, c, rfl, rfl⟩
    · exact (l.append (Le.refl F1)).trans (Le.comm _ _)
theorem own_reverse {K : PySem.W.Frag} : OwnL K rReverse mReverse := by
  intro H P p vs ts G as us F Q ts' res hp rt ra e h
  cases as with
  | nil =>
    simp only [mReverse, Option.some.injEq, Prod.mk.injEq] at e
    obtain ⟨rfl, rfl⟩ := e
    obtain ⟨rfl, rfl⟩ := ra
    obtain ⟨G', g, l⟩ := rt.rev
    exact ⟨p, vs, rfl, rfl, hp, h _ G' .non [] g ⟨rfl, rfl⟩ (by simpa using l)⟩
  | cons a as => simp [mReverse] at e
end VS

namespace VS
open PySem PySem.Spec L2
open PyProof.Rows hiding St

/-! ### the plain side: equations of the combinators -/

@[simp] theorem bodyR_rt (t : T) : bodyR (.rt t) = .ok t := id rfl
@[simp] theorem bodyR_nx (e : EnvT) : bodyR (.nx e) = .ok .non := id rfl
@[simp] theorem env0_def (m : Nat) (ts : List T) : env0 m ts = ts.map some ++ List.replicate m none := id rfl
def contO (o : Out) (g : FS) : Out := match o with | .nx e => g e | o => o
@[simp] theorem contO_nx (e : EnvT) (g : FS) : contO (.nx e) g = g e := id rfl
@[simp] theorem contO_rt (t : T) (g : FS) : contO (.rt t) g = .rt t := id rfl
@[simp] theorem contO_bk (e : EnvT) (g : FS) : contO (.bk e) g = .bk e := id rfl
@[simp] theorem contO_ct (e : EnvT) (g : FS) : contO (.ct e) g = .ct e := id rfl
@[simp] theorem contO_exc (c : Nat) (e : EnvT) (g : FS) : contO (.exc c e) g = .exc c e := id rfl
@[simp] theorem contO_bad (g : FS) : contO .bad g = .bad := id rfl
theorem contO_ite {c : Prop} [Decidable c] (a b : Out) (g : FS) : contO (if c then a else b) g = if c then contO a g else contO b g := by split <;> rfl
@[simp] theorem bodyR_ite {c : Prop} [Decidable c] (a b : Out) : bodyR (if c then a else b) = if c then bodyR a else bodyR b := by split <;> rfl
@[simp] theorem seqS_def (f g : FS) (env : EnvT) : seqS f g env = contO (f env) g := by unfold seqS contO; cases f env <;> rfl
@[simp] theorem nxS_def (env : EnvT) : nxS env = .nx env := id rfl
def iteO (r : R Bool) (env : EnvT) (f g : FS) : Out := bS env r fun b => if b = true then f env else g env
@[simp] theorem iteO_ok (b : Bool) (env : EnvT) (f g : FS) : iteO (.ok b) env f g = if b = true then f env else g env := id rfl
@[simp] theorem iteO_exc (c : Nat) (env : EnvT) (f g : FS) : iteO (.exc c) env f g = .exc c env := id rfl
@[simp] theorem iteO_bad (env : EnvT) (f g : FS) : iteO .bad env f g = .bad := id rfl
@[simp] theorem ifS_def (fc : EnvT → R Bool) (f g : FS) (env : EnvT) : ifS fc f g env = iteO (fc env) env f g := id rfl
@[simp] theorem setS_def (i : Nat) (fe : FE) (env : EnvT) : setS i fe env = bS env (fe env) fun t => setV i t env := id rfl
@[simp] theorem exprS_def (fe : FE) (env : EnvT) : exprS fe env = bS env (fe env) fun _ => .nx env := id rfl
@[simp] theorem exprXS_def (fe : FX) (env : EnvT) : exprXS fe env = bX env (fe env) fun _ e => .nx e := id rfl
@[simp] theorem retS_def (fe : FE) (env : EnvT) : retS fe env = bS env (fe env) retV := id rfl
@[simp] theorem retNS_def (env : EnvT) : retNS env = .rt .non := id rfl
@[simp] theorem forS_def (fi : EnvT → R (List T)) (g : T → EnvT → Option EnvT) (fb : FS) (env : EnvT) : forS fi g fb env = bS env (fi env) fun its => loopS g fb its env := id rfl
@[simp] theorem frzS_def (i : Nat) (f : FS) (env : EnvT) : frzS i f env = f (freezeV i env) := id rfl
@[simp] theorem asgX_def (g : T → EnvT → Option EnvT) (fx : FX) (env : EnvT) : VS.asgX g fx env = bX env (fx env) fun t e' => if t.has .brw = false then (match g t e' with | some e2 => .nx e2 | none => .bad) else .bad := id rfl
@[simp] theorem asgS_def (g : T → EnvT → Option EnvT) (fe : FE) (env : EnvT) : asgS g fe env = bS env (fe env) fun t => if t.has .brw = false then (match g t env with | some e => .nx e | none => .bad) else .bad := id rfl
@[simp] theorem brkS_def (env : EnvT) : brkS env = .bk env := id rfl
@[simp] theorem contS_def (env : EnvT) : contS env = .ct env := id rfl
@[simp] theorem cF_def (t : T) (env : EnvT) : cF t env = .ok t := id rfl
@[simp] theorem nilA_def (env : EnvT) : nilA env = .ok [] := id rfl
@[simp] theorem yesB_def (env : EnvT) : yesB env = .ok true := id rfl
@[simp] theorem noneP_def (env : EnvT) : noneP env = .ok none := id rfl
@[simp] theorem ofO_ite {α : Type} {c : Prop} [Decidable c] (a b : Option α) : R.ofO (if c then a else b) = if c then R.ofO a else R.ofO b := by split <;> rfl
def blO (x : T) : R Bool := match x with | .bl b => .ok b | _ => .bad
@[simp] theorem blO_bl (b : Bool) : blO (.bl b) = .ok b := id rfl
def look : EnvT → Nat → Option T
  | [], _ => none
  | x :: _, 0 => x
  | _ :: xs, n + 1 => look xs n
@[simp] theorem look_zero (x : Option T) (xs : EnvT) : look (x :: xs) 0 = x := id rfl
@[simp] theorem look_succ (x : Option T) (xs : EnvT) (n : Nat) : look (x :: xs) (n + 1) = look xs n := id rfl
theorem look_get {α : Type} (a : T → α) (b : α) : ∀ (env : EnvT) (i : Nat), (match env[i]? with | some (some t) => a t | _ => b) = (match look env i with | some t => a t | none => b)
  | [], i => by simp [look]
  | x :: xs, 0 => by cases x <;> simp [look]
  | x :: xs, n + 1 => by simpa [look] using look_get a b xs n
@[simp] theorem getV_def (i : Nat) (env : EnvT) : getV i env = (match look env i with | some t => .ok (t.tag view) | none => .bad) := look_get _ _ env i
@[simp] theorem retVar_def (i : Nat) (env : EnvT) : retVar i env = (match look env i with | some t => .rt t | none => .bad) := look_get _ _ env i
@[simp] theorem retV_def (t : T) : retV t = if t.has .brw = false then .rt t else .bad := id rfl
@[simp] theorem setV_def (i : Nat) (t : T) (env : EnvT) : setV i t env = if i < env.length ∧ t.has .brw = false then .nx (env.set i (some t)) else .bad := id rfl
@[simp] theorem gSet_def (i : Nat) (t : T) (env : EnvT) : gSet i t env = if i < env.length ∧ t.has .brw = false then some (env.set i (some t)) else none := id rfl
@[simp] theorem consE_def (f : FE) (fs : EnvT → R (List T)) (env : EnvT) : consE f fs env = (f env >>= fun x => fs env >>= fun xs => .ok (x :: xs)) := id rfl
@[simp] theorem bin2_def (g : T → T → Option T) (fa fb : FE) (env : EnvT) : bin2 g fa fb env = (fa env >>= fun x => fb env >>= fun y => R.ofO (g x y)) := id rfl
@[simp] theorem un1_def (g : T → Option T) (fa : FE) (env : EnvT) : un1 g fa env = (fa env >>= fun x => R.ofO (g x)) := id rfl
@[simp] theorem ap_def (g : List T → Option T) (fs : EnvT → R (List T)) (env : EnvT) : ap g fs env = (fs env >>= fun xs => R.ofO (g xs)) := id rfl
@[simp] theorem asB_def (f : FE) (env : EnvT) : asB f env = (f env >>= blO) := id rfl
@[simp] theorem andB_def (fa fb : EnvT → R Bool) (env : EnvT) : andB fa fb env = (fa env >>= fun x => if x = true then fb env else .ok false) := id rfl
@[simp] theorem orB_def (fa fb : EnvT → R Bool) (env : EnvT) : orB fa fb env = (fa env >>= fun x => if x = true then .ok true else fb env) := id rfl
@[simp] theorem notB_def (fa : EnvT → R Bool) (env : EnvT) : notB fa env = (fa env >>= fun x => .ok (!x)) := id rfl
@[simp] theorem truB_def (f : FE) (env : EnvT) : truB f env = (f env >>= fun x => R.ofO (truT x)) := id rfl
@[simp] theorem callF_def (sem : List T → R T) (dts : List T) (fs : EnvT → R (List T)) (env : EnvT) : callF sem dts fs env = (fs env >>= fun ts => callV sem dts ts) := id rfl
theorem callV_def (sem : List T → R T) (dts ts : List T) : callV sem dts ts = if T.hasL .brw ts = true then
    (match sem (T.tags lend ts ++ dts) with
      | .ok t => if t.has .prt = true ∨ t.has .fzn = true then .bad else .ok t
      | r => r)
  else sem (ts ++ dts) := id rfl
@[simp] theorem callV_plain {sem : List T → R T} {ts : List T} (h : T.hasL .brw ts = false) : callV sem [] ts = sem ts := by rw [callV_def, h]; simp
def lendR : R T → R T
  | .ok t => if t.has .prt = true ∨ t.has .fzn = true then .bad else .ok t
  | r => r
@[simp] theorem lendR_ok (t : T) : lendR (.ok t) = if t.has .prt = true ∨ t.has .fzn = true then .bad else .ok t := id rfl
@[simp] theorem lendR_exc (c : Nat) : lendR (.exc c) = .exc c := id rfl
@[simp] theorem callV_brw {sem : List T → R T} {ts : List T} (h : T.hasL .brw ts = true) : callV sem [] ts = lendR (sem (T.tags lend ts)) := by
  rw [callV_def, h, if_pos rfl, List.append_nil]
  cases sem (T.tags lend ts) <;> rfl
@[simp] theorem seqI_def (lp : Bool) (fe : FE) (env : EnvT) : seqI lp fe env = (fe env >>= fun t => itemsOf lp t) := id rfl
@[simp] theorem rangeI_def (fs : EnvT → R (List T)) (env : EnvT) : rangeI fs env = (fs env >>= fun ts => match ts with
    | [.int j] => rng2 0 j
    | [.int i, .int j] => rng2 i j
    | _ => .bad) := id rfl
@[simp] theorem compF_def (fi : EnvT → R (List T)) (g : T → EnvT → Option EnvT) (fc : EnvT → R Bool) (fe : FE) (vs : List Nat) (env : EnvT) : compF fi g fc fe vs env = (fi env >>= fun its => if its.length ≤ 16777216 then (compS g fc fe (wipeT env vs) its >>= fun ts => .ok (.lst .own ts)) else .bad) := by rw [← sizeLine_eq]; rfl
@[simp] theorem wipeT_nil (env : EnvT) : wipeT env [] = env := id rfl
@[simp] theorem wipeT_cons (env : EnvT) (v : Nat) (vs : List Nat) : wipeT env (v :: vs) = (wipeT env vs).set v none := id rfl
@[simp] theorem freezeV_def (i : Nat) (env : EnvT) : freezeV i env = (match look env i with
  | some t => env.set i (some (t.tag frze))
  | none => env) := look_get (fun t => env.set i (some (t.tag frze))) env env i
def methO (g : List T → List T → Option (List T × T)) (i : Nat) (fs : EnvT → R (List T)) (env : EnvT) : T → R (T × EnvT)
  | .lst .own ts => (fs env >>= fun as =>
    if T.hasL .brw as = true then .bad else match g ts as with
      | some (ts', res) => .ok (res, env.set i (some (.lst .own ts')))
      | none => .bad)
  | _ => .bad
@[simp] theorem methO_lst (g : List T → List T → Option (List T × T)) (i : Nat) (fs : EnvT → R (List T)) (env : EnvT) (ts : List T) : methO g i fs env (.lst .own ts) = (fs env >>= fun as =>
    if T.hasL .brw as = true then .bad else match g ts as with
      | some (ts', res) => .ok (res, env.set i (some (.lst .own ts')))
      | none => .bad) := id rfl
@[simp] theorem methX_def (i : Nat) (g : List T → List T → Option (List T × T)) (fs : EnvT → R (List T)) (env : EnvT) : methX i g fs env = (match look env i with
  | some t => methO g i fs env t
  | none => .bad) := by
  rw [← look_get]
  unfold methX
  cases e : env[i]? with
  | none => rfl
  | some o => cases o with
    | none => rfl
    | some t => cases t with
      | lst g' ts => cases g' <;> rfl
      | _ => rfl
@[simp] theorem tag_non (f) : T.tag f .non = .non := id rfl
@[simp] theorem tag_bl (f b) : T.tag f (.bl b) = .bl b := id rfl
@[simp] theorem tag_int (f i) : T.tag f (.int i) = .int i := id rfl
@[simp] theorem tag_str (f x) : T.tag f (.str x) = .str x := id rfl
@[simp] theorem tag_tup (f ts) : T.tag f (.tup ts) = .tup (T.tags f ts) := id rfl
@[simp] theorem tag_tupN (f ts) : T.tag f (.tupN ts) = .tupN (T.tags f ts) := id rfl
@[simp] theorem tag_lst (f g ts) : T.tag f (.lst g ts) = .lst (f g) (T.tags f ts) := id rfl
@[simp] theorem tag_dct (f g ts) : T.tag f (.dct g ts) = .dct (f g) (T.tagD f ts) := id rfl
@[simp] theorem tags_nil (f) : T.tags f [] = [] := id rfl
@[simp] theorem tags_cons (f t ts) : T.tags f (t :: ts) = T.tag f t :: T.tags f ts := id rfl
@[simp] theorem has_non (g) : T.has g .non = false := id rfl
@[simp] theorem has_bl (g b) : T.has g (.bl b) = false := id rfl
@[simp] theorem has_int (g i) : T.has g (.int i) = false := id rfl
@[simp] theorem has_str (g x) : T.has g (.str x) = false := id rfl
@[simp] theorem has_tup (g ts) : T.has g (.tup ts) = T.hasL g ts := id rfl
@[simp] theorem has_tupN (g ts) : T.has g (.tupN ts) = T.hasL g ts := id rfl
@[simp] theorem has_lst (g g' ts) : T.has g (.lst g' ts) = (decide (g' = g) || T.hasL g ts) := id rfl
@[simp] theorem has_dct (g g' ts) : T.has g (.dct g' ts) = (decide (g' = g) || T.hasD g ts) := id rfl
@[simp] theorem hasL_nil (g) : T.hasL g [] = false := id rfl
@[simp] theorem hasL_cons (g t ts) : T.hasL g (t :: ts) = (T.has g t || T.hasL g ts) := id rfl
@[simp] theorem view_own : view .own = .brw := id rfl
@[simp] theorem view_shr : view .shr = .shr := id rfl
@[simp] theorem view_prt : view .prt = .prt := id rfl
@[simp] theorem view_brw : view .brw = .brw := id rfl
@[simp] theorem view_fzn : view .fzn = .fzn := id rfl
@[simp] theorem frze_own : frze .own = .shr := id rfl
@[simp] theorem frze_shr : frze .shr = .shr := id rfl
@[simp] theorem frze_prt : frze .prt = .prt := id rfl
@[simp] theorem frze_fzn : frze .fzn = .fzn := id rfl
@[simp] theorem frze_brw : frze .brw = .brw := id rfl
@[simp] theorem lend_own : lend .own = .own := id rfl
@[simp] theorem lend_shr : lend .shr = .shr := id rfl
@[simp] theorem lend_prt : lend .prt = .prt := id rfl
@[simp] theorem lend_fzn : lend .fzn = .fzn := id rfl
@[simp] theorem lend_brw : lend .brw = .prt := id rfl
/-! values: ints, truths, texts, tuples of such -/
mutual
def T.val : T → Bool
  | .tup ts => T.vals ts
  | .tupN ts => T.vals ts
  | .lst _ _ => false
  | .dct _ _ => false
  | _ => true
def T.vals : List T → Bool
  | [] => true
  | t :: ts => T.val t && T.vals ts
end
mutual
theorem val_tag (f : Tg → Tg) : ∀ {t : T}, t.val = true → T.tag f t = t
  | .non, _ => rfl
  | .bl _, _ => rfl
  | .int _, _ => rfl
  | .str _, _ => rfl
  | .tup ts, h => by rw [tag_tup, vals_tags f (ts := ts) h]
  | .tupN ts, h => by rw [tag_tupN, vals_tags f (ts := ts) h]
  | .lst _ _, h => by simp [T.val] at h
  | .dct _ _, h => by simp [T.val] at h
theorem vals_tags (f : Tg → Tg) : ∀ {ts : List T}, T.vals ts = true → T.tags f ts = ts
  | [], _ => rfl
  | t :: ts, h => by
    simp only [T.vals, Bool.and_eq_true] at h
    rw [tags_cons, val_tag f h.1, vals_tags f h.2]
end
mutual
theorem val_has (g : Tg) : ∀ {t : T}, t.val = true → T.has g t = false
  | .non, _ => rfl
  | .bl _, _ => rfl
  | .int _, _ => rfl
  | .str _, _ => rfl
  | .tup ts, h => by rw [has_tup, vals_has g (ts := ts) h]
  | .tupN ts, h => by rw [has_tupN, vals_has g (ts := ts) h]
  | .lst _ _, h => by simp [T.val] at h
  | .dct _ _, h => by simp [T.val] at h
theorem vals_has (g : Tg) : ∀ {ts : List T}, T.vals ts = true → T.hasL g ts = false
  | [], _ => rfl
  | t :: ts, h => by
    simp only [T.vals, Bool.and_eq_true] at h
    rw [hasL_cons, val_has g h.1, vals_has g h.2]; rfl
end
theorem vals_iff {ts : List T} : T.vals ts = true ↔ ∀ t ∈ ts, t.val = true := by
  induction ts with
  | nil => simp [T.vals]
  | cons t ts ih => simp [T.vals, ih]
theorem vals_append {ts us : List T} : T.vals (ts ++ us) = (T.vals ts && T.vals us) := by
  induction ts with
  | nil => simp [T.vals]
  | cons t ts ih => simp [T.vals, ih, Bool.and_assoc]
theorem vals_ints (ns : List Int) : T.vals (ns.map T.int) = true := vals_iff.mpr (by simp [T.val])
theorem vals_strs (ns : List Str) : T.vals (ns.map T.str) = true := vals_iff.mpr (by simp [T.val])
@[simp] theorem tags_ints (f) (ns : List Int) : T.tags f (ns.map T.int) = ns.map T.int := vals_tags f (vals_ints ns)
@[simp] theorem hasL_ints (g) (ns : List Int) : T.hasL g (ns.map T.int) = false := vals_has g (vals_ints ns)
@[simp] theorem tags_strs (f) (ns : List Str) : T.tags f (ns.map T.str) = ns.map T.str := vals_tags f (vals_strs ns)
@[simp] theorem hasL_strs (g) (ns : List Str) : T.hasL g (ns.map T.str) = false := vals_has g (vals_strs ns)

@[simp] theorem hasL_strF {α : Type} (g) (f : α → Str) (l : List α) : T.hasL g (l.map fun x => .str (f x)) = false := by
  exact vals_has g (vals_iff.mpr (by simp [T.val]))
@[simp] theorem hasL_intF {α : Type} (g) (f : α → Int) (l : List α) : T.hasL g (l.map fun x => .int (f x)) = false := by
  exact vals_has g (vals_iff.mpr (by simp [T.val]))
@[simp] theorem tags_strF {α : Type} (g) (f : α → Str) (l : List α) : T.tags g (l.map fun x => .str (f x)) = l.map fun x => .str (f x) := by
  exact vals_tags g (vals_iff.mpr (by simp [T.val]))
@[simp] theorem tags_intF {α : Type} (g) (f : α → Int) (l : List α) : T.tags g (l.map fun x => .int (f x)) = l.map fun x => .int (f x) := by
  exact vals_tags g (vals_iff.mpr (by simp [T.val]))
theorem map_str_snoc (ws : List Str) (x : Str) : ws.map T.str ++ [T.str x] = (ws ++ [x]).map T.str := by simp
theorem map_int_snoc (ws : List Int) (x : Int) : ws.map T.int ++ [T.int x] = (ws ++ [x]).map T.int := by simp
theorem strs_map {ts : List T} (h : ∀ t ∈ ts, ∃ s, t = .str s) : ∃ ws : List Str, ts = ws.map T.str := by
  induction ts with
  | nil => exact ⟨[], rfl⟩
  | cons t ts ih =>
    obtain ⟨s, rfl⟩ := h t (by simp)
    obtain ⟨ws, rfl⟩ := ih fun u hu => h u (by simp [hu])
    exact ⟨s :: ws, rfl⟩

/-! ### the operations -/
@[simp] theorem addT_int (i j : Int) : addT (.int i) (.int j) = some (.int (i + j)) := id rfl
@[simp] theorem subT_int (i j : Int) : subT (.int i) (.int j) = some (.int (i - j)) := id rfl
@[simp] theorem negT_int (i : Int) : negT (.int i) = some (.int (-i)) := id rfl
theorem mulT_l {i j : Int} (h1 : -18446744073709551616 < i) (h2 : i < 18446744073709551616) : mulT (.int i) (.int j) = some (.int (i * j)) := by
  have : mulOk i j = true := by simp [mulOk, small64, h1, h2]
  simp [mulT, this]
theorem mulT_r {i j : Int} (h1 : -18446744073709551616 < j) (h2 : j < 18446744073709551616) : mulT (.int i) (.int j) = some (.int (i * j)) := by
  have : mulOk i j = true := by simp [mulOk, small64, h1, h2]
  simp [mulT, this]
theorem log2_le {n k : Nat} (h : n < 2 ^ k) (hk : 0 < k) : n.log2 < k := by
  rcases Nat.eq_zero_or_pos n with rfl | p
  · simpa using hk
  · exact (Nat.log2_lt (by omega)).mpr h
theorem divT_ok {i j : Int} (h1 : 0 < j) (h2 : j < 2 ^ 1000) : divT (.int i) (.int j) = some (.int (i / j)) := by
  have : j.natAbs.log2 < 9000 := Nat.lt_of_lt_of_le (log2_le (k := 1000) (by
    have : (j.natAbs : Int) < 2 ^ 1000 := by omega
    exact_mod_cast this) (by decide)) (by decide)
  simp [divT, h1, this]
theorem modT_ok {i j : Int} (h1 : 0 < j) : modT (.int i) (.int j) = some (.int (i % j)) := by simp [modT, h1]
theorem powT_ok {i j : Int} (h1 : 0 ≤ j) (h2 : j ≤ 1000000) (h3 : -18446744073709551616 < i) (h4 : i < 18446744073709551616) : powT (.int i) (.int j) = some (.int (i ^ j.toNat)) := by
  simp [powT, h1, h2, small64, h3, h4]
@[simp] theorem eqO_int (i j : Int) : eqO (.int i) (.int j) = some (.bl (decide (i = j))) := id rfl
@[simp] theorem neO_int (i j : Int) : neO (.int i) (.int j) = some (.bl (!decide (i = j))) := id rfl
@[simp] theorem eqO_str (i j : Str) : eqO (.str i) (.str j) = some (.bl (decide (i = j))) := id rfl
@[simp] theorem neO_str (i j : Str) : neO (.str i) (.str j) = some (.bl (!decide (i = j))) := id rfl
@[simp] theorem ltT_int (i j : Int) : ltT (.int i) (.int j) = some (.bl (decide (i < j))) := id rfl
@[simp] theorem leT_int (i j : Int) : leT (.int i) (.int j) = some (.bl (decide (i ≤ j))) := id rfl
@[simp] theorem gtT_int (i j : Int) : gtT (.int i) (.int j) = some (.bl (decide (j < i))) := id rfl
@[simp] theorem geT_int (i j : Int) : geT (.int i) (.int j) = some (.bl (decide (j ≤ i))) := id rfl
@[simp] theorem lenT_lst (g : Tg) (ts : List T) : lenT [.lst g ts] = some (.int ts.length) := id rfl
@[simp] theorem lenT_tup (ts : List T) : lenT [.tup ts] = some (.int ts.length) := id rfl
@[simp] theorem tupleT_lst (g : Tg) (ts : List T) : tupleT [.lst g ts] = some (.tup ts) := id rfl
@[simp] theorem tupleT_tup (ts : List T) : tupleT [.tup ts] = some (.tup ts) := id rfl
@[simp] theorem listT_lst (g : Tg) (ts : List T) : listT [.lst g ts] = some (.lst .own ts) := id rfl
@[simp] theorem listT_tup (ts : List T) : listT [.tup ts] = some (.lst .own ts) := id rfl
@[simp] theorem intT_bl (b : Bool) : intT [.bl b] = some (.int (if b = true then 1 else 0)) := id rfl
@[simp] theorem truT_bl (b : Bool) : truT (.bl b) = some b := id rfl
@[simp] theorem isT_int (n : String) (i : Int) : isT n (.int i) = some (.bl ("int" == n || ("int" == "bool" && n == "int"))) := id rfl
@[simp] theorem isT_bl (n : String) (i : Bool) : isT n (.bl i) = some (.bl ("bool" == n || ("bool" == "bool" && n == "int"))) := id rfl
@[simp] theorem isT_non (n : String) : isT n .non = some (.bl ("NoneType" == n || ("NoneType" == "bool" && n == "int"))) := id rfl
@[simp] theorem isT_str (n : String) (i : Str) : isT n (.str i) = some (.bl ("str" == n || ("str" == "bool" && n == "int"))) := id rfl
@[simp] theorem isT_tup (n : String) (i : List T) : isT n (.tup i) = some (.bl ("tuple" == n || ("tuple" == "bool" && n == "int"))) := id rfl
@[simp] theorem isT_lst (n : String) (g : Tg) (i : List T) : isT n (.lst g i) = some (.bl ("list" == n || ("list" == "bool" && n == "int"))) := id rfl
theorem atI_ok {α : Type} {xs : List α} {i : Int} (d : α) (h0 : 0 ≤ i) (h1 : i < xs.length) : atI xs i = some (xs.getD i.toNat d) := by
  have : i.toNat < xs.length := by omega
  simp [atI, ixN, h0, h1, List.getD, this]
theorem ixT_lst {g : Tg} {xs : List T} {i : Int} (h0 : 0 ≤ i) (h1 : i < xs.length) : ixT (.lst g xs) (.int i) = some (xs.getD i.toNat .non) := atI_ok _ h0 h1
theorem ixT_tup {xs : List T} {i : Int} (h0 : 0 ≤ i) (h1 : i < xs.length) : ixT (.tup xs) (.int i) = some (xs.getD i.toNat .non) := atI_ok _ h0 h1
theorem ixT_ints {g : Tg} {ns : List Int} {i : Int} (h0 : 0 ≤ i) (h1 : i < ns.length) : ixT (.lst g (ns.map T.int)) (.int i) = some (.int (ns.getD i.toNat 0)) := by
  rw [ixT_lst h0 (by simpa using h1)]
  have : i.toNat < ns.length := by omega
  simp [List.getD, this]
@[simp] theorem tupT_2 (a b : T) : tupT [a, b] = some (.tup [a, b]) := id rfl
@[simp] theorem tupT_1 (a : T) : tupT [a] = some (.tup [a]) := id rfl
@[simp] theorem tupT_0 : tupT [] = some (.tup []) := id rfl
@[simp] theorem lstT_0 : lstT [] = some (.lst .own []) := id rfl
@[simp] theorem lstT_1 (a : T) : lstT [a] = some (.lst .own [a]) := id rfl
@[simp] theorem lstT_2 (a b : T) : lstT [a, b] = some (.lst .own [a, b]) := id rfl
@[simp] theorem lstT_3 (a b c : T) : lstT [a, b, c] = some (.lst .own [a, b, c]) := id rfl
theorem mAppend_ok {ts : List T} {t : T} (h : ts.length < 16777216) : mAppend ts [t] = some (ts ++ [t], .non) := by simp [mAppend, sizeLine_eq, h]
@[simp] theorem mClear_ok (ts : List T) : mClear ts [] = some ([], .non) := id rfl
theorem rng2_ok {i j : Int} (h1 : -1000000000 ≤ i) (h2 : i < 1000000000) (h3 : -1000000000 ≤ j) (h4 : j < 1000000000) : rng2 i j = .ok ((List.range (j - i).toNat).map fun (k : Nat) => .int (i + k)) := by
  have a : fits62 i = true := by simp [fits62]; omega
  have b : fits62 j = true := by simp [fits62]; omega
  simp [rng2, a, b]

/-! ### loops -/
structure gO (o : Option EnvT) (p : EnvT → Prop) : Prop where
  ex : ∃ e, o = some e ∧ p e
@[simp] theorem gO_some (e : EnvT) (p : EnvT → Prop) : gO (some e) p ↔ p e := ⟨fun ⟨_, h1, h2⟩ => by cases h1; exact h2, fun h => ⟨e, rfl, h⟩⟩
theorem gO_ex {o : Option EnvT} {p : EnvT → Prop} (h : gO o p) : ∃ e, o = some e ∧ p e := h.ex

theorem loop_ind {g : T → EnvT → Option EnvT} {fb : FS} (I : List T → EnvT → Prop) (Q : Out → Prop) : ∀ (xs pre : List T) (env : EnvT),
    (∀ p x q env, pre ++ xs = p ++ x :: q → I p env → ∃ e1, g x env = some e1 ∧ (match fb e1 with
      | .nx e2 => I (p ++ [x]) e2
      | .ct e2 => I (p ++ [x]) e2
      | .bk e2 => Q (.nx e2)
      | o => Q o)) → (∀ env, I (pre ++ xs) env → Q (.nx env)) → I pre env → Q (loopS g fb xs env)
  | [], pre, env, _, he, h => by rw [List.append_nil] at he; exact he _ h
  | x :: xs, pre, env, hs, he, h => by
    obtain ⟨e1, h1, h2⟩ := hs pre x xs env rfl h
    unfold loopS
    rw [h1]
    dsimp only
    have e : pre ++ x :: xs = (pre ++ [x]) ++ xs := by simp
    have go : ∀ e2, I (pre ++ [x]) e2 → Q (loopS g fb xs e2) := fun e2 i => loop_ind I Q xs (pre ++ [x]) e2 (by rw [← e]; exact hs) (by rw [← e]; exact he) i
    cases q : fb e1 <;> rw [q] at h2 <;> first | exact go _ h2 | exact h2
theorem comp_map0 {g : T → EnvT → Option EnvT} {fc : EnvT → R Bool} {fe : FE} {env : EnvT} : ∀ {xs : List T} {c : T → Bool} {f : T → T}, (∀ x ∈ xs, ∃ e1, g x env = some e1 ∧ fc e1 = .ok (c x) ∧ (c x = true → fe e1 = .ok (f x))) → compS g fc fe env xs = .ok ((xs.filter c).map f)
  | [], _, _, _ => rfl
  | x :: xs, c, f, h => by
    obtain ⟨e1, h1, h2, h3⟩ := h x (by simp)
    have ih := comp_map0 (xs := xs) (c := c) (f := f) fun y hy => h y (by simp [hy])
    unfold compS
    rw [h1]
    dsimp only
    rw [h2]
    cases q : c x with
    | true => simp [noX, q, h3 q, ih]
    | false => simp [noX, q, ih]
theorem comp_map {g : T → EnvT → Option EnvT} {fc : EnvT → R Bool} {fe : FE} {env : EnvT} {xs : List T} (c : T → Bool) (f : T → T) (h : ∀ x ∈ xs, gO (g x env) fun e1 => fc e1 = .ok (c x) ∧ (c x = true → fe e1 = .ok (f x))) : compS g fc fe env xs = .ok ((xs.filter c).map f) :=
  comp_map0 fun x hx => gO_ex (h x hx)
theorem comp_all {g : T → EnvT → Option EnvT} {fe : FE} {env : EnvT} {xs : List T} {f : T → T} (h : ∀ x ∈ xs, gO (g x env) fun e1 => fe e1 = .ok (f x)) : compS g yesB fe env xs = .ok (xs.map f) := by
  have := comp_map0 (g := g) (fc := yesB) (fe := fe) (env := env) (xs := xs) (c := fun _ => true) (f := f) fun x hx => by
    obtain ⟨e1, h1, h2⟩ := gO_ex (h x hx)
    exact ⟨e1, h1, rfl, fun _ => h2⟩
  rw [List.filter_eq_self.mpr (by simp)] at this
  exact this
def step0 (I : EnvT → Prop) (Q : Out → Prop) : Out → Prop
  | .nx e => I e
  | .ct e => I e
  | .bk e => Q (.nx e)
  | .rt t => Q (.rt t)
  | .exc c e => Q (.exc c e)
  | .bad => Q .bad
structure stepO (I : EnvT → Prop) (Q : Out → Prop) (o : Out) : Prop where
  h : step0 I Q o
@[simp] theorem stepO_nx (I : EnvT → Prop) (Q : Out → Prop) (e : EnvT) : stepO I Q (.nx e) ↔ I e := ⟨fun h => h.h, fun h => ⟨h⟩⟩
@[simp] theorem stepO_ct (I : EnvT → Prop) (Q : Out → Prop) (e : EnvT) : stepO I Q (.ct e) ↔ I e := ⟨fun h => h.h, fun h => ⟨h⟩⟩
@[simp] theorem stepO_bk (I : EnvT → Prop) (Q : Out → Prop) (e : EnvT) : stepO I Q (.bk e) ↔ Q (.nx e) := ⟨fun h => h.h, fun h => ⟨h⟩⟩
@[simp] theorem stepO_rt (I : EnvT → Prop) (Q : Out → Prop) (t : T) : stepO I Q (.rt t) ↔ Q (.rt t) := ⟨fun h => h.h, fun h => ⟨h⟩⟩
theorem loopL {P : Out → Prop} {rest : FS} {g : T → EnvT → Option EnvT} {fb : FS} {xs : List T} {env : EnvT} (I : List T → EnvT → Prop) (h0 : I [] env)
    (hs : ∀ p x q env, xs = p ++ x :: q → I p env → gO (g x env) fun e1 => stepO (I (p ++ [x])) (fun o => P (contO o rest)) (fb e1)) (hend : ∀ env, I xs env → P (rest env)) : P (contO (loopS g fb xs env) rest) := by
  refine loop_ind I (fun o => P (contO o rest)) xs [] env (fun p x q env e i => ?_) (fun env i => hend env i) h0
  obtain ⟨e1, h1, h2⟩ := gO_ex (hs p x q env e i)
  refine ⟨e1, h1, ?_⟩
  cases q : fb e1 <;> rw [q] at h2 <;> exact h2.h
theorem loopR {P : Out → Prop} {rest : FS} {g : T → EnvT → Option EnvT} {fb : FS} {n : Nat} {f : Nat → T} {env : EnvT} (I : Nat → EnvT → Prop) (h0 : I 0 env)
    (hs : ∀ k env, k < n → I k env → gO (g (f k) env) fun e1 => stepO (I (k + 1)) (fun o => P (contO o rest)) (fb e1)) (hend : ∀ env, I n env → P (rest env)) : P (contO (loopS g fb ((List.range n).map f) env) rest) := by
  refine loopL (fun p env => I p.length env) h0 (fun p x q env e i => ?_) (fun env i => hend env (by simpa using i))
  have h1 : p.length < n := by
    have := congrArg List.length e
    simp at this; omega
  have hx : x = f p.length := by
    have := congrArg (fun l => l[p.length]?) e
    simp [h1] at this
    exact this.symm
  have b := hs p.length env h1 i
  rw [hx]
  simpa using b
@[simp] theorem contO_nxS (o : Out) : contO o nxS = o := by cases o <;> rfl
theorem loopR1 {P : Out → Prop} {g : T → EnvT → Option EnvT} {fb : FS} {n : Nat} {f : Nat → T} {env : EnvT} (I : Nat → EnvT → Prop) (h0 : I 0 env)
    (hs : ∀ k env, k < n → I k env → gO (g (f k) env) fun e1 => stepO (I (k + 1)) P (fb e1)) (hend : ∀ env, I n env → P (.nx env)) : P (loopS g fb ((List.range n).map f) env) := by
  have := loopR (P := P) (rest := nxS) (g := g) (fb := fb) (f := f) I h0 (fun k env a b => by simpa using hs k env a b) (fun env a => by simpa using hend env a)
  simpa using this
theorem loopL1 {P : Out → Prop} {g : T → EnvT → Option EnvT} {fb : FS} {xs : List T} {env : EnvT} (I : List T → EnvT → Prop) (h0 : I [] env)
    (hs : ∀ p x q env, xs = p ++ x :: q → I p env → gO (g x env) fun e1 => stepO (I (p ++ [x])) P (fb e1)) (hend : ∀ env, I xs env → P (.nx env)) : P (loopS g fb xs env) := by
  have := loopL (P := P) (rest := nxS) (g := g) (fb := fb) I h0 (fun p x q env a b => by simpa using hs p x q env a b) (fun env a => by simpa using hend env a)
  simpa using this
/-! texts -/
theorem addT_str {x y : Str} (h : x.length + y.length ≤ 16777216) : addT (.str x) (.str y) = some (.str (x ++ y)) := by
  simp [addT, sizeLine_eq, h]
@[simp] theorem len_app (a b : Str) : (a ++ b).length = a.length + b.length := PySem.Str.length_append a b
theorem cutS_le (z : Str) (lo hi : Option Int) : (cutS z lo hi).length ≤ z.length := by
  show (((z.cps.toList.drop (HT.sIx z.length 0 lo)).take (HT.sIx z.length z.length hi - HT.sIx z.length 0 lo)).toArray).size ≤ z.cps.size
  simp
  omega
theorem lenT_str {x : Str} (h : x.length ≤ 16777216) : lenT [.str x] = some (.int x.length) := by simp [lenT, sizeLine_eq, h]
theorem ixT_str {z : Str} {i : Int} (h : z.length ≤ 16777216) (h0 : 0 ≤ i) (h1 : i < z.length) : ixT (.str z) (.int i) = some (.str ⟨#[z.cps.toList.getD i.toNat 0]⟩) := by
  have h2 : i < z.cps.toList.length := by
    rw [Array.length_toList]; exact h1
  show (if z.length ≤ sizeLine then (atI z.cps.toList i).map fun c => T.str ⟨#[c]⟩ else none) = _
  rw [if_pos (by rw [sizeLine_eq]; exact h), atI_ok 0 h0 h2]
  rfl
@[simp] theorem len_one (c : Nat) : Str.length ⟨#[c]⟩ = 1 := id rfl
theorem sliceT_str {z : Str} (lo hi : Option Int) (h : z.length ≤ 16777216) : sliceT (.str z) lo hi = some (.str (cutS z lo hi)) := by
  simp [sliceT, sizeLine_eq, h]
@[simp] theorem sliceF_def (fe : FE) (fl fh : EnvT → R (Option Int)) (env : EnvT) : sliceF fe fl fh env = (fe env >>= fun t => fl env >>= fun l => fh env >>= fun h => R.ofO (sliceT t l h)) := id rfl
def intO (t : T) : R (Option Int) := match t with | .int i => .ok (some i) | _ => .bad
@[simp] theorem intO_int (i : Int) : intO (.int i) = .ok (some i) := id rfl
@[simp] theorem partF_def (f : FE) (env : EnvT) : partF f env = (f env >>= intO) := id rfl
end VS

namespace VS
open PySem PySem.Spec L2
open PyProof.Rows hiding St

theorem ixT_tupM {α : Type} {L : List α} {f : α → T} {i : Int} (d : α) (h0 : 0 ≤ i) (h1 : i < L.length) : ixT (.tup (L.map f)) (.int i) = some (f (L.getD i.toNat d)) := by
  rw [ixT_tup h0 (by simpa using h1)]
  have : i.toNat < L.length := by omega
  simp [List.getD, this]
theorem ixT_lstM {α : Type} {g : Tg} {L : List α} {f : α → T} {i : Int} (d : α) (h0 : 0 ≤ i) (h1 : i < L.length) : ixT (.lst g (L.map f)) (.int i) = some (f (L.getD i.toNat d)) := by
  rw [ixT_lst h0 (by simpa using h1)]
  have : i.toNat < L.length := by omega
  simp [List.getD, this]
theorem comp_mapT {α : Type} {g : T → EnvT → Option EnvT} {fc : EnvT → R Bool} {fe : FE} {env : EnvT} {l : List α} {f0 : α → T} (c : α → Bool) (f : α → T) (h : ∀ x ∈ l, gO (g (f0 x) env) fun e1 => fc e1 = .ok (c x) ∧ (c x = true → fe e1 = .ok (f x))) : compS g fc fe env (l.map f0) = .ok ((l.filter c).map f) := by
  induction l with
  | nil => rfl
  | cons x l ih =>
    obtain ⟨e1, h1, h2, h3⟩ := gO_ex (h x (by simp))
    have ih := ih fun y hy => h y (by simp [hy])
    rw [List.map_cons]
    unfold compS
    rw [h1]
    dsimp only
    rw [h2]
    cases q : c x with
    | true => simp [noX, q, h3 q, ih]
    | false => simp [noX, q, ih]
theorem comp_allT {α : Type} {g : T → EnvT → Option EnvT} {fe : FE} {env : EnvT} {l : List α} {f0 : α → T} (f : α → T) (h : ∀ x ∈ l, gO (g (f0 x) env) fun e1 => fe e1 = .ok (f x)) : compS g yesB fe env (l.map f0) = .ok (l.map f) := by
  have := comp_mapT (g := g) (fc := yesB) (fe := fe) (env := env) (l := l) (f0 := f0) (fun _ => true) f fun x hx => by
    obtain ⟨e1, h1, h2⟩ := gO_ex (h x hx)
    exact ⟨e1, h1, rfl, fun _ => h2⟩
  rw [List.filter_eq_self.mpr (by simp)] at this
  exact this
structure nxO (o : Out) (p : EnvT → Prop) : Prop where
  ex : ∃ e, o = .nx e ∧ p e
@[simp] theorem nxO_nx (e : EnvT) (p : EnvT → Prop) : nxO (.nx e) p ↔ p e := ⟨fun ⟨_, h1, h2⟩ => by cases h1; exact h2, fun h => ⟨e, rfl, h⟩⟩
/-- a statement that runs through, and what is known behind it -/
theorem contJ {P : Out → Prop} {o : Out} {rest : FS} (J : EnvT → Prop) (h : nxO o J) (hr : ∀ e, J e → P (rest e)) : P (contO o rest) := by
  obtain ⟨e, rfl, j⟩ := h
  exact hr e j
/-! ### loops over a mapped list -/
theorem loopM {α : Type} {P : Out → Prop} {rest : FS} {g : T → EnvT → Option EnvT} {fb : FS} {L : List α} {f : α → T} {env : EnvT} (I : List α → EnvT → Prop) (h0 : I [] env)
    (hs : ∀ p x q env, L = p ++ x :: q → I p env → gO (g (f x) env) fun e1 => stepO (I (p ++ [x])) (fun o => P (contO o rest)) (fb e1)) (hend : ∀ env, I L env → P (rest env)) : P (contO (loopS g fb (L.map f) env) rest) := by
  refine loopL (fun ts env => ∃ p, ts = p.map f ∧ (∃ q, L = p ++ q) ∧ I p env) ⟨[], rfl, ⟨L, rfl⟩, h0⟩ ?_ ?_
  · rintro ts x us env e ⟨p, rfl, ⟨q, rfl⟩, i⟩
    rw [List.map_append] at e
    have e2 := List.append_cancel_left e
    cases q with
    | nil => simp at e2
    | cons y q =>
      simp only [List.map_cons, List.cons.injEq] at e2
      obtain ⟨rfl, rfl⟩ := e2
      obtain ⟨e1, h1, h2⟩ := gO_ex (hs p y q env rfl i)
      refine ⟨e1, h1, ?_⟩
      cases z : fb e1 <;> rw [z] at h2 <;> first | exact ⟨h2.h⟩ | (refine ⟨⟨p ++ [y], by simp, ⟨q, by simp⟩, h2.h⟩⟩)
  · rintro env ⟨p, e, ⟨q, rfl⟩, i⟩
    have : q = [] := by
      have := congrArg List.length e
      simp at this
      exact this
    subst this
    rw [List.append_nil] at hend
    exact hend env i
theorem loopM1 {α : Type} {P : Out → Prop} {g : T → EnvT → Option EnvT} {fb : FS} {L : List α} {f : α → T} {env : EnvT} (I : List α → EnvT → Prop) (h0 : I [] env)
    (hs : ∀ p x q env, L = p ++ x :: q → I p env → gO (g (f x) env) fun e1 => stepO (I (p ++ [x])) P (fb e1)) (hend : ∀ env, I L env → P (.nx env)) : P (loopS g fb (L.map f) env) := by
  have := loopM (P := P) (rest := nxS) (g := g) (fb := fb) (f := f) I h0 (fun p x q env a b => by simpa using hs p x q env a b) (fun env a => by simpa using hend env a)
  simpa using this
theorem loopRs {J : EnvT → Prop} {Q : Out → Prop} {rest : FS} {g : T → EnvT → Option EnvT} {fb : FS} {n : Nat} {f : Nat → T} {env : EnvT} (I : Nat → EnvT → Prop) (h0 : I 0 env)
    (hs : ∀ k env, k < n → I k env → gO (g (f k) env) fun e1 => stepO (I (k + 1)) (fun o => stepO J Q (contO o rest)) (fb e1)) (hend : ∀ env, I n env → stepO J Q (rest env)) : stepO J Q (contO (loopS g fb ((List.range n).map f) env) rest) := loopR (P := stepO J Q) I h0 hs hend
theorem loopR1s {J : EnvT → Prop} {Q : Out → Prop} {g : T → EnvT → Option EnvT} {fb : FS} {n : Nat} {f : Nat → T} {env : EnvT} (I : Nat → EnvT → Prop) (h0 : I 0 env)
    (hs : ∀ k env, k < n → I k env → gO (g (f k) env) fun e1 => stepO (I (k + 1)) (stepO J Q) (fb e1)) (hend : ∀ env, I n env → J env) : stepO J Q (loopS g fb ((List.range n).map f) env) := loopR1 (P := stepO J Q) I h0 hs fun env i => by simpa using hend env i
theorem loopMs {α : Type} {J : EnvT → Prop} {Q : Out → Prop} {rest : FS} {g : T → EnvT → Option EnvT} {fb : FS} {L : List α} {f : α → T} {env : EnvT} (I : List α → EnvT → Prop) (h0 : I [] env)
    (hs : ∀ p x q env, L = p ++ x :: q → I p env → gO (g (f x) env) fun e1 => stepO (I (p ++ [x])) (fun o => stepO J Q (contO o rest)) (fb e1)) (hend : ∀ env, I L env → stepO J Q (rest env)) : stepO J Q (contO (loopS g fb (L.map f) env) rest) := loopM (P := stepO J Q) I h0 hs hend
theorem loopM1s {α : Type} {J : EnvT → Prop} {Q : Out → Prop} {g : T → EnvT → Option EnvT} {fb : FS} {L : List α} {f : α → T} {env : EnvT} (I : List α → EnvT → Prop) (h0 : I [] env)
    (hs : ∀ p x q env, L = p ++ x :: q → I p env → gO (g (f x) env) fun e1 => stepO (I (p ++ [x])) (stepO J Q) (fb e1)) (hend : ∀ env, I L env → J env) : stepO J Q (loopS g fb (L.map f) env) := loopM1 (P := stepO J Q) I h0 hs fun env i => by simpa using hend env i
theorem contJs {J0 : EnvT → Prop} {Q : Out → Prop} {o : Out} {rest : FS} (J : EnvT → Prop) (h : nxO o J) (hr : ∀ e, J e → stepO J0 Q (rest e)) : stepO J0 Q (contO o rest) := contJ (P := stepO J0 Q) J h hr
@[simp] theorem itemsOf_tup {lp : Bool} {ts : List T} (h : T.vals ts = true) : itemsOf lp (.tup ts) = .ok ts := by
  simp [itemsOf, vals_has .brw h, vals_tags frze h]
@[simp] theorem itemsOf_own {lp : Bool} {ts : List T} (h : T.vals ts = true) : itemsOf lp (.lst .own ts) = .ok ts := by
  simp [itemsOf, vals_has .brw h, vals_tags frze h]
@[simp] theorem itemsOf_shr {lp : Bool} {ts : List T} (h : T.vals ts = true) : itemsOf lp (.lst .shr ts) = .ok ts := by
  simp [itemsOf, vals_has .brw h, vals_tags frze h]
@[simp] theorem itemsOf_prt {lp : Bool} {ts : List T} (h : T.vals ts = true) : itemsOf lp (.lst .prt ts) = .ok ts := by
  simp [itemsOf, vals_has .brw h, vals_tags frze h]
@[simp] theorem itemsOf_fzn {lp : Bool} {ts : List T} (h : T.vals ts = true) : itemsOf lp (.lst .fzn ts) = .ok ts := by
  simp [itemsOf, vals_has .brw h, vals_tags frze h]
@[simp] theorem itemsOf_brw {ts : List T} (h : T.vals ts = true) : itemsOf false (.lst .brw ts) = .ok ts := by
  simp [itemsOf, vals_has .brw h, vals_tags frze h]
@[simp] theorem tags_vals {f : Tg → Tg} {ts : List T} (h : T.vals ts = true) : T.tags f ts = ts := vals_tags f h
@[simp] theorem hasL_vals {g : Tg} {ts : List T} (h : T.vals ts = true) : T.hasL g ts = false := vals_has g h

@[simp] theorem vals_intF {α : Type} (f : α → Int) (l : List α) : T.vals (l.map fun x => .int (f x)) = true := vals_iff.mpr (by simp [T.val])
@[simp] theorem vals_strF {α : Type} (f : α → Str) (l : List α) : T.vals (l.map fun x => .str (f x)) = true := vals_iff.mpr (by simp [T.val])
@[simp] theorem vals_int1 (l : List Int) : T.vals (l.map T.int) = true := vals_ints l
@[simp] theorem vals_str1 (l : List Str) : T.vals (l.map T.str) = true := vals_strs l
/-! ### equality of data without truths -/
abbrev strOkB : Str → Bool := PyData.strOk
mutual
def nbD : PyData → Bool
  | .none => true
  | .int _ => true
  | .str x => strOkB x
  | .list xs => nbDs xs
  | .tuple xs => nbDs xs
  | _ => false
def nbDs : List PyData → Bool
  | [] => true
  | x :: xs => nbD x && nbDs xs
end
mutual
theorem nb_lay : ∀ {d : PyData}, nbD d = true → d.canLay0 = true
  | .none, _ => rfl
  | .int _, _ => rfl
  | .str x, h => h
  | .list xs, h => nbs_lay (ds := xs) h
  | .tuple xs, h => nbs_lay (ds := xs) h
  | .bool _, h => by simp [nbD] at h
  | .dict _, h => by simp [nbD] at h
theorem nbs_lay : ∀ {ds : List PyData}, nbDs ds = true → PyData.canLayAll0 ds = true
  | [], _ => rfl
  | d :: ds, h => by
    simp only [nbDs, Bool.and_eq_true] at h
    simp only [PyData.canLayAll0, nb_lay h.1, nbs_lay h.2, Bool.and_self]
end
mutual
theorem eqv_iff : ∀ {d e : PyData}, nbD d = true → nbD e = true → (PyData.eqv d e = true ↔ d = e)
  | .none, e, _, h => by cases e <;> simp_all [nbD, PyData.eqv]
  | .int _, e, _, h => by cases e <;> simp_all [nbD, PyData.eqv]
  | .str x, e, _, h => by cases e <;> simp_all [nbD, PyData.eqv]
  | .list xs, e, g, h => by
    cases e <;> simp_all [nbD, PyData.eqv]
    exact eqvs_iff g h
  | .tuple xs, e, g, h => by
    cases e <;> simp_all [nbD, PyData.eqv]
    exact eqvs_iff g h
  | .bool _, _, g, _ => by simp [nbD] at g
  | .dict _, _, g, _ => by simp [nbD] at g
theorem eqvs_iff : ∀ {ds es : List PyData}, nbDs ds = true → nbDs es = true → (PyData.eqvAll ds es = true ↔ ds = es)
  | [], [], _, _ => by simp [PyData.eqvAll]
  | [], e :: es, _, _ => by simp [PyData.eqvAll]
  | d :: ds, [], _, _ => by simp [PyData.eqvAll]
  | d :: ds, e :: es, g, h => by
    simp only [nbDs, Bool.and_eq_true] at g h
    simp only [PyData.eqvAll, Bool.and_eq_true, List.cons.injEq, eqv_iff g.1 h.1, eqvs_iff g.2 h.2]
end
/-- == of two trees without truths, not too deep -/
theorem eqO_nb {x y : T} (hx : nbD x.toD = true) (hy : nbD y.toD = true) (dx : x.toD.depth ≤ 64) (dy : y.toD.depth ≤ 64) (sc : ∀ g ts, x = .lst g ts ∨ x = .tup ts → True) (hl : (∃ g ts, x = .lst g ts) ∨ ∃ ts, x = .tup ts) : ∃ b, eqO x y = some (.bl b) ∧ neO x y = some (.bl (!b)) ∧ (b = true ↔ x.toD = y.toD) := by
  have sx : dataOk x = true := by simp [dataOk, SeqAt.shaped, nb_lay hx, dx]
  have sy : dataOk y = true := by simp [dataOk, SeqAt.shaped, nb_lay hy, dy]
  have e : eqT x y = some (PyData.eqv x.toD y.toD) := by
    rcases hl with ⟨g, ts, rfl⟩ | ⟨ts, rfl⟩ <;> unfold eqT <;> simp [sx, sy]
  exact ⟨_, by unfold eqO; rw [e]; rfl, by unfold neO; rw [e]; rfl, eqv_iff hx hy⟩

/-! ### terms (whole numbers and texts) and lines -/
instance memKey (k : Key) (ks : List Key) : Decidable (k ∈ ks) := decidable_of_iff (ks.any (fun y => decide (y = k)) = true) (by simp)
def kD : Key → PyData
  | .inl i => .int i
  | .inr x => .str x
theorem toDs_kT : ∀ ks : List Key, T.toDs (ks.map kT) = ks.map kD
  | [] => rfl
  | .inl i :: ks => by simp [T.toDs, T.toD, kT, kD, toDs_kT ks]
  | .inr i :: ks => by simp [T.toDs, T.toD, kT, kD, toDs_kT ks]
theorem kD_inj {a b : Key} (h : kD a = kD b) : a = b := by cases a <;> cases b <;> simp_all [kD]
def okK : Key → Prop
  | .inl _ => True
  | .inr x => strOkB x = true
theorem nb_kD : ∀ {ks : List Key}, (∀ k ∈ ks, okK k) → nbDs (ks.map kD) = true
  | [], _ => rfl
  | .inl i :: ks, h => by simp [nbDs, nbD, kD, nb_kD (ks := ks) fun k hk => h k (by simp [hk])]
  | .inr i :: ks, h => by
    have : strOkB i = true := h (.inr i) (by simp)
    simp [nbDs, nbD, kD, this, nb_kD (ks := ks) fun k hk => h k (by simp [hk])]
theorem depth_kD : ∀ ks : List Key, PyData.depthAll (ks.map kD) = 0
  | [] => rfl
  | .inl i :: ks => by simp [PyData.depthAll, PyData.depth, kD, depth_kD ks]
  | .inr i :: ks => by simp [PyData.depthAll, PyData.depth, kD, depth_kD ks]
theorem eqO_keys {g h : Tg} {xs ys : List Key} (hx : ∀ k ∈ xs, okK k) (hy : ∀ k ∈ ys, okK k) : eqO (.lst g (xs.map kT)) (.lst h (ys.map kT)) = some (.bl (decide (xs = ys))) := by
  obtain ⟨b, h1, _, h2⟩ := eqO_nb (x := .lst g (xs.map kT)) (y := .lst h (ys.map kT)) (by simpa [T.toD, nbD, toDs_kT] using nb_kD hx) (by simpa [T.toD, nbD, toDs_kT] using nb_kD hy) (by simp [T.toD, toDs_kT, PyData.depth, depth_kD]) (by simp [T.toD, toDs_kT, PyData.depth, depth_kD]) (fun _ _ _ => trivial) (.inl ⟨_, _, rfl⟩)
  rw [h1]
  have : b = decide (xs = ys) := by
    rw [Bool.eq_iff_iff, h2]
    simp only [T.toD, toDs_kT, PyData.list.injEq, decide_eq_true_eq]
    exact ⟨fun e => List.map_inj_right (fun a b => kD_inj) |>.mp e, fun e => by rw [e]⟩
  rw [this]

@[simp] theorem val_kT (k : Key) : (kT k).val = true := by cases k <;> rfl
@[simp] theorem vals_kTs (ks : List Key) : T.vals (ks.map kT) = true := vals_iff.mpr (by simp)
@[simp] theorem tag_kT (f) (k : Key) : T.tag f (kT k) = kT k := val_tag f (val_kT k)
@[simp] theorem has_kT (g) (k : Key) : T.has g (kT k) = false := val_has g (val_kT k)
@[simp] theorem isT_kT (k : Key) : isT "str" (kT k) = some (.bl k.isRight) := by cases k <;> rfl
@[simp] theorem eqF_kT (a b : Key) : eqF (kT a) (kT b) = decide (a = b) := by cases a <;> cases b <;> simp [kT, eqF] <;> rfl
@[simp] theorem flat_kT (k : Key) : flatT (kT k) = true := by cases k <;> rfl
theorem inT_kT {x : T} {ks : List Key} {k : Key} (h : x = .tup (ks.map kT) ∨ ∃ g, x = .lst g (ks.map kT)) : inT (kT k) x = some (decide (k ∈ ks)) := by
  have a : (ks.map kT).all flatT = true := by simp
  have b : ((ks.map kT).any fun y => eqF y (kT k)) = decide (k ∈ ks) := by
    rw [Bool.eq_iff_iff]
    simp [List.any_eq_true]
  rcases h with rfl | ⟨g, rfl⟩ <;> simp [inT, a, b]
@[simp] theorem inO_tupK (k : Key) (ks : List Key) : inO (kT k) (.tup (ks.map kT)) = some (.bl (decide (k ∈ ks))) := by simp [inO, inT_kT (.inl rfl)]
@[simp] theorem inO_lstK (k : Key) (g : Tg) (ks : List Key) : inO (kT k) (.lst g (ks.map kT)) = some (.bl (decide (k ∈ ks))) := by simp [inO, inT_kT (.inr ⟨g, rfl⟩)]
@[simp] theorem ninO_tupK (k : Key) (ks : List Key) : ninO (kT k) (.tup (ks.map kT)) = some (.bl (!decide (k ∈ ks))) := by simp [ninO, inT_kT (.inl rfl)]
@[simp] theorem ninO_lstK (k : Key) (g : Tg) (ks : List Key) : ninO (kT k) (.lst g (ks.map kT)) = some (.bl (!decide (k ∈ ks))) := by simp [ninO, inT_kT (.inr ⟨g, rfl⟩)]
theorem map_kT_snoc (ks : List Key) (x : Key) : ks.map kT ++ [kT x] = (ks ++ [x]).map kT := by simp
theorem map_kT_int (ks : List Key) (x : Int) : ks.map kT ++ [T.int x] = (ks ++ [Sum.inl x]).map kT := by simp [kT]
theorem map_kT_str (ks : List Key) (x : Str) : ks.map kT ++ [T.str x] = (ks ++ [Sum.inr x]).map kT := by simp [kT]
abbrev Line := Str × List Key
def lineT (l : Line) : T := .tup [.str l.1, .tup (l.2.map kT)]
@[simp] theorem val_lineT (l : Line) : (lineT l).val = true := by simp [lineT, T.val, T.vals]
@[simp] theorem vals_lines (L : List Line) : T.vals (L.map lineT) = true := vals_iff.mpr (fun t ht => by obtain ⟨l, _, rfl⟩ := List.mem_map.mp ht; exact val_lineT l)
@[simp] theorem tag_lineT (f) (l : Line) : T.tag f (lineT l) = lineT l := val_tag f (val_lineT l)
@[simp] theorem has_lineT (g) (l : Line) : T.has g (lineT l) = false := val_has g (val_lineT l)
@[simp] theorem lineT_1 (l : Line) : ixT (lineT l) (.int 1) = some (.tup (l.2.map kT)) := id rfl
@[simp] theorem lineT_0 (l : Line) : ixT (lineT l) (.int 0) = some (.str l.1) := id rfl
theorem strOk_app {x y : Str} (hx : strOkB x = true) (hy : strOkB y = true) : strOkB (x ++ y) = true := by
  simp only [strOkB, PyData.strOk, PySem.Str.cps_append] at *
  rw [Array.all_append, hx, hy]; rfl
theorem strOk_one {c : Nat} (h : c < 1114112) : strOkB ⟨#[c]⟩ = true := by simp [strOkB, PyData.strOk, h]
theorem strOk_cut {z : Str} (lo hi : Option Int) (h : strOkB z = true) : strOkB (cutS z lo hi) = true := by
  simp only [strOkB, PyData.strOk, cutS, Array.all_eq_true_iff_forall_mem, decide_eq_true_eq] at *
  intro c hc
  refine h c ?_
  simp only [List.mem_toArray] at hc
  exact Array.mem_toList_iff.mp (List.mem_of_mem_drop (List.mem_of_mem_take hc))
theorem strOk_at {z : Str} {i : Nat} (h : strOkB z = true) : strOkB ⟨#[z.cps.toList.getD i 0]⟩ = true := by
  refine strOk_one ?_
  simp only [strOkB, PyData.strOk, Array.all_eq_true_iff_forall_mem, decide_eq_true_eq] at h
  rw [List.getD_eq_getElem?_getD]
  cases e : z.cps.toList[i]? with
  | none => decide
  | some c => exact h c (Array.mem_toList_iff.mp (List.mem_of_getElem? e))
/-- the names, each once, in the order of their first places -/
def nameStep (f : List Key) (k : Key) : List Key := if k.isRight = true ∧ k ∉ f then f ++ [k] else f
def namesK (L : List Line) : List Key := L.foldl (fun f l => l.2.foldl nameStep f) []
theorem mem_nameStep {f : List Key} {k x : Key} : x ∈ nameStep f k ↔ x ∈ f ∨ (k.isRight = true ∧ x = k) := by
  unfold nameStep
  split
  · rename_i h; simp [h.1]
  · rename_i h
    constructor
    · exact .inl
    · rintro (a | ⟨a, rfl⟩)
      · exact a
      · exact Classical.byContradiction fun z => h ⟨a, z⟩
theorem mem_nameFold {x : Key} : ∀ {ks f : List Key}, x ∈ ks.foldl nameStep f ↔ x ∈ f ∨ (x.isRight = true ∧ x ∈ ks)
  | [], f => by simp
  | k :: ks, f => by
    rw [List.foldl_cons, mem_nameFold, mem_nameStep]
    constructor
    · rintro ((a | ⟨a, rfl⟩) | ⟨a, b⟩)
      · exact .inl a
      · exact .inr ⟨a, by simp⟩
      · exact .inr ⟨a, by simp [b]⟩
    · rintro (a | ⟨a, b⟩)
      · exact .inl (.inl a)
      · rcases List.mem_cons.mp b with rfl | b
        · exact .inl (.inr ⟨a, rfl⟩)
        · exact .inr ⟨a, b⟩
theorem mem_namesK0 {x : Key} : ∀ {L : List Line} {f : List Key}, x ∈ L.foldl (fun f l => l.2.foldl nameStep f) f ↔ x ∈ f ∨ (x.isRight = true ∧ ∃ l ∈ L, x ∈ l.2)
  | [], f => by simp
  | l :: L, f => by
    rw [List.foldl_cons, mem_namesK0, mem_nameFold]
    constructor
    · rintro ((a | ⟨a, b⟩) | ⟨a, m, b, c⟩)
      · exact .inl a
      · exact .inr ⟨a, l, by simp, b⟩
      · exact .inr ⟨a, m, by simp [b], c⟩
    · rintro (a | ⟨a, m, b, c⟩)
      · exact .inl (.inl a)
      · rcases List.mem_cons.mp b with rfl | b
        · exact .inl (.inr ⟨a, c⟩)
        · exact .inr ⟨a, m, b, c⟩
theorem mem_namesK {x : Key} {L : List Line} : x ∈ namesK L ↔ x.isRight = true ∧ ∃ l ∈ L, x ∈ l.2 := by
  unfold namesK; rw [mem_namesK0]; simp only [List.not_mem_nil, false_or]
theorem nameFold_filter (p : Key → Bool) : ∀ (ks f : List Key), (ks.foldl nameStep f).filter p = ks.foldl (fun w x => if x.isRight = true ∧ p x = true ∧ x ∉ w then w ++ [x] else w) (f.filter p)
  | [], f => rfl
  | k :: ks, f => by
    rw [List.foldl_cons, nameFold_filter p ks, List.foldl_cons]
    congr 1
    unfold nameStep
    by_cases a : k.isRight = true <;> by_cases b : p k = true <;> by_cases c : k ∈ f <;> simp [a, b, c, List.filter_append, List.mem_filter]
theorem nameStep_len (f : List Key) (k : Key) : (nameStep f k).length ≤ f.length + 1 := by unfold nameStep; split <;> simp
theorem nameFold_len : ∀ (ks : List Key) (f : List Key), (ks.foldl nameStep f).length ≤ f.length + ks.length
  | [], f => by simp
  | k :: ks, f => by
    have := nameFold_len ks (nameStep f k)
    have := nameStep_len f k
    simp only [List.foldl_cons, List.length_cons]
    omega
end VS

namespace VS
open PySem PySem.Spec L2
open PyProof.Rows hiding St

/-! ### == and != of dicts -/
def dctEq (kvs lvs : List (T × T)) : Bool := kvs.length == lvs.length && kvs.all fun p => match lookT lvs p.1 with
  | some t => PyData.eqv p.2.toD t.toD
  | none => false
def dctOk (kvs : List (T × T)) : Bool := kvs.all fun p => isK p.1 && dataOk p.2
def rDct (K : PySem.W.Frag) (neg : Bool) : R2 := fun x y H Q => ∃ (a b : Addr) (ks ls : List (Key × V)) (kvs lvs : List (T × T)) (P1 P2 : Al) (G1 G2 : List Addr), x = .ref a ∧ y = .ref b ∧ Rd H a (.dK ks) ∧ Rd H b (.dK ls) ∧
  RepD K H P1 kvs (ks.map fun p => (kT p.1, p.2)) G1 ∧ RepD K H P2 lvs (ls.map fun p => (kT p.1, p.2)) G2 ∧ dctOk kvs = true ∧ dctOk lvs = true ∧ Q (.bl (if neg then !dctEq kvs lvs else dctEq kvs lvs)) H
theorem lookT_mem {lvs : List (T × T)} {k t : T} (h : lookT lvs k = some t) : ∃ p ∈ lvs, p.2 = t := by
  unfold lookT at h
  cases e : lvs.find? (fun p => decide (kOf p.1 = kOf k)) with
  | none => rw [e] at h; cases h
  | some p => rw [e] at h; exact ⟨p, List.mem_of_find?_eq_some e, by simpa using h⟩
section
variable {X : Cx} {pins : List (Addr × Obj)} {σ : L2.St} {H : Hp} {s : Shared}
theorem dct_hits (I : Inv X pins σ H s) {A : Around} (hu : A.in1.units + 64 < cLine) {ls : List (Key × V)} {lvs : List (T × T)} {P2 : Al} {G2 : List Addr} {vb : List (Key × Value)} (rb : KV ls vb) (r2 : RepD X.K H P2 lvs (ls.map fun p => (kT p.1, p.2)) G2) (ok2 : dctOk lvs = true) :
    ∀ (ks : List (Key × V)) (kvs : List (T × T)) (P1 : Al) (G1 : List Addr) (va : List (Key × Value)), KV ks va → RepD X.K H P1 kvs (ks.map fun p => (kT p.1, p.2)) G1 → dctOk kvs = true →
      PySem.W.KeqHits A.in1 s vb va (kvs.all fun p => match lookT lvs p.1 with
        | some t => PyData.eqv p.2.toD t.toD
        | none => false)
  | [], [], _, _, va, ra, _, _ => by
    cases ra
    exact .nil
  | [], (k, t) :: kvs, _, _, _, _, r, _ => by
    obtain ⟨_, _, _, _, h, _⟩ := r
    cases h
  | p :: ks, [], _, _, _, _, r, _ => by
    obtain ⟨h, _⟩ := r
    cases h
  | p :: ks, (k, t) :: kvs, P1, G1, va, ra, r, ok => by
    obtain ⟨v, r', F1, F2, e1, e2, c, d⟩ := r
    simp only [List.map_cons, List.cons.injEq, Prod.mk.injEq] at e1
    obtain ⟨⟨rfl, rfl⟩, rfl⟩ := e1
    simp only [dctOk, List.all_cons, Bool.and_eq_true] at ok
    obtain ⟨⟨_, od⟩, ok'⟩ := ok
    cases ra with
    | @cons _ q _ qs h tl =>
      obtain ⟨h1, h2⟩ := h
      obtain ⟨key, w⟩ := q
      have h1' : p.1 = key := h1
      subst h1'
      have ih := dct_hits I hu rb r2 ok2 ks kvs P1 F2 qs tl d ok'
      rw [List.all_cons]
      have rv : RelO (valV ls p.1) (valueAt vb p.1) := rb.val p.1
      rcases look_K ls r2 p.1 with ⟨t2, v2, G', l1, l2, rr, _⟩ | ⟨l1, l2⟩
      · rw [l1]
        dsimp only
        rw [l2] at rv
        obtain ⟨y, hy, ry⟩ := rv.some_of
        obtain ⟨q2, m2, rfl⟩ := lookT_mem l1
        have o2 : dataOk q2.2 = true := by
          simp only [dctOk, List.all_eq_true, Bool.and_eq_true] at ok2
          exact (ok2 q2 m2).2
        obtain ⟨as, x1⟩ := Dp.reads I _ _ _ (dataOk_dp od c) h2
        obtain ⟨bs, x2⟩ := Dp.reads I _ _ _ (dataOk_dp o2 rr) ry
        exact .hit hy (PySem.W.keq_at (A := A) x1 x2 od o2 hu) ih
      · rw [l1]
        dsimp only
        rw [Bool.false_and]
        rw [l2] at rv
        have hn : valueAt vb p.1 = none := by
          cases e : valueAt vb p.1 with
          | none => rfl
          | some z => rw [e] at rv; exact rv.elim
        exact .miss hn
end
theorem op_dctEq {X : Cx} (hu : X.A.units + 65 < cLine) : OpR X (compareOp .Eq) (rDct X.K false) := by
  intro pins s σ H x y v u Q I rx ry h
  obtain ⟨a, b, ks, ls, kvs, lvs, P1, P2, G1, G2, rfl, rfl, ha, hb, r1, r2, o1, o2, q⟩ := h
  cases (show v = Value.ref a from rx)
  cases (show u = Value.ref b from ry)
  obtain ⟨_, ya, va, ra, da⟩ := (show ObjOk X.prog X.w H s.heap a (.dK ks) from ha.ok I.hok)
  obtain ⟨_, yb, vb, rb, db⟩ := (show ObjOk X.prog X.w H s.heap b (.dK ls) from hb.ok I.hok)
  refine PySem.W.keq_eq (knd := mixKind X.prog X.w) ya yb da db (by omega) (fun _ => dct_hits I (by show X.A.units + 1 + 64 < cLine; omega) rb r2 o2 ks kvs P1 G1 va ra r1 o1) ?_
  have e1 : va.length = kvs.length := by rw [← ra.length]; have := congrArg List.length (repD_keys r1); simpa using this.symm
  have e2 : vb.length = lvs.length := by rw [← rb.length]; have := congrArg List.length (repD_keys r2); simpa using this.symm
  rw [e1, e2]
  exact ⟨.bl _, H, I, rfl, q⟩
theorem op_dctNe {X : Cx} (hu : X.A.units + 65 < cLine) : OpR X (compareOp .NotEq) (rDct X.K true) := by
  intro pins s σ H x y v u Q I rx ry h
  obtain ⟨a, b, ks, ls, kvs, lvs, P1, P2, G1, G2, rfl, rfl, ha, hb, r1, r2, o1, o2, q⟩ := h
  cases (show v = Value.ref a from rx)
  cases (show u = Value.ref b from ry)
  obtain ⟨_, ya, va, ra, da⟩ := (show ObjOk X.prog X.w H s.heap a (.dK ks) from ha.ok I.hok)
  obtain ⟨_, yb, vb, rb, db⟩ := (show ObjOk X.prog X.w H s.heap b (.dK ls) from hb.ok I.hok)
  refine PySem.W.keq_ne (knd := mixKind X.prog X.w) ya yb da db (by omega) (fun _ => dct_hits I (by show X.A.units + 1 + 64 < cLine; omega) rb r2 o2 ks kvs P1 G1 va ra r1 o1) ?_
  have e1 : va.length = kvs.length := by rw [← ra.length]; have := congrArg List.length (repD_keys r1); simpa using this.symm
  have e2 : vb.length = lvs.length := by rw [← rb.length]; have := congrArg List.length (repD_keys r2); simpa using this.symm
  rw [e1, e2]
  exact ⟨.bl _, H, I, rfl, q⟩
def eqX : T → T → Option Bool
  | .dct _ kvs, .dct _ lvs => if dctOk kvs = true ∧ dctOk lvs = true then some (dctEq kvs lvs) else none
  | x, y => eqT x y
def eqXO (x y : T) : Option T := (eqX x y).map .bl
def neXO (x y : T) : Option T := (eqX x y).map fun b => .bl (!b)
theorem dctOk_isK {kvs : List (T × T)} (h : dctOk kvs = true) : (kvs.all fun q => isK q.1) = true := by
  simp only [dctOk, List.all_eq_true, Bool.and_eq_true] at h ⊢
  exact fun p hp => (h p hp).1
theorem eqX_dct {K : PySem.W.Frag} {H : Hp} {P P' : Al} {x y : V} {g g' : Tg} {kvs lvs : List (T × T)} {Fx Fy : List Addr} {neg : Bool} {Q : VK} (rx : Rep K H P (.dct g kvs) x Fx) (ry : Rep K H P' (.dct g' lvs) y Fy) (o1 : dctOk kvs = true) (o2 : dctOk lvs = true)
    (q : Q (.bl (if neg then !dctEq kvs lvs else dctEq kvs lvs)) H) : rDct K neg x y H Q := by
  obtain ⟨a, es, G, rfl, l, p, r⟩ := rx
  obtain ⟨b, es', G', rfl, l', p', r'⟩ := ry
  obtain ⟨o, rd, d⟩ := l.rd
  obtain ⟨o', rd', d'⟩ := l'.rd
  obtain ⟨ks, rfl, _, rfl, _⟩ := repD_dk r d (dctOk_isK o1)
  obtain ⟨ls, rfl, _, rfl, _⟩ := repD_dk r' d' (dctOk_isK o2)
  exact ⟨a, b, ks, ls, kvs, lvs, _, _, G, G', rfl, rfl, rd, rd', r, r', o1, o2, q⟩
theorem eqX_inv {x y : T} {k : Bool} (h : eqX x y = some k) : (∃ g kvs g' lvs, x = .dct g kvs ∧ y = .dct g' lvs ∧ dctOk kvs = true ∧ dctOk lvs = true ∧ k = dctEq kvs lvs) ∨ eqT x y = some k := by
  cases x with
  | dct g kvs => cases y with
    | dct g' lvs =>
      simp only [eqX] at h
      split at h
      · rename_i c; simp only [Option.some.injEq] at h; exact .inl ⟨g, kvs, g', lvs, rfl, rfl, c.1, c.2, h.symm⟩
      · cases h
    | _ => exact .inr h
  | _ => exact .inr h
theorem eqXO_ok {K : PySem.W.Frag} : Op2 K (fun x y H Q => (fun x y H Q => rEq x y H Q ∨ rEqD K x y H Q) x y H Q ∨ rDct K false x y H Q) eqXO := by
  intro H O C A x y tx ty Fx Fy Q t cz rx ry e h
  unfold eqXO at e
  cases q : eqX tx ty with
  | none => rw [q] at e; cases e
  | some k =>
    rw [q] at e
    simp only [Option.map_some, Option.some.injEq] at e
    subst e
    rcases eqX_inv q with ⟨g, kvs, g', lvs, rfl, rfl, o1, o2, rfl⟩ | q'
    · exact .inr (eqX_dct rx ry o1 o2 h.bl)
    · exact .inl (eqO_ok H O C A x y tx ty Fx Fy Q (.bl k) cz rx ry (by unfold eqO; rw [q']; rfl) h)
theorem neXO_ok {K : PySem.W.Frag} : Op2 K (fun x y H Q => (fun x y H Q => rNe x y H Q ∨ rNeD K x y H Q) x y H Q ∨ rDct K true x y H Q) neXO := by
  intro H O C A x y tx ty Fx Fy Q t cz rx ry e h
  unfold neXO at e
  cases q : eqX tx ty with
  | none => rw [q] at e; cases e
  | some k =>
    rw [q] at e
    simp only [Option.map_some, Option.some.injEq] at e
    subst e
    rcases eqX_inv q with ⟨g, kvs, g', lvs, rfl, rfl, o1, o2, rfl⟩ | q'
    · exact .inr (eqX_dct rx ry o1 o2 h.bl)
    · exact .inl (neO_ok H O C A x y tx ty Fx Fy Q (.bl (!k)) cz rx ry (by unfold neO; rw [q']; rfl) h)
section
variable {X : Cx} {ec : Nat → Addr} {W : WX} {a b : Expr} {fa fb : FE} {pos : Pos}
theorem DE.eqX (hu : X.A.units + 65 < cLine) (ha : DE X ec W a fa) (hb : DE X ec W b fb) : DE X ec W (.Compare a [.Eq] [b] pos) (bin2 eqXO fa fb) := DE.cmp (OpR.or (OpR.or op_eq (op_eqD (by omega))) (op_dctEq hu)) eqXO_ok ha hb (nomark _)
theorem DE.neX (hu : X.A.units + 65 < cLine) (ha : DE X ec W a fa) (hb : DE X ec W b fb) : DE X ec W (.Compare a [.NotEq] [b] pos) (bin2 neXO fa fb) := DE.cmp (OpR.or (OpR.or op_ne (op_neD (by omega))) (op_dctNe hu)) neXO_ok ha hb (nomark _)
theorem DT.eqX (hu : X.A.units + 65 < cLine) (ha : DE X ec W a fa) (hb : DE X ec W b fb) : DT X ec W (.Compare a [.Eq] [b] pos) (asB (bin2 eqXO fa fb)) := DT.cmp (OpR.or (OpR.or op_eq (op_eqD (by omega))) (op_dctEq hu)) eqXO_ok ha hb (nomark _)
theorem DT.neX (hu : X.A.units + 65 < cLine) (ha : DE X ec W a fa) (hb : DE X ec W b fb) : DT X ec W (.Compare a [.NotEq] [b] pos) (asB (bin2 neXO fa fb)) := DT.cmp (OpR.or (OpR.or op_ne (op_neD (by omega))) (op_dctNe hu)) neXO_ok ha hb (nomark _)
end
end VS

namespace VS
open PySem PySem.Spec L2
open PyProof.Rows hiding St

/-! ### methods of texts -/
def m1F (g : Str → T → Option T) (fo fe : FE) : FE := fun env => do
  let x ← fo env
  match x with
  | .str a => do let y ← fe env; R.ofO (g a y)
  | _ => .bad
def strsOf : List T → Option (List Str)
  | [] => some []
  | .str i :: r => (strsOf r).map (i :: ·)
  | _ => none
theorem reps_strs {K : PySem.W.Frag} {H : Hp} {P : Al} : ∀ {ts : List T} {ns : List Str} {vs : List V} {F : List Addr}, strsOf ts = some ns → Reps K H P ts vs F → vs = ns.map V.str
  | [], ns, _, _, h, r => by simp [strsOf] at h; subst h; exact r.1
  | t :: ts, ns, vs, F, h, r => by
    cases t with
    | str i =>
      simp only [strsOf] at h
      cases e : strsOf ts with
      | none => rw [e] at h; cases h
      | some ms =>
        rw [e] at h
        simp only [Option.map_some, Option.some.injEq] at h
        subst h
        obtain ⟨v, r', F1, F2, rfl, rfl, ⟨rfl, _⟩, d⟩ := r
        rw [reps_strs e d]; rfl
    | _ => simp [strsOf] at h
theorem strsOf_map (ns : List Str) : strsOf (ns.map T.str) = some ns := by
  induction ns with
  | nil => rfl
  | cons n ns ih => simp [strsOf, ih]
def joinT (a : Str) : T → Option T
  | .lst _ ts => (strsOf ts).bind fun ys => if (ys.map (·.length)).sum + ys.length * a.length ≤ 16777216 then some (.str (Txt.join a ys)) else none
  | .tup ts => (strsOf ts).bind fun ys => if (ys.map (·.length)).sum + ys.length * a.length ≤ 16777216 then some (.str (Txt.join a ys)) else none
  | _ => none
section
variable {X : Cx} {ec : Nat → Addr} {W : WX} {o e a b : Expr} {fo fe fa fb : FE} {apos pos : Pos}
theorem DE.m1 {id : String} {name : Str} {r : V → List V → Hp → VK → Prop} {g : Str → T → Option T} (slot : Slot "str" name id) (hty : typeOf (.builtin id) = pure (.type "method_descriptor")) (rule : MtR X id r)
    (hg : ∀ (H : Hp) (O C A : Addr → Prop) (a : Str) (y : V) (ty : T) (F : List Addr) (Q : VK) (t : T), Cz H O C A F → Rep X.K H (Pm O C (AF A F) A) ty y F → g a ty = some t → Fin X.K H O C A F Q t → r (.str a) [y] H Q)
    (ho : DE X ec W o fo) (he : DE X ec W e fe) (hs : starEach [e] X.env = [(false, eval e X.env)] := by rfl) (hbase : attributeBase o name X.env (eval o X.env) = eval o X.env := by rfl) (hline : (apos.endLine == pos.line) = true := by rfl) :
    DE X ec W (.Call (.Attribute o name apos) [e] [] pos) (m1F g fo fe) := by
  refine ⟨pe_mono (pe_m1 slot hty rule ho.run he.run hs hbase hline) fun σ H Q ⟨B, env, fp, s, h⟩ => ?_⟩
  refine tD.one (k := fun x => match x with | .str a => (do let y ← fe env; R.ofO (g a y)) | _ => .bad) (Q := Q) s h fun x tx Fx H1 e1 rx nx fx _ p => ?_
  cases tx with
  | str z =>
    obtain ⟨rfl, rfl⟩ := rx
    refine ⟨⟨z, rfl⟩, ?_⟩
    refine tD.one (k := fun y => R.ofO (g z y)) (Q := Q) (s.grow e1) (p.ext e1) fun y ty Fy H2 e2 ry ny fy _ p' => ?_
    cases eg : g z ty with
    | none => simp only [eg, R.ofO] at p'; exact p'.elim
    | some u =>
      simp only [eg, R.ofO] at p'
      exact hg H2 B.O B.C (Aw fp) z y ty Fy Q u ((s.grow e1).cz e2 ny fy) ry eg (p'.fin e2 fy)
  | _ => exact p.elim
theorem DE.join (ho : DE X ec W o fo) (he : DE X ec W e fe) (hs : starEach [e] X.env = [(false, eval e X.env)] := by rfl) (hbase : attributeBase o "join" X.env (eval o X.env) = eval o X.env := by rfl) (hline : (apos.endLine == pos.line) = true := by rfl) :
    DE X ec W (.Call (.Attribute o "join" apos) [e] [] pos) (m1F joinT fo fe) := by
  refine DE.m1 PySem.F.slot_str_join PySem.F.type_str_join mt_join (fun H O C A a y ty F Q t cz ry eg h => ?_) ho he hs hbase hline
  cases ty with
  | lst g ts =>
    obtain ⟨p, vs, G, rfl, l, fpp, r⟩ := ry
    simp only [joinT] at eg
    cases q : strsOf ts with
    | none => rw [q] at eg; cases eg
    | some ys =>
      rw [q, Option.bind_some] at eg
      split at eg
      · rename_i c; simp only [Option.some.injEq] at eg; subst eg
        have := reps_strs q r
        subst this
        exact ⟨a, p, ys, rfl, rfl, .inl l.sq, c, h.str⟩
      · cases eg
  | tup ts =>
    obtain ⟨p, vs, rfl, l, r⟩ := ry
    simp only [joinT] at eg
    cases q : strsOf ts with
    | none => rw [q] at eg; cases eg
    | some ys =>
      rw [q, Option.bind_some] at eg
      split at eg
      · rename_i c; simp only [Option.some.injEq] at eg; subst eg
        have := reps_strs q r
        subst this
        exact ⟨a, p, ys, rfl, rfl, .inr (SqT.of l), c, h.str⟩
      · cases eg
  | _ => simp [joinT] at eg
end
/-! the plain side -/
def strO (r : T) (k : Str → R T) : R T := match r with | .str a => k a | _ => .bad
@[simp] theorem strO_str (a : Str) (k : Str → R T) : strO (.str a) k = k a := id rfl
@[simp] theorem m1F_def (g : Str → T → Option T) (fo fe : FE) (env : EnvT) : m1F g fo fe env = (fo env >>= fun x => strO x fun a => fe env >>= fun y => R.ofO (g a y)) := by
  unfold m1F strO; rfl
theorem joinT_ok {a : Str} {x : T} {ys : List Str} (h : x = .tup (ys.map T.str) ∨ ∃ g, x = .lst g (ys.map T.str)) (hz : (ys.map (·.length)).sum + ys.length * a.length ≤ 16777216) : joinT a x = some (.str (Txt.join a ys)) := by
  rcases h with rfl | ⟨g, rfl⟩ <;> simp [joinT, strsOf_map, hz]
@[simp] theorem eqXO_int (i j : Int) : eqXO (.int i) (.int j) = some (.bl (decide (i = j))) := id rfl
@[simp] theorem neXO_int (i j : Int) : neXO (.int i) (.int j) = some (.bl (!decide (i = j))) := id rfl
@[simp] theorem eqXO_str (i j : Str) : eqXO (.str i) (.str j) = some (.bl (decide (i = j))) := id rfl
@[simp] theorem neXO_str (i j : Str) : neXO (.str i) (.str j) = some (.bl (!decide (i = j))) := id rfl
@[simp] theorem eqXO_bl (i j : Bool) : eqXO (.bl i) (.bl j) = some (.bl (decide (i = j))) := id rfl
@[simp] theorem neXO_bl (i j : Bool) : neXO (.bl i) (.bl j) = some (.bl (!decide (i = j))) := id rfl
@[simp] theorem eqXO_lst (g : Tg) (xs : List T) (y : T) : eqXO (.lst g xs) y = eqO (.lst g xs) y := by cases y <;> rfl
@[simp] theorem neXO_lst (g : Tg) (xs : List T) (y : T) : neXO (.lst g xs) y = neO (.lst g xs) y := by cases y <;> rfl
@[simp] theorem eqXO_tup (xs : List T) (y : T) : eqXO (.tup xs) y = eqO (.tup xs) y := by cases y <;> rfl
@[simp] theorem neXO_tup (xs : List T) (y : T) : neXO (.tup xs) y = neO (.tup xs) y := by cases y <;> rfl
theorem eqXO_dct {g g' : Tg} {kvs lvs : List (T × T)} (h1 : dctOk kvs = true) (h2 : dctOk lvs = true) : eqXO (.dct g kvs) (.dct g' lvs) = some (.bl (dctEq kvs lvs)) := by simp [eqXO, VS.eqX, h1, h2]
theorem neXO_dct {g g' : Tg} {kvs lvs : List (T × T)} (h1 : dctOk kvs = true) (h2 : dctOk lvs = true) : neXO (.dct g kvs) (.dct g' lvs) = some (.bl (!dctEq kvs lvs)) := by simp [neXO, VS.eqX, h1, h2]
end VS

namespace VS
open PySem PySem.Spec L2
open PyProof.Rows hiding St

/-! ### stores, cuts, look-ups: the plain side -/
def setO (o : Option T) (i : Nat) (env : EnvT) : Out := match o with | some c => .nx (env.set i (some c)) | none => .bad
@[simp] theorem setO_some (c : T) (i : Nat) (env : EnvT) : setO (some c) i env = .nx (env.set i (some c)) := id rfl
@[simp] theorem putS_def (i : Nat) (fk fe : FE) (env : EnvT) : putS i fk fe env = (match look env i with
  | some c => bS env (fe env) fun t => bS env (fk env) fun k => if t.has .brw = false then setO (setT c k t) i env else .bad
  | none => .bad) := by
  have h := look_get (fun c => bS env (fe env) fun t => bS env (fk env) fun k => if t.has .brw = false then setO (setT c k t) i env else .bad) .bad env i
  refine Eq.trans ?_ h
  unfold putS setO
  cases e : env[i]? with
  | none => rfl
  | some o => cases o <;> rfl
def boO (x : T) (k l : R T) : R T := match x with | .bl true => k | .bl false => l | _ => .bad
@[simp] theorem boO_bl (b : Bool) (k l : R T) : boO (.bl b) k l = if b = true then k else l := by cases b <;> rfl
@[simp] theorem andF_def (fa fb : FE) (env : EnvT) : andF fa fb env = (fa env >>= fun x => boO x (fb env) (.ok (.bl false))) := by
  unfold andF boO
  cases fa env with
  | ok x => cases x <;> first | rfl | (rename_i b; cases b <;> rfl)
  | _ => rfl
@[simp] theorem orF_def (fa fb : FE) (env : EnvT) : orF fa fb env = (fa env >>= fun x => boO x (.ok (.bl true)) (fb env)) := by
  unfold orF boO
  cases fa env with
  | ok x => cases x <;> first | rfl | (rename_i b; cases b <;> rfl)
  | _ => rfl
@[simp] theorem notF_def (fa : FE) (env : EnvT) : notF fa env = (fa env >>= fun x => boO x (.ok (.bl false)) (.ok (.bl true))) := by
  unfold notF boO
  cases fa env with
  | ok x => cases x <;> first | rfl | (rename_i b; cases b <;> rfl)
  | _ => rfl
@[simp] theorem ifF_def (fc : EnvT → R Bool) (fa fb : FE) (env : EnvT) : ifF fc fa fb env = (fc env >>= fun x => if x = true then fa env else fb env) := id rfl
theorem setT_lst {xs : List T} {n : Int} {t : T} (h0 : 0 ≤ n) (h1 : n < xs.length) : setT (.lst .own xs) (.int n) t = some (.lst .own (xs.set n.toNat t)) := by
  simp [setT, ixN, h0, h1]
@[simp] theorem sliceT_lst (g : Tg) (xs : List T) (lo hi : Option Int) : sliceT (.lst g xs) lo hi = some (.lst .own (cutT xs lo hi)) := id rfl
@[simp] theorem sliceT_tup (xs : List T) (lo hi : Option Int) : sliceT (.tup xs) lo hi = some (.tup (cutT xs lo hi)) := id rfl
theorem cutT_map {α β : Type} (f : α → β) (xs : List α) (lo hi : Option Int) : cutT (xs.map f) lo hi = (cutT xs lo hi).map f := by
  simp [cutT, List.map_take, List.map_drop]
theorem mem_cutT {α : Type} {x : α} {xs : List α} {lo hi : Option Int} (h : x ∈ cutT xs lo hi) : x ∈ xs := List.mem_of_mem_drop (List.mem_of_mem_take h)
theorem cutT_len {α : Type} (xs : List α) (lo hi : Option Int) : (cutT xs lo hi).length ≤ xs.length := by
  simp [cutT]; omega
theorem sum_ones : ∀ {bs : List Str}, (∀ b ∈ bs, b.length = 1) → (bs.map (·.length)).sum = bs.length
  | [], _ => rfl
  | b :: bs, h => by
    rw [List.map_cons, List.sum_cons, sum_ones fun x hx => h x (by simp [hx]), h b (by simp), List.length_cons]
    omega
theorem join_ones {bs : List Str} {x : T} (h : x = .tup (bs.map T.str) ∨ ∃ g, x = .lst g (bs.map T.str)) (h1 : ∀ b ∈ bs, b.length = 1) (h2 : bs.length ≤ 1000) : joinT ("" : Str) x = some (.str (Txt.join "" bs)) := by
  refine joinT_ok h ?_
  rw [sum_ones h1]
  have : Str.length ("" : Str) = 0 := by decide +kernel
  rw [this]
  omega
theorem mem_set {α : Type} {x y : α} {xs : List α} {i : Nat} (h : x ∈ xs.set i y) : x ∈ xs ∨ x = y := List.mem_or_eq_of_mem_set h
theorem map_set {α β : Type} (f : α → β) (xs : List α) (i : Nat) (y : α) : (xs.map f).set i (f y) = (xs.set i y).map f := by simp [List.map_set]
def dvO (d : T) (k : T → R T) : R T := if isDv d = true then k d else .bad
@[simp] theorem getF_def (fd fk fz : FE) (env : EnvT) : getF fd fk fz env = (fd env >>= fun d => dvO d fun d => fk env >>= fun k => fz env >>= fun z => R.ofO (getT d k z)) := id rfl
@[simp] theorem dvO_shr (kvs : List (T × T)) (k : T → R T) : dvO (.dct .shr kvs) k = k (.dct .shr kvs) := id rfl
@[simp] theorem dvO_prt (kvs : List (T × T)) (k : T → R T) : dvO (.dct .prt kvs) k = k (.dct .prt kvs) := id rfl
@[simp] theorem dvO_brw (kvs : List (T × T)) (k : T → R T) : dvO (.dct .brw kvs) k = k (.dct .brw kvs) := id rfl
end VS

namespace VS
open PySem PySem.Spec L2
open PyProof.Rows hiding St

/-! ### rows (tuples of whole numbers) and books -/
abbrev Row := List Int
def rowT (r : Row) : T := .tup (r.map T.int)
@[simp] theorem val_row (r : Row) : (rowT r).val = true := vals_ints r
@[simp] theorem vals_rows (R : List Row) : T.vals (R.map rowT) = true := vals_iff.mpr fun t ht => by obtain ⟨l, _, rfl⟩ := List.mem_map.mp ht; exact val_row l
@[simp] theorem tag_row (f) (r : Row) : T.tag f (rowT r) = rowT r := val_tag f (val_row r)
@[simp] theorem has_row (g) (r : Row) : T.has g (rowT r) = false := val_has g (val_row r)
def intD (i : Int) : PyData := .int i
def rowD (r : Row) : PyData := .tuple (r.map intD)
theorem toDs_ints : ∀ ns : List Int, T.toDs (ns.map T.int) = ns.map intD
  | [] => rfl
  | n :: ns => by simp [T.toDs, T.toD, intD, toDs_ints ns]
theorem toD_row (r : Row) : (rowT r).toD = rowD r := by simp [rowT, T.toD, rowD, toDs_ints]
theorem toDs_rows : ∀ R : List Row, T.toDs (R.map rowT) = R.map rowD
  | [] => rfl
  | n :: ns => by simp [T.toDs, toD_row, toDs_rows ns]
theorem nb_ints : ∀ ns : List Int, nbDs (ns.map intD) = true
  | [] => rfl
  | n :: ns => by simp [nbDs, nbD, intD, nb_ints ns]
theorem nb_rows : ∀ R : List Row, nbDs (R.map rowD) = true
  | [] => rfl
  | n :: ns => by simp [nbDs, nbD, rowD, nb_ints, nb_rows ns]
theorem depth_ints : ∀ ns : List Int, PyData.depthAll (ns.map intD) = 0
  | [] => rfl
  | n :: ns => by simp [PyData.depthAll, PyData.depth, intD, depth_ints ns]
theorem depth_rows : ∀ R : List Row, PyData.depthAll (R.map rowD) ≤ 1
  | [] => by simp [PyData.depthAll]
  | n :: ns => by
    have := depth_rows ns
    simp [PyData.depthAll, PyData.depth, rowD, depth_ints]; omega
theorem intD_inj {a b : Int} (h : intD a = intD b) : a = b := by simpa [intD] using h
theorem rowD_inj {a b : Row} (h : rowD a = rowD b) : a = b := by
  simp only [rowD, PyData.tuple.injEq] at h
  exact (List.map_inj_right fun _ _ => intD_inj).mp h
theorem data_rows (g : Tg) (R : List Row) : dataOk (.lst g (R.map rowT)) = true := by
  have := depth_rows R
  simp only [dataOk, SeqAt.shaped, T.toD, toDs_rows, PyData.canLay0, nbs_lay (nb_rows R), Bool.true_and, decide_eq_true_eq, PyData.depth]
  omega
abbrev Book := List (Str × List Row)
def dE (g : Tg) (p : Str × List Row) : T × T := (.str p.1, .lst g (p.2.map rowT))
def bookT (o g : Tg) (D : Book) : T := .dct o (D.map (dE g))
def lookD (D : Book) (s : Str) : Option (List Row) := (D.find? fun p => decide (p.1 = s)).map (·.2)
def putD (D : Book) (s : Str) (R : List Row) : Book := if (D.any fun p => decide (p.1 = s)) = true then D.map fun p => if p.1 = s then (p.1, R) else p else D ++ [(s, R)]
theorem kOf_str {a b : Str} : (kOf (.str a) = kOf (.str b)) ↔ a = b := by
  have := kT_inj (.inr a) (.inr b)
  simp only [kT] at this
  rw [this]; simp
theorem tagD_book (f : Tg → Tg) (g : Tg) : ∀ D : Book, T.tagD f (D.map (dE g)) = D.map (dE (f g))
  | [] => rfl
  | p :: D => by
    show (T.str p.1, T.tag f (.lst g (p.2.map rowT))) :: T.tagD f (D.map (dE g)) = _
    rw [tagD_book f g D]
    simp [dE]
@[simp] theorem tag_book (f : Tg → Tg) (o g : Tg) (D : Book) : T.tag f (bookT o g D) = bookT (f o) (f g) D := by
  rw [bookT, tag_dct, tagD_book]; rfl
theorem hasD_book (h g : Tg) : ∀ D : Book, T.hasD h (D.map (dE g)) = (decide (g = h) && !D.isEmpty)
  | [] => by simp [T.hasD]
  | p :: D => by
    show (T.has h (.lst g (p.2.map rowT)) || T.hasD h (D.map (dE g))) = _
    rw [hasD_book h g D]
    rw [has_lst, hasL_vals (vals_rows p.2), Bool.or_false]
    cases decide (g = h) <;> rfl
theorem has_book (h o g : Tg) (D : Book) : T.has h (bookT o g D) = (decide (o = h) || (decide (g = h) && !D.isEmpty)) := by
  rw [bookT, has_dct, hasD_book]
@[simp] theorem has_book_brw (D : Book) : T.has .brw (bookT .brw .brw D) = true := by rw [has_book]; rfl
@[simp] theorem has_book_own (D : Book) : T.has .brw (bookT .own .own D) = false := by rw [has_book]; rfl
@[simp] theorem has_book_prt (D : Book) : T.has .brw (bookT .prt .prt D) = false := by rw [has_book]; rfl
@[simp] theorem dvO_book_prt (g : Tg) (D : Book) (k : T → R T) : dvO (bookT .prt g D) k = k (bookT .prt g D) := id rfl
@[simp] theorem dvO_book_brw (g : Tg) (D : Book) (k : T → R T) : dvO (bookT .brw g D) k = k (bookT .brw g D) := id rfl
theorem look_book (g : Tg) (s : Str) : ∀ D : Book, lookT (D.map (dE g)) (.str s) = (lookD D s).map fun R => .lst g (R.map rowT)
  | [] => rfl
  | p :: D => by
    have ih := look_book g s D
    unfold lookT lookD at *
    rw [List.map_cons, List.find?_cons, List.find?_cons]
    by_cases e : p.1 = s
    · have e2 : kOf (dE g p).1 = kOf (.str s) := kOf_str.mpr e
      simp [e, e2, dE]
    · have e2 : ¬ kOf (dE g p).1 = kOf (.str s) := fun z => e (kOf_str.mp z)
      simp only [e2, e, decide_false]
      exact ih
theorem fit_book (g : Tg) (D : Book) (s : Str) : keyFit (D.map (dE g)) (.str s) = true := by
  simp only [keyFit, Bool.or_eq_true, Bool.and_eq_true, List.all_eq_true]
  refine .inl ⟨rfl, fun p hp => ?_⟩
  obtain ⟨q, _, rfl⟩ := List.mem_map.mp hp
  rfl
theorem get_book (o g : Tg) (D : Book) (s : Str) (z : T) : getT (bookT o g D) (.str s) z = some (((lookD D s).map fun R => T.lst g (R.map rowT)).getD z) := by
  simp [getT, bookT, fit_book, look_book]
theorem put_book (D : Book) (s : Str) (R : List Row) (h : D.length < 16777216) : setT (bookT .own .own D) (.str s) (.lst .own (R.map rowT)) = some (bookT .own .own (putD D s R)) := by
  have e : putT (D.map (dE .own)) (.str s) (.lst .own (R.map rowT)) = (putD D s R).map (dE .own) := by
    unfold putT putD
    have a : ((D.map (dE .own)).any fun p => decide (kOf p.1 = kOf (.str s))) = D.any fun p => decide (p.1 = s) := by
      rw [List.any_map]
      congr 1
      funext p
      exact decide_eq_decide.mpr kOf_str
    rw [a]
    split
    · rw [List.map_map, List.map_map]
      refine List.map_congr_left fun p _ => ?_
      by_cases q : p.1 = s
      · have q2 : kOf (dE .own p).1 = kOf (.str s) := kOf_str.mpr q
        simp [q, q2, dE]
      · have q2 : ¬ kOf (dE .own p).1 = kOf (.str s) := fun z => q (kOf_str.mp z)
        simp [q, q2]
    · simp [dE]
  simp only [bookT, setT, fit_book, List.length_map, sizeLine_eq, h, and_self, if_true, e]
theorem putD_len (D : Book) (s : Str) (R : List Row) : (putD D s R).length ≤ D.length + 1 := by unfold putD; split <;> simp
theorem putD_keys (D : Book) (s : Str) (R : List Row) (h : (D.map (·.1)).Nodup) : ((putD D s R).map (·.1)).Nodup := by
  unfold putD
  split
  · rename_i c
    have : (D.map fun p => if p.1 = s then (p.1, R) else p).map (·.1) = D.map (·.1) := by
      rw [List.map_map]
      refine List.map_congr_left fun p _ => ?_
      simp only [Function.comp]
      split <;> rfl
    rw [this]; exact h
  · rename_i c
    rw [List.map_append, List.nodup_append]
    refine ⟨h, by simp, fun x hx y hy => ?_⟩
    simp only [List.map_cons, List.map_nil, List.mem_singleton] at hy
    subst hy
    rintro rfl
    obtain ⟨p, hp, e⟩ := List.mem_map.mp hx
    exact c (List.any_eq_true.mpr ⟨p, hp, by simpa using e⟩)
theorem lookD_put (D : Book) (s t : Str) (R : List Row) : lookD (putD D s R) t = if t = s then some R else lookD D t := by
  unfold putD
  split
  · rename_i c
    induction D with
    | nil => simp at c
    | cons p D ih =>
      unfold lookD at *
      rw [List.map_cons, List.find?_cons]
      by_cases q : p.1 = s
      · by_cases q2 : t = s
        · subst q2; simp [q]
        · have q3 : ¬ s = t := fun z => q2 z.symm
          have q4 : ¬ p.1 = t := by rw [q]; exact q3
          simp only [q, if_true, q3, decide_false, q2, if_false]
          rw [List.find?_cons_of_neg (by simpa using q4)]
          by_cases any : (D.any fun p => decide (p.1 = s)) = true
          · have := ih any; rw [if_neg q2] at this; exact this
          · have : (D.map fun p => if p.1 = s then (p.1, R) else p) = D := by
              conv => rhs; rw [← List.map_id D]
              refine List.map_congr_left fun p hp => ?_
              have : ¬ p.1 = s := fun z => any (List.any_eq_true.mpr ⟨p, hp, by simpa using z⟩)
              simp [this]
            rw [this]
      · simp only [q, if_false]
        rw [List.find?_cons]
        have any : (D.any fun p => decide (p.1 = s)) = true := by simpa [q] using c
        by_cases q2 : p.1 = t
        · have q3 : ¬ t = s := fun z => q (q2.trans z)
          simp only [q2, decide_true, if_neg q3]
        · simp only [q2, decide_false]
          exact ih any
  · rename_i c
    unfold lookD
    rw [List.find?_append]
    by_cases q : t = s
    · subst q
      have : D.find? (fun p => decide (p.1 = t)) = none := by
        rw [List.find?_eq_none]
        intro p hp z
        exact c (List.any_eq_true.mpr ⟨p, hp, z⟩)
      simp [this]
    · have q3 : ¬ s = t := fun z => q z.symm
      simp [q, q3]
theorem lookD_mem {D : Book} {p : Str × List Row} (h : (D.map (·.1)).Nodup) (m : p ∈ D) : lookD D p.1 = some p.2 := by
  induction D with
  | nil => simp at m
  | cons q D ih =>
    unfold lookD at *
    rw [List.find?_cons]
    rw [List.map_cons, List.nodup_cons] at h
    rcases List.mem_cons.mp m with rfl | m
    · simp
    · have : ¬ q.1 = p.1 := fun z => h.1 (z ▸ List.mem_map.mpr ⟨p, m, rfl⟩)
      simp only [this, decide_false]
      exact ih h.2 m
theorem dctOk_book (g : Tg) (D : Book) : dctOk (D.map (dE g)) = true := by
  simp only [dctOk, List.all_eq_true, Bool.and_eq_true]
  intro p hp
  obtain ⟨q, _, rfl⟩ := List.mem_map.mp hp
  exact ⟨rfl, data_rows g q.2⟩
theorem ne_book_same (g : Tg) (o o' : Tg) (D : Book) (h : (D.map (·.1)).Nodup) : neXO (bookT o g D) (bookT o' g D) = some (.bl false) := by
  unfold bookT
  rw [neXO_dct (dctOk_book g D) (dctOk_book g D)]
  have : dctEq (D.map (dE g)) (D.map (dE g)) = true := by
    simp only [dctEq, Bool.and_eq_true, List.all_eq_true, beq_self_eq_true, true_and]
    intro p hp
    obtain ⟨q, m, rfl⟩ := List.mem_map.mp hp
    show (match lookT (D.map (dE g)) (.str q.1) with | some t => PyData.eqv (dE g q).2.toD t.toD | none => false) = true
    rw [look_book, lookD_mem h m]
    show PyData.eqv (T.toD (.lst g (q.2.map rowT))) (T.toD (.lst g (q.2.map rowT))) = true
    have nb : nbD (T.toD (.lst g (q.2.map rowT))) = true := by simp only [T.toD, toDs_rows, nbD, nb_rows]
    exact (eqv_iff nb nb).mpr rfl
  rw [this]; rfl
theorem cutT_take {α : Type} (xs : List α) (w : Int) (h : 0 ≤ w) : cutT xs none (some w) = xs.take w.toNat := by
  unfold cutT
  have h1 : HT.sIx xs.length 0 none = 0 := rfl
  have h2 : HT.sIx xs.length xs.length (some w) = min w.toNat xs.length := by
    show (if w < 0 then _ else min w.toNat xs.length) = _
    rw [if_neg (by omega)]
  rw [h1, h2, List.drop_zero, Nat.sub_zero]
  rcases Nat.le_total w.toNat xs.length with q | q
  · rw [Nat.min_eq_left q]
  · rw [Nat.min_eq_right q, List.take_length, List.take_of_length_le q]
end VS

namespace VS
open PySem PySem.Spec L2
open PyProof.Rows hiding St

/-! ### dicts with text keys and values of one kind -/
section
variable {α : Type}
def dP (f : α → T) (p : Str × α) : T × T := (.str p.1, f p.2)
def dicT (o : Tg) (f : α → T) (D : List (Str × α)) : T := .dct o (D.map (dP f))
def lookS (D : List (Str × α)) (s : Str) : Option α := (D.find? fun p => decide (p.1 = s)).map (·.2)
def setD (D : List (Str × α)) (s : Str) (R : α) : List (Str × α) := if (D.any fun p => decide (p.1 = s)) = true then D.map fun p => if p.1 = s then (p.1, R) else p else D ++ [(s, R)]
theorem look_dic (f : α → T) (s : Str) : ∀ D : List (Str × α), lookT (D.map (dP f)) (.str s) = (lookS D s).map f
  | [] => rfl
  | p :: D => by
    have ih := look_dic f s D
    unfold lookT lookS at *
    rw [List.map_cons, List.find?_cons, List.find?_cons]
    by_cases e : p.1 = s
    · have e2 : kOf (dP f p).1 = kOf (.str s) := kOf_str.mpr e
      simp [e, e2, dP]
    · have e2 : ¬ kOf (dP f p).1 = kOf (.str s) := fun z => e (kOf_str.mp z)
      simp only [e2, e, decide_false]
      exact ih
theorem fit_dic (f : α → T) (D : List (Str × α)) (s : Str) : keyFit (D.map (dP f)) (.str s) = true := by
  simp only [keyFit, Bool.or_eq_true, Bool.and_eq_true, List.all_eq_true]
  refine .inl ⟨rfl, fun p hp => ?_⟩
  obtain ⟨q, _, rfl⟩ := List.mem_map.mp hp
  rfl
theorem get_dic (o : Tg) (f : α → T) (D : List (Str × α)) (s : Str) (z : T) : getT (dicT o f D) (.str s) z = some (((lookS D s).map f).getD z) := by
  simp [getT, dicT, fit_dic, look_dic]
theorem in_dic (o : Tg) (f : α → T) (D : List (Str × α)) (s : Str) : inO (.str s) (dicT o f D) = some (.bl (lookS D s).isSome) := by
  simp only [inO, inT, dicT, fit_dic, if_true, look_dic, Option.map_some]
  cases lookS D s <;> rfl
theorem nin_dic (o : Tg) (f : α → T) (D : List (Str × α)) (s : Str) : ninO (.str s) (dicT o f D) = some (.bl (!(lookS D s).isSome)) := by
  simp only [ninO, inT, dicT, fit_dic, if_true, look_dic, Option.map_some]
  cases lookS D s <;> rfl
theorem ix_dic (o : Tg) (f : α → T) (D : List (Str × α)) (s : Str) (a : α) (h : lookS D s = some a) : ixT (dicT o f D) (.str s) = some (f a) := by
  simp [ixT, dicT, fit_dic, look_dic, h]
theorem put_dic (f : α → T) (D : List (Str × α)) (s : Str) (R : α) (h : D.length < 16777216) : setT (dicT .own f D) (.str s) (f R) = some (dicT .own f (setD D s R)) := by
  have e : putT (D.map (dP f)) (.str s) (f R) = (setD D s R).map (dP f) := by
    unfold putT setD
    have a : ((D.map (dP f)).any fun p => decide (kOf p.1 = kOf (.str s))) = D.any fun p => decide (p.1 = s) := by
      rw [List.any_map]
      congr 1
      funext p
      exact decide_eq_decide.mpr kOf_str
    rw [a]
    split
    · rw [List.map_map, List.map_map]
      refine List.map_congr_left fun p _ => ?_
      by_cases q : p.1 = s
      · have q2 : kOf (dP f p).1 = kOf (.str s) := kOf_str.mpr q
        simp [q, q2, dP]
      · have q2 : ¬ kOf (dP f p).1 = kOf (.str s) := fun z => q (kOf_str.mp z)
        simp [q, q2]
    · simp [dP]
  simp only [dicT, setT, fit_dic, List.length_map, sizeLine_eq, h, and_self, if_true, e]
theorem setD_len (D : List (Str × α)) (s : Str) (R : α) : (setD D s R).length ≤ D.length + 1 := by unfold setD; split <;> simp
theorem setD_keys (D : List (Str × α)) (s : Str) (R : α) (h : (D.map (·.1)).Nodup) : ((setD D s R).map (·.1)).Nodup := by
  unfold setD
  split
  · have : (D.map fun p => if p.1 = s then (p.1, R) else p).map (·.1) = D.map (·.1) := by
      rw [List.map_map]
      refine List.map_congr_left fun p _ => ?_
      simp only [Function.comp]
      split <;> rfl
    rw [this]; exact h
  · rename_i c
    rw [List.map_append, List.nodup_append]
    refine ⟨h, by simp, fun x hx y hy => ?_⟩
    simp only [List.map_cons, List.map_nil, List.mem_singleton] at hy
    subst hy
    rintro rfl
    obtain ⟨p, hp, e⟩ := List.mem_map.mp hx
    exact c (List.any_eq_true.mpr ⟨p, hp, by simpa using e⟩)
theorem setD_mem {D : List (Str × α)} {s : Str} {R : α} {p : Str × α} (h : p ∈ setD D s R) : p ∈ D ∨ p = (s, R) := by
  unfold setD at h
  split at h
  · obtain ⟨q, hq, rfl⟩ := List.mem_map.mp h
    split
    · rename_i e; exact .inr (by rw [e])
    · exact .inl hq
  · rcases List.mem_append.mp h with h | h
    · exact .inl h
    · exact .inr (List.mem_singleton.mp h)
theorem lookS_mem {D : List (Str × α)} {p : Str × α} (h : (D.map (·.1)).Nodup) (m : p ∈ D) : lookS D p.1 = some p.2 := by
  induction D with
  | nil => simp at m
  | cons q D ih =>
    unfold lookS at *
    rw [List.find?_cons]
    rw [List.map_cons, List.nodup_cons] at h
    rcases List.mem_cons.mp m with rfl | m
    · simp
    · have : ¬ q.1 = p.1 := fun z => h.1 (z ▸ List.mem_map.mpr ⟨p, m, rfl⟩)
      simp only [this, decide_false]
      exact ih h.2 m
theorem lookS_in {D : List (Str × α)} {s : Str} {a : α} (h : lookS D s = some a) : (s, a) ∈ D := by
  unfold lookS at h
  cases e : D.find? (fun p => decide (p.1 = s)) with
  | none => rw [e] at h; cases h
  | some p =>
    rw [e] at h
    simp only [Option.map_some, Option.some.injEq] at h
    have h1 := List.find?_some e
    have h2 := List.mem_of_find?_eq_some e
    simp only [decide_eq_true_eq] at h1
    rw [← h1, ← h]; exact h2
/-- one dict is as itself -/
theorem ne_dic_same (f : α → T) (o o' : Tg) (D : List (Str × α)) (h : (D.map (·.1)).Nodup) (hd : ∀ p ∈ D, dataOk (f p.2) = true ∧ nbD (f p.2).toD = true) : neXO (dicT o f D) (dicT o' f D) = some (.bl false) ∧ eqXO (dicT o f D) (dicT o' f D) = some (.bl true) := by
  have ok : dctOk (D.map (dP f)) = true := by
    simp only [dctOk, List.all_eq_true, Bool.and_eq_true]
    intro p hp
    obtain ⟨q, m, rfl⟩ := List.mem_map.mp hp
    exact ⟨rfl, (hd q m).1⟩
  have e : dctEq (D.map (dP f)) (D.map (dP f)) = true := by
    simp only [dctEq, Bool.and_eq_true, List.all_eq_true, beq_self_eq_true, true_and]
    intro p hp
    obtain ⟨q, m, rfl⟩ := List.mem_map.mp hp
    show (match lookT (D.map (dP f)) (.str q.1) with | some t => PyData.eqv (f q.2).toD t.toD | none => false) = true
    rw [look_dic, lookS_mem h m]
    exact (eqv_iff (hd q m).2 (hd q m).2).mpr rfl
  unfold dicT
  rw [neXO_dct ok ok, eqXO_dct ok ok, e]
  exact ⟨rfl, rfl⟩
end
end VS

namespace VS
open PySem PySem.Spec L2
open PyProof.Rows hiding St

/-! ### dicts whose values are whole numbers and texts -/
@[simp] theorem hasD_nil (g : Tg) : T.hasD g [] = false := id rfl
@[simp] theorem tagD_nil (f : Tg → Tg) : T.tagD f [] = [] := id rfl
abbrev KDict := List (Str × Key)
theorem tagD_kd (f : Tg → Tg) : ∀ D : KDict, T.tagD f (D.map (dP kT)) = D.map (dP kT)
  | [] => rfl
  | p :: D => by
    show (T.str p.1, T.tag f (kT p.2)) :: T.tagD f (D.map (dP kT)) = _
    rw [tagD_kd f D, tag_kT]; rfl
theorem hasD_kd (g : Tg) : ∀ D : KDict, T.hasD g (D.map (dP kT)) = false
  | [] => rfl
  | p :: D => by
    show (T.has g (kT p.2) || T.hasD g (D.map (dP kT))) = false
    rw [hasD_kd g D, has_kT]; rfl
@[simp] theorem tag_kd (f : Tg → Tg) (o : Tg) (D : KDict) : T.tag f (dicT o kT D) = dicT (f o) kT D := by rw [dicT, tag_dct, tagD_kd]; rfl
@[simp] theorem has_kd (g o : Tg) (D : KDict) : T.has g (dicT o kT D) = decide (o = g) := by rw [dicT, has_dct, hasD_kd, Bool.or_false]
@[simp] theorem dvO_kd_prt (D : KDict) (k : T → R T) : dvO (dicT .prt kT D) k = k (dicT .prt kT D) := id rfl
@[simp] theorem dvO_kd_brw (D : KDict) (k : T → R T) : dvO (dicT .brw kT D) k = k (dicT .brw kT D) := id rfl
theorem put_kd_int (D : KDict) (s : Str) (n : Int) (h : D.length < 16777216) : setT (dicT .own kT D) (.str s) (.int n) = some (dicT .own kT (setD D s (.inl n))) := put_dic kT D s (.inl n) h
theorem put_kd_str (D : KDict) (s : Str) (n : Str) (h : D.length < 16777216) : setT (dicT .own kT D) (.str s) (.str n) = some (dicT .own kT (setD D s (.inr n))) := put_dic kT D s (.inr n) h
theorem dict_kd (o : Tg) (D : KDict) : dictT [dicT o kT D] = some (dicT .own kT D) := by
  have : ((D.map (dP kT)).all fun q => isK q.1) = true := by
    simp only [List.all_eq_true]
    intro p hp
    obtain ⟨q, _, rfl⟩ := List.mem_map.mp hp
    rfl
  simp [dictT, dicT, this]
structure okD (n : Nat) (D : KDict) : Prop where
  nd : (D.map (·.1)).Nodup
  len : D.length ≤ n
  ok : ∀ p ∈ D, okK p.2
theorem okD.put {n m : Nat} {D : KDict} (o : okD n D) (s : Str) {k : Key} (h : okK k) (hm : n + 1 ≤ m) : okD m (setD D s k) :=
  ⟨setD_keys D s k o.nd, by have := setD_len D s k; have := o.len; omega, fun p hp => (setD_mem hp).elim (o.ok p) fun e => by rw [e]; exact h⟩
theorem okD.mono {n m : Nat} {D : KDict} (o : okD n D) (hm : n ≤ m) : okD m D := ⟨o.nd, by have := o.len; omega, o.ok⟩
theorem data_kT {k : Key} (h : okK k) : dataOk (kT k) = true ∧ nbD (kT k).toD = true := by
  cases k with
  | inl i => exact ⟨rfl, rfl⟩
  | inr x =>
    have h : strOkB x = true := h
    refine ⟨?_, h⟩
    simp only [kT, dataOk, SeqAt.shaped, T.toD, PyData.canLay0, PyData.depth]
    simp only [Bool.and_eq_true]
    exact ⟨h, rfl⟩
theorem ne_kd_same {n : Nat} (o o' : Tg) {D : KDict} (h : okD n D) : neXO (dicT o kT D) (dicT o' kT D) = some (.bl false) := (ne_dic_same kT o o' D h.nd fun p hp => data_kT (h.ok p hp)).1
end VS

namespace VS
open PySem PySem.Spec L2
open PyProof.Rows hiding St

/-! ### lines in lists of lines -/
structure goodL (l : Line) : Prop where
  nm : strOkB l.1 = true
  ks : ∀ k ∈ l.2, okK k
def lineD (l : Line) : PyData := .tuple [.str l.1, .tuple (l.2.map kD)]
theorem toD_line (l : Line) : (lineT l).toD = lineD l := by simp [lineT, T.toD, T.toDs, lineD, toDs_kT]
theorem toDs_lines : ∀ L : List Line, T.toDs (L.map lineT) = L.map lineD
  | [] => rfl
  | l :: L => by simp [T.toDs, toD_line, toDs_lines L]
theorem nb_line {l : Line} (h : goodL l) : nbD (lineD l) = true := by
  simp only [lineD, nbD, nbDs, h.nm, nb_kD h.ks, Bool.and_self]
theorem nb_lines : ∀ {L : List Line}, (∀ l ∈ L, goodL l) → nbDs (L.map lineD) = true
  | [], _ => rfl
  | l :: L, h => by simp [nbDs, nb_line (h l (by simp)), nb_lines (L := L) fun x hx => h x (by simp [hx])]
theorem depth_line (l : Line) : (lineD l).depth = 2 := by simp [lineD, PyData.depth, PyData.depthAll, depth_kD]
theorem depth_lines : ∀ L : List Line, PyData.depthAll (L.map lineD) ≤ 2
  | [] => by simp [PyData.depthAll]
  | l :: L => by
    have := depth_lines L
    simp [PyData.depthAll, depth_line]; omega
theorem lineD_inj {a b : Line} (h : lineD a = lineD b) : a = b := by
  obtain ⟨a1, a2⟩ := a
  obtain ⟨b1, b2⟩ := b
  simp only [lineD, PyData.tuple.injEq, List.cons.injEq, PyData.str.injEq, and_true] at h
  obtain ⟨rfl, h⟩ := h
  rw [(List.map_inj_right fun _ _ => kD_inj).mp h]
theorem data_line {l : Line} (h : goodL l) : dataOk (lineT l) = true := by
  simp only [dataOk, SeqAt.shaped, toD_line, nb_lay (nb_line h), depth_line, Bool.true_and, decide_eq_true_eq]; omega
theorem data_lines {L : List Line} {g : Tg} (h : ∀ l ∈ L, goodL l) : dataOk (.lst g (L.map lineT)) = true := by
  have := depth_lines L
  simp only [dataOk, SeqAt.shaped, T.toD, toDs_lines, PyData.canLay0, nbs_lay (nb_lines h), PyData.depth, Bool.true_and, decide_eq_true_eq]; omega
instance memLine (l : Line) (L : List Line) : Decidable (l ∈ L) := decidable_of_iff (L.any (fun y => decide (y = l)) = true) (by simp)
theorem nin_lines {L : List Line} {g : Tg} {l : Line} (h : ∀ l ∈ L, goodL l) (hl : goodL l) : ninO (lineT l) (.lst g (L.map lineT)) = some (.bl (!decide (l ∈ L))) := by
  have f : flatT (lineT l) = false := rfl
  have e : ((T.toDs (L.map lineT)).any fun z => PyData.eqv z (lineT l).toD) = decide (l ∈ L) := by
    rw [toDs_lines, toD_line, Bool.eq_iff_iff, List.any_eq_true, decide_eq_true_eq]
    constructor
    · rintro ⟨z, hz, e⟩
      obtain ⟨m, hm, rfl⟩ := List.mem_map.mp hz
      have := lineD_inj ((eqv_iff (nb_line (h m hm)) (nb_line hl)).mp e)
      rw [← this]; exact hm
    · intro hm
      exact ⟨_, List.mem_map.mpr ⟨l, hm, rfl⟩, (eqv_iff (nb_line hl) (nb_line hl)).mpr rfl⟩
  simp only [ninO, inT, f, Bool.false_and, Bool.false_eq_true, if_false, data_line hl, data_lines h, Bool.and_self, if_true, e, Option.map_some]
end VS

namespace VS
open PySem PySem.Spec L2
open PyProof.Rows hiding St

/-! ### constants of the module, texts of numbers, dicts with one entry -/
/-- the module's name x holds z -/
def GlV (mg : Str → Option Value) (x : Str) (z : V) : Prop := ∃ u, mg x = some u ∧ RelV z u
section
variable {X : Cx} {ec : Nat → Addr} {W : WX} {e a b : Expr} {es : List Expr} {fs : EnvT → R (List T)} {fe fa fb : FE} {p pos : Pos}
theorem DE.gstr {x z : Str} (hg : Gl X x) (hm : GlV X.mg x (.str z)) (hd : (x == ("__debug__" : Str)) = false := by decide) : DE X ec W (.Name x pos) (fun _ => .ok (.str z)) :=
  let ⟨_, hm, hu⟩ := hm
  ⟨pe_mono (pe_glob (v := .str z) hg hm hu hd) fun _ H _ ⟨_, _, _, _, h⟩ => h _ H [] (Ext.refl _) ⟨rfl, rfl⟩ List.nodup_nil (by simp)⟩
theorem DE.gint {x : Str} {z : Int} (hg : Gl X x) (hm : GlV X.mg x (.int z)) (hd : (x == ("__debug__" : Str)) = false := by decide) : DE X ec W (.Name x pos) (fun _ => .ok (.int z)) :=
  let ⟨_, hm, hu⟩ := hm
  ⟨pe_mono (pe_glob (v := .int z) hg hm hu hd) fun _ H _ ⟨_, _, _, _, h⟩ => h _ H [] (Ext.refl _) ⟨rfl, rfl⟩ List.nodup_nil (by simp)⟩
def strT : List T → Option T
  | [.int i] => if i.natAbs.log2 < 1920 then some (.str (toString i : Str)) else none
  | _ => none
theorem DE.str_ (hl : Gl X "str") (hm : X.mg "str" = none) (ha : DA X ec W (e :: es) fs) (he : starEach (e :: es) X.env = (false, eval e X.env) :: starEach es X.env := by rfl) (hpl : (backTo pos (starEach es X.env)).any (·.1) = false := by rfl) : DE X ec W (.Call (.Name "str" p) (e :: es) [] pos) (ap strT fs) := by
  refine DE.callT call_str_int (fun H O C A vs ts F Q t cz r e h => ?_) hl hm (by decide +kernel) ha (by decide) (by decide) he hpl
  rcases ts with _ | ⟨t1, _ | ⟨t2, ts⟩⟩
  · simp [strT] at e
  · obtain ⟨v, r', F1, F2, rfl, rfl, c, d⟩ := r
    obtain ⟨rfl, rfl⟩ := d
    cases t1 with
    | int i =>
      obtain ⟨rfl, rfl⟩ := c
      simp only [strT] at e
      split at e
      · rename_i q; simp only [Option.some.injEq] at e; subst e; exact ⟨i, rfl, q, h.str⟩
      · cases e
    | _ => simp [strT] at e
  · cases t1 <;> simp [strT] at e
/-- list(x), x also a text -/
def listXT : List T → Option T
  | [.str x] => if x.length ≤ sizeLine then some (.lst .own (x.cps.toList.map fun c => .str ⟨#[c]⟩)) else none
  | ts => listT ts
@[simp] theorem listXT_lst (g : Tg) (xs : List T) : listXT [.lst g xs] = some (.lst .own xs) := id rfl
@[simp] theorem listXT_tup (xs : List T) : listXT [.tup xs] = some (.lst .own xs) := id rfl
theorem vals_signs (f : Nat → V) (g : Nat → Value → Prop) : ∀ (cs : List Nat) (vs : List Value), vs.length = cs.length → (∀ (j : Nat) (v : Value), vs[j]? = some v → ∃ c, cs[j]? = some c ∧ RelV (f c) v) → Vals (cs.map f) vs
  | [], [], _, _ => .nil
  | [], _ :: _, h, _ => by simp at h
  | _ :: _, [], h, _ => by simp at h
  | c :: cs, v :: vs, h, q => by
    obtain ⟨c', e, r⟩ := q 0 v rfl
    cases e
    exact .cons r (vals_signs f g cs vs (by simpa using h) fun j v' e => q (j + 1) v' e)
theorem reps_signs {K : PySem.W.Frag} {H : Hp} {P : Al} : ∀ cs : List Nat, Reps K H P (cs.map fun c => T.str ⟨#[c]⟩) (cs.map fun c => V.str ⟨#[c]⟩) []
  | [] => ⟨rfl, rfl⟩
  | c :: cs => ⟨_, _, [], [], rfl, rfl, ⟨rfl, rfl⟩, reps_signs cs⟩
theorem call_listS {X : Cx} (hc : X.calm = true) : CallR X (.type "list") (fun xs H Q => ∃ x : Str, xs = [.str x] ∧ x.length ≤ sizeLine ∧ ∀ l, H l = none → Q (.ref l) (upd H l (.lst (x.cps.toList.map fun c => V.str ⟨#[c]⟩)))) := by
  intro pins s σ H xs us Q I r h
  obtain ⟨x, rfl, hz, q⟩ := h
  obtain ⟨u, rfl, t, rfl⟩ := vals1 r
  refine call_list_str (I.ok.hd hc) x t (hn := hz) fun h' tk acc' c' hk hS' hacc => ?_
  refine ⟨.ref s.heap.objs.size, _, I.laid (t' := tk) hk (Nat.le_refl _) (show ObjOk X.prog X.w _ h' _ (.lst (x.cps.toList.map fun c => V.str ⟨#[c]⟩)) from ⟨by rw [List.length_map, Array.length_toList]; exact hz, acc'.toList, c', ?_, by rw [hS']⟩), rfl, q _ (I.hok.fresh (Nat.le_refl _))⟩
  refine vals_signs _ (fun _ _ => True) _ _ (by simp [hacc.1]) fun j v hv => ?_
  obtain ⟨c, u, hc, rfl⟩ := hacc.2 j v (by simpa using hv)
  exact ⟨c, by simpa using hc, u, rfl⟩
theorem CallR.or {X : Cx} {f : Value} {r1 r2 : List V → Hp → VK → Prop} (h1 : CallR X f r1) (h2 : CallR X f r2) : CallR X f (fun xs H Q => r1 xs H Q ∨ r2 xs H Q) := by
  intro pins s σ H xs us Q I r h
  rcases h with h | h
  · exact h1 pins s σ H xs us Q I r h
  · exact h2 pins s σ H xs us Q I r h
theorem DE.listX (hc : X.calm = true) (hl : Gl X "list") (hm : X.mg "list" = none) (ha : DA X ec W (e :: es) fs) (he : starEach (e :: es) X.env = (false, eval e X.env) :: starEach es X.env := by rfl) (hpl : (backTo pos (starEach es X.env)).any (·.1) = false := by rfl) : DE X ec W (.Call (.Name "list" p) (e :: es) [] pos) (ap listXT fs) := by
  refine DE.callT (CallR.or call_list_of (call_listS hc)) (fun H O C A vs ts F Q t cz r e h => ?_) hl hm (by decide +kernel) ha (by decide) (by decide) he hpl
  rcases ts with _ | ⟨t1, _ | ⟨t2, ts⟩⟩
  · exact .inl (listT_ok (K := X.K) H O C A _ _ F Q t cz r e h)
  · cases t1 with
    | str x =>
      obtain ⟨v, r', F1, F2, rfl, rfl, c, d⟩ := r
      obtain ⟨rfl, rfl⟩ := d
      obtain ⟨rfl, rfl⟩ := c
      simp only [listXT] at e
      split at e
      · rename_i q; simp only [Option.some.injEq] at e; subst e
        exact .inr ⟨x, rfl, q, h.lst cz (reps_signs _) (List.Sublist.refl _)⟩
      · cases e
    | _ => exact .inl (listT_ok (K := X.K) H O C A _ _ F Q t cz r e h)
  · exact .inl (listT_ok (K := X.K) H O C A _ _ F Q t cz r (by cases t1 <;> exact e) h)
def disp1T (k v : T) : Option T := match keyK k with
  | some _ => some (.dct .own [(k, v)])
  | none => none
theorem Post.tt {K : PySem.W.Frag} {B B' : Bx} {H H2 : Hp} {A : Addr → Prop} {Wc : Nat → Hp → Prop} {Q : VK} {r : R T} (p : Post K H B A Wc Q r) (e : Ext H H2) : Post K H2 B' A Wc (fun _ _ => True) r := by
  cases r with
  | ok t => exact fun _ _ _ _ _ _ _ => trivial
  | exc c => exact fun H' e' => p H' (e.trans e')
  | bad => exact p
theorem DE.disp1 (ha : DE X ec W a fa) (hb : DE X ec W b fb) : DE X ec W (.Dict [some a] [b] pos) (bin2 disp1T fa fb) := by
  refine ⟨pe_mono (pe_disp (trs := [(tD X.K ec W fa, tD X.K ec W fb)]) (pps_cons ha.run hb.run pps_nil) rfl rfl (by simp) (by simp)) fun σ H Q ⟨B, env, fp, s, h⟩ => ?_⟩
  intro p hp
  have s1 := s.push (F := fun a => a = p) (Ext.new (o := .dK []) hp) (fun a ha => by subst ha; exact ⟨hp, by rw [upd_same]; simp⟩)
  refine tD.twoAt (k := fun x y => R.ofO (disp1T x y)) (Q := fun _ _ => True) s1 (h.tt (Ext.new hp)) fun x y tx ty Fx Fy H2 e2 rx ry nd fr ea eb _ => ?_
  have eH : H2 p = some (.dK []) := e2 _ _ upd_same
  have e02 : Ext H H2 := (Ext.new hp).trans e2
  refine ⟨eH, ?_⟩
  have h' : Post X.K H B (Aw fp) (wx W ec σ) Q (R.ofO (disp1T tx ty)) := by
    have h0 := h
    simp only [bin2] at h0
    rw [ea] at h0
    change Post X.K H B (Aw fp) (wx W ec σ) Q (fb env >>= fun y => R.ofO (disp1T tx y)) at h0
    rw [eb] at h0
    exact h0
  unfold disp1T at h'
  cases ek : keyK tx with
  | none => rw [ek] at h'; exact h'.elim
  | some k =>
    rw [ek] at h'
    have h' : ∀ v H' F, Ext H H' → Rep X.K H' (Pm B.O B.C (AF (Aw fp) F) (Aw fp)) (.dct .own [(tx, ty)]) v F → F.Nodup → (∀ a ∈ F, H a = none) → Q v H' := h'
    have etx := keyK_inv ek
    subst etx
    have ex := rep_kT rx
    subst ex
    refine ⟨[(k, y)], rfl, by simp, ?_⟩
    have em : mergeK [] [(k, y)] = [(k, y)] := rfl
    rw [em]
    have np : ∀ a ∈ Fy, a ≠ p := fun a ha z => by
      subst z
      have := fr a (by simp [ha])
      rw [upd_same] at this
      cases this
    have nF : Fy.Nodup := (List.nodup_append.mp nd).2.1
    refine h' (.ref p) (upd H2 p (.dK [(k, y)])) (p :: Fy) (fun a o ho => ?_) ⟨p, [(kT k, y)], Fy, rfl, ⟨.dK [(k, y)], upd_same, .inl ⟨[(k, y)], rfl, by simp, rfl⟩⟩, rfl, y, [], Fy, [], rfl, by simp, ?_, rfl, rfl⟩ (List.nodup_cons.mpr ⟨fun m => np p m rfl, nF⟩) fun a ha => ?_
    · have : a ≠ p := fun z => by subst z; rw [hp] at ho; cases ho
      rw [upd_ne this]
      exact e02 a o ho
    · refine Rep.keep (W := fun a => a = p) ⟨fun a o ho n => by rw [upd_ne n]; exact ho, fun a xs z => by subst z; rw [eH]; simp, fun a ob u z => by subst z; rw [eH]; simp⟩ _ _ _ (fun g a _ n d q => ?_) (fun a ha z => np a ha z) ry
      have up : a ≠ p → AF (Aw fp) (p :: Fy) a → AF (Aw fp) (Fx ++ Fy) a := fun n z => z.elim .inl fun m => (List.mem_cons.mp m).elim (fun e => absurd e n) fun m => .inr (by simp [m])
      cases g with
      | own => exact absurd rfl n
      | shr => exact ⟨⟨fun z => q.1 (.inl z), fun z => q.2.1 (up (fun e => q.1 (.inr e)) z), q.2.2⟩, fun z => q.1 (.inr z)⟩
      | prt => exact ⟨⟨fun z => q.1 (.inl z), fun z => q.2 (up (fun e => q.1 (.inr e)) z)⟩, fun z => q.1 (.inr z)⟩
      | brw => exact ⟨q, fun z => by subst z; exact s.odom q hp⟩
      | fzn => exact ⟨⟨fun z => q.1 (.inl z), fun z => q.2 (up (fun e => q.1 (.inr e)) z)⟩, fun z => q.1 (.inr z)⟩
    · rcases List.mem_cons.mp ha with rfl | m
      · exact hp
      · have := fr a (by simp [m])
        rw [upd_ne (np a m)] at this
        exact this
end
@[simp] theorem lstT_4 (a b c d : T) : lstT [a, b, c, d] = some (.lst .own [a, b, c, d]) := id rfl
@[simp] theorem tupT_4 (a b c d : T) : tupT [a, b, c, d] = some (.tup [a, b, c, d]) := id rfl
@[simp] theorem lstT_5 (a b c d e : T) : lstT [a, b, c, d, e] = some (.lst .own [a, b, c, d, e]) := id rfl
@[simp] theorem tupT_5 (a b c d e : T) : tupT [a, b, c, d, e] = some (.tup [a, b, c, d, e]) := id rfl
@[simp] theorem lstT_6 (a b c d e f : T) : lstT [a, b, c, d, e, f] = some (.lst .own [a, b, c, d, e, f]) := id rfl
@[simp] theorem tupT_6 (a b c d e f : T) : tupT [a, b, c, d, e, f] = some (.tup [a, b, c, d, e, f]) := id rfl
@[simp] theorem lstT_7 (a b c d e f g : T) : lstT [a, b, c, d, e, f, g] = some (.lst .own [a, b, c, d, e, f, g]) := id rfl
@[simp] theorem tupT_7 (a b c d e f g : T) : tupT [a, b, c, d, e, f, g] = some (.tup [a, b, c, d, e, f, g]) := id rfl
@[simp] theorem lstT_8 (a b c d e f g h : T) : lstT [a, b, c, d, e, f, g, h] = some (.lst .own [a, b, c, d, e, f, g, h]) := id rfl
@[simp] theorem lstT_9 (a b c d e f g h i : T) : lstT [a, b, c, d, e, f, g, h, i] = some (.lst .own [a, b, c, d, e, f, g, h, i]) := id rfl
@[simp] theorem lstT_10 (a b c d e f g h i j : T) : lstT [a, b, c, d, e, f, g, h, i, j] = some (.lst .own [a, b, c, d, e, f, g, h, i, j]) := id rfl
@[simp] theorem lstT_11 (a b c d e f g h i j k : T) : lstT [a, b, c, d, e, f, g, h, i, j, k] = some (.lst .own [a, b, c, d, e, f, g, h, i, j, k]) := id rfl
@[simp] theorem lstT_12 (a b c d e f g h i j k l : T) : lstT [a, b, c, d, e, f, g, h, i, j, k, l] = some (.lst .own [a, b, c, d, e, f, g, h, i, j, k, l]) := id rfl
@[simp] theorem tupT_3 (a b c : T) : tupT [a, b, c] = some (.tup [a, b, c]) := id rfl
@[simp] theorem disp1T_int (i : Int) (v : T) : disp1T (.int i) v = some (.dct .own [(.int i, v)]) := id rfl
@[simp] theorem disp1T_str (i : Str) (v : T) : disp1T (.str i) v = some (.dct .own [(.str i, v)]) := id rfl
@[simp] theorem tagD_cons (f k v r) : T.tagD f ((k, v) :: r) = (k, T.tag f v) :: T.tagD f r := id rfl
@[simp] theorem hasD_cons (g k v r) : T.hasD g ((k, v) :: r) = (T.has g v || T.hasD g r) := id rfl
theorem strT_int {i : Int} (h : i.natAbs < 10 ^ 400) : strT [.int i] = some (.str (toString i : Str)) := by
  have : i.natAbs.log2 < 1920 := by
    rcases Nat.eq_zero_or_pos i.natAbs with e | e
    · rw [e]; decide
    · exact (Nat.log2_lt (by omega)).mpr (Nat.lt_of_lt_of_le h (by decide +kernel))
  simp [strT, this]
theorem atI_0 {α : Type} (a : α) (r : List α) : atI (a :: r) 0 = some a := by
  have h : (0 : Int) < (((a :: r).length : Nat) : Int) := by simp only [List.length_cons]; omega
  unfold atI ixN; rw [if_pos (by omega), if_pos h]; rfl
@[simp] theorem ixT_lst0 (o : Tg) (a : T) (r : List T) : ixT (.lst o (a :: r)) (.int 0) = some a := atI_0 a r
@[simp] theorem ixT_tup0 (a : T) (r : List T) : ixT (.tup (a :: r)) (.int 0) = some a := atI_0 a r
theorem atI_1 {α : Type} (a b : α) (r : List α) : atI (a :: b :: r) 1 = some b := by
  have h : (1 : Int) < (((a :: b :: r).length : Nat) : Int) := by simp only [List.length_cons]; omega
  unfold atI ixN; rw [if_pos (by omega), if_pos h]; rfl
@[simp] theorem ixT_lst1 (o : Tg) (a b : T) (r : List T) : ixT (.lst o (a :: b :: r)) (.int 1) = some b := atI_1 a b r
@[simp] theorem ixT_tup1 (a b : T) (r : List T) : ixT (.tup (a :: b :: r)) (.int 1) = some b := atI_1 a b r
theorem atI_2 {α : Type} (a b c : α) (r : List α) : atI (a :: b :: c :: r) 2 = some c := by
  have h : (2 : Int) < (((a :: b :: c :: r).length : Nat) : Int) := by simp only [List.length_cons]; omega
  unfold atI ixN; rw [if_pos (by omega), if_pos h]; rfl
@[simp] theorem ixT_lst2 (o : Tg) (a b c : T) (r : List T) : ixT (.lst o (a :: b :: c :: r)) (.int 2) = some c := atI_2 a b c r
@[simp] theorem ixT_tup2 (a b c : T) (r : List T) : ixT (.tup (a :: b :: c :: r)) (.int 2) = some c := atI_2 a b c r
theorem atI_3 {α : Type} (a b c d : α) (r : List α) : atI (a :: b :: c :: d :: r) 3 = some d := by
  have h : (3 : Int) < (((a :: b :: c :: d :: r).length : Nat) : Int) := by simp only [List.length_cons]; omega
  unfold atI ixN; rw [if_pos (by omega), if_pos h]; rfl
@[simp] theorem ixT_lst3 (o : Tg) (a b c d : T) (r : List T) : ixT (.lst o (a :: b :: c :: d :: r)) (.int 3) = some d := atI_3 a b c d r
@[simp] theorem ixT_tup3 (a b c d : T) (r : List T) : ixT (.tup (a :: b :: c :: d :: r)) (.int 3) = some d := atI_3 a b c d r
theorem atI_4 {α : Type} (a b c d e : α) (r : List α) : atI (a :: b :: c :: d :: e :: r) 4 = some e := by
  have h : (4 : Int) < (((a :: b :: c :: d :: e :: r).length : Nat) : Int) := by simp only [List.length_cons]; omega
  unfold atI ixN; rw [if_pos (by omega), if_pos h]; rfl
@[simp] theorem ixT_lst4 (o : Tg) (a b c d e : T) (r : List T) : ixT (.lst o (a :: b :: c :: d :: e :: r)) (.int 4) = some e := atI_4 a b c d e r
@[simp] theorem ixT_tup4 (a b c d e : T) (r : List T) : ixT (.tup (a :: b :: c :: d :: e :: r)) (.int 4) = some e := atI_4 a b c d e r
theorem atI_5 {α : Type} (a b c d e f : α) (r : List α) : atI (a :: b :: c :: d :: e :: f :: r) 5 = some f := by
  have h : (5 : Int) < (((a :: b :: c :: d :: e :: f :: r).length : Nat) : Int) := by simp only [List.length_cons]; omega
  unfold atI ixN; rw [if_pos (by omega), if_pos h]; rfl
@[simp] theorem ixT_lst5 (o : Tg) (a b c d e f : T) (r : List T) : ixT (.lst o (a :: b :: c :: d :: e :: f :: r)) (.int 5) = some f := atI_5 a b c d e f r
@[simp] theorem ixT_tup5 (a b c d e f : T) (r : List T) : ixT (.tup (a :: b :: c :: d :: e :: f :: r)) (.int 5) = some f := atI_5 a b c d e f r
@[simp] theorem isT_dct1_int (n : String) (g : Tg) (i : Int) (v : T) : isT n (.dct g [(.int i, v)]) = some (.bl (n == "dict")) := id rfl
@[simp] theorem isT_dct1_str (n : String) (g : Tg) (i : Str) (v : T) : isT n (.dct g [(.str i, v)]) = some (.bl (n == "dict")) := id rfl
theorem len_int {n : Nat} {k : Nat} (hk : 0 < k) : (Str.length (Str.ofString (toString (n : Int))) : Int) ≤ k ↔ (n : Int) < 10 ^ k := by
  rw [PySem.ofString_length]
  have e : toString (n : Int) = Nat.repr n := rfl
  rw [e]
  have := Nat.length_repr_le_iff (n := n) hk
  constructor
  · intro h
    have h1 : n < 10 ^ k := this.mp (by omega)
    exact_mod_cast h1
  · intro h
    have h1 : n < 10 ^ k := by exact_mod_cast h
    have := this.mpr h1
    omega
theorem abs_nat (v : Int) : (if v < 0 then -v else v) = (v.natAbs : Int) := by omega
theorem addT_lst {xs ys : List T} (h : xs.length + ys.length ≤ 16777216) : addT (.lst .own xs) (.lst .own ys) = some (.lst .own (xs ++ ys)) := by
  simp [addT, sizeLine_eq, h]
theorem addT_lst2 {g h : Tg} {xs ys : List T} (hg : g ≠ .fzn) (hh : h ≠ .fzn) (hz : xs.length + ys.length ≤ 16777216) : addT (.lst g xs) (.lst h ys) = some (.lst .own (xs ++ ys)) := by
  simp [addT, sizeLine_eq, hg, hh, hz]
theorem addT_tup {xs ys : List T} (hz : xs.length + ys.length ≤ 16777216) : addT (.tup xs) (.tup ys) = some (.tup (xs ++ ys)) := by
  simp [addT, sizeLine_eq, hz]
theorem itemsOf_own2 {lp : Bool} {ts : List T} (h : T.hasL .brw ts = false) : itemsOf lp (.lst .own ts) = .ok (T.tags frze ts) := by
  simp [itemsOf, h]
/-! chains of two comparisons -/
def chO (o : Option T) (fl : Bool) (k : R T) : R T := match o with | some (.bl true) => if fl = true then k else .bad | some (.bl false) => .ok (.bl false) | _ => .bad
@[simp] theorem chO_bl (b : Bool) (k : R T) : chO (some (.bl b)) true k = if b = true then k else .ok (.bl false) := by cases b <;> rfl
@[simp] theorem chainF_def (g g' : T → T → Option T) (fa fb fd : FE) (env : EnvT) : chainF g g' fa fb fd env = (fa env >>= fun x => fb env >>= fun y => chO (g x y) (flatT y) (fd env >>= fun z => R.ofO (g' y z))) := by
  unfold chainF chO
  cases fa env with
  | ok x =>
    cases fb env with
    | ok y => rfl
    | _ => rfl
  | _ => rfl
@[simp] theorem flatT_int (i : Int) : flatT (.int i) = true := id rfl
@[simp] theorem flatT_str (i : Str) : flatT (.str i) = true := id rfl
@[simp] theorem flatT_bl (i : Bool) : flatT (.bl i) = true := id rfl
@[simp] theorem flatT_non : flatT .non = true := id rfl
theorem leT_one (x y : Str) (a b : Nat) (hx : x.cps.toList = [a]) (hy : y.cps.toList = [b]) : leT (.str x) (.str y) = some (.bl (decide (a ≤ b))) := by
  have : leT (.str x) (.str y) = some (.bl (!decide (y.cps.toList < x.cps.toList))) := rfl
  rw [this, hx, hy]
  have e : ([b] < [a]) ↔ b < a := by rw [List.cons_lt_cons_iff]; constructor
                                     · rintro (h | ⟨_, h⟩)
                                       · exact h
                                       · exact absurd h (by simp)
                                     · exact Or.inl
  by_cases h : b < a
  · have h2 : ¬ a ≤ b := by omega
    rw [decide_eq_true (e.mpr h), decide_eq_false h2]; rfl
  · have h2 : a ≤ b := by omega
    rw [decide_eq_false (fun z => h (e.mp z)), decide_eq_true h2]; rfl
theorem loopLs {J : EnvT → Prop} {Q : Out → Prop} {rest : FS} {g : T → EnvT → Option EnvT} {fb : FS} {xs : List T} {env : EnvT} (I : List T → EnvT → Prop) (h0 : I [] env)
    (hs : ∀ p x q env, xs = p ++ x :: q → I p env → gO (g x env) fun e1 => stepO (I (p ++ [x])) (fun o => stepO J Q (contO o rest)) (fb e1)) (hend : ∀ env, I xs env → stepO J Q (rest env)) : stepO J Q (contO (loopS g fb xs env) rest) := loopL (P := stepO J Q) I h0 hs hend
theorem loopL1s {J : EnvT → Prop} {Q : Out → Prop} {g : T → EnvT → Option EnvT} {fb : FS} {xs : List T} {env : EnvT} (I : List T → EnvT → Prop) (h0 : I [] env)
    (hs : ∀ p x q env, xs = p ++ x :: q → I p env → gO (g x env) fun e1 => stepO (I (p ++ [x])) (stepO J Q) (fb e1)) (hend : ∀ env, I xs env → stepO J Q (.nx env)) : stepO J Q (loopS g fb xs env) := loopL1 (P := stepO J Q) I h0 hs hend
theorem listXT_str {x : Str} (h : x.length ≤ 16777216) : listXT [.str x] = some (.lst .own (x.cps.toList.map fun c => .str ⟨#[c]⟩)) := by simp [listXT, sizeLine_eq, h]
end VS

namespace VS
open PySem PySem.Spec L2
open PyProof.Rows hiding St
open RZ (ItzT pi_zipA)
open RT (ItvT pi_revA)

/-! ### zip, enumerate, reversed -/
structure StandL (K : PySem.W.Frag) (H : Hp) (Z O C A : Addr → Prop) (a : Addr) (vs : List V) (its : List T) : Prop where
  st : ∀ Hc : Hp, (∀ a o, H a = some o → ¬ Z a → Hc a = some o) → SqL K Hc a vs ∧ Reps K Hc (fun g a => Pm O C A Nz g a ∧ (g ≠ .own → H a ≠ none)) its vs []
structure StandT (K : PySem.W.Frag) (H : Hp) (Z O C A : Addr → Prop) (a : Addr) (vs : List V) (its : List T) : Prop where
  st : ∀ Hc : Hp, (∀ a o, H a = some o → ¬ Z a → Hc a = some o) → SqT K Hc a vs ∧ Reps K Hc (fun g a => Pm O C A Nz g a ∧ (g ≠ .own → H a ≠ none)) its vs []
theorem stand_list {K : PySem.W.Frag} {H : Hp} {O C A : Addr → Prop} {lp : Bool} {g : Tg} {a : Addr} {vs : List V} {ts : List T} {F F' G : List Addr} (l : LAt K H (Pm O C (AF A F') A) g a vs) (p : Fp g a G F) (hF : ∀ a ∈ F, a ∈ F') (hb : T.hasL .brw ts = false) (hg : ¬ (g = .brw ∧ lp = true))
    (r : Reps K H (Pm O C (AF A F') A) ts vs G) (cz : ∀ a ∈ F', ¬ O a ∧ ¬ A a ∧ ¬ C a) (hm : ∀ a, A a → ∃ o, H a = some o ∧ (∀ xs, o ≠ .tup xs) ∧ ∀ ob u, o ≠ .frz ob u) : StandL K H (fun a => lp = true ∧ A a) O C A a vs (T.tags frze ts) := by
  refine ⟨fun Hc k => ?_⟩
  have sq : SqL K Hc a vs := by
    cases g with
    | own => have e : F = a :: G := p; exact .inl (.inl (k a _ l fun z => (cz a (hF a (by rw [e]; simp))).2.1 z.2))
    | shr => exact .inl (.inl (k a _ l.1 fun z => l.2.2.1 (.inl z.2)))
    | prt => exact .inl (.inl (k a _ l.1 fun z => l.2.2 (.inl z.2)))
    | brw => exact .inl (.inl (k a _ l.1 fun z => hg ⟨rfl, z.1⟩))
    | fzn =>
      rcases (show FzL K H a vs from l) with ⟨ob, q⟩ | q
      · refine .inl (.inr ⟨ob, k a _ q fun z => ?_⟩)
        obtain ⟨o, ho, _, h4⟩ := hm a z.2; rw [ho] at q; exact h4 ob _ (Option.some.inj q)
      · exact .inr q
  exact ⟨sq, items_stand hb r (fun b hb => cz b (hF b (p.sub b hb))) (Z := fun a => lp = true ∧ A a) (fun _ z => z.2) hm k⟩
theorem stand_tup {K : PySem.W.Frag} {H : Hp} {O C A : Addr → Prop} {lp : Bool} {a : Addr} {vs : List V} {ts : List T} {F F' : List Addr} (l : H a = some (.tup vs)) (hF : ∀ a ∈ F, a ∈ F') (hb : T.hasL .brw ts = false)
    (r : Reps K H (Pm O C (AF A F') A) ts vs F) (cz : ∀ a ∈ F', ¬ O a ∧ ¬ A a ∧ ¬ C a) (hm : ∀ a, A a → ∃ o, H a = some o ∧ (∀ xs, o ≠ .tup xs) ∧ ∀ ob u, o ≠ .frz ob u) : StandT K H (fun a => lp = true ∧ A a) O C A a vs (T.tags frze ts) := by
  refine ⟨fun Hc k => ⟨SqT.of (k a _ l fun z => ?_), items_stand hb r (fun b hb => cz b (hF b hb)) (Z := fun a => lp = true ∧ A a) (fun _ z => z.2) hm k⟩⟩
  obtain ⟨o, ho, h3, _⟩ := hm a z.2
  rw [ho] at l; exact h3 _ (Option.some.inj l)
theorem stand_tupN {K : PySem.W.Frag} {H : Hp} {O C A : Addr → Prop} {lp : Bool} {a : Addr} {vs : List V} {ts : List T} {F F' : List Addr} (l : NAt H a vs) (hF : ∀ a ∈ F, a ∈ F') (hb : T.hasL .brw ts = false)
    (r : Reps K H (Pm O C (AF A F') A) ts vs F) (cz : ∀ a ∈ F', ¬ O a ∧ ¬ A a ∧ ¬ C a) (hm : ∀ a, A a → ∃ o, H a = some o ∧ (∀ xs, o ≠ .tup xs) ∧ ∀ ob u, o ≠ .frz ob u) : StandT K H (fun a => lp = true ∧ A a) O C A a vs (T.tags frze ts) := by
  obtain ⟨ob, l, q⟩ := l
  refine ⟨fun Hc k => ⟨.inl (.inr ⟨ob, k a _ l fun z => ?_⟩), items_stand hb r (fun b hb => cz b (hF b hb)) (Z := fun a => lp = true ∧ A a) (fun _ z => z.2) hm k⟩⟩
  obtain ⟨o, ho, _, h4⟩ := hm a z.2
  rw [ho] at l; exact h4 _ _ (Option.some.inj l)
def pairT (x y : T) : T := .tup [x, y]
theorem zip_get {its jts : List T} {i : Nat} (h : i < (List.zipWith pairT its jts).length) : ∃ x y, its[i]? = some x ∧ jts[i]? = some y ∧ (List.zipWith pairT its jts)[i]? = some (.tup [x, y]) := by
  rw [List.length_zipWith] at h
  refine ⟨its[i]'(by omega), jts[i]'(by omega), List.getElem?_eq_getElem _, List.getElem?_eq_getElem _, ?_⟩
  rw [List.getElem?_zipWith, List.getElem?_eq_getElem (by omega), List.getElem?_eq_getElem (by omega)]; rfl
theorem rep_pair {K : PySem.W.Frag} {H : Hp} {P : Al} {x y : T} {vx vy : V} {p : Addr} (hp : H p = none) (rx : Rep K H P x vx []) (ry : Rep K H P y vy []) : Rep K (upd H p (.tup [vx, vy])) P (.tup [x, y]) (.ref p) [] :=
  ⟨p, [vx, vy], rfl, upd_same, vx, [vy], [], [], rfl, rfl, rx.ext (Ext.new hp), vy, [], [], [], rfl, rfl, ry.ext (Ext.new hp), rfl, rfl⟩
theorem Reps.nth' {K : PySem.W.Frag} {H : Hp} {P : Al} {ts : List T} {vs : List V} {i : Nat} {t : T} (r : Reps K H P ts vs []) (h : ts[i]? = some t) : ∃ v, vs[i]? = some v ∧ Rep K H P t v [] := by
  have hl := r.length
  have hi : i < ts.length := by
    rcases Nat.lt_or_ge i ts.length with c | c
    · exact c
    · rw [List.getElem?_eq_none c] at h; cases h
  obtain ⟨v, hv⟩ : ∃ v, vs[i]? = some v := ⟨_, List.getElem?_eq_getElem (by omega)⟩
  obtain ⟨t', ht, rt⟩ := r.nth hv
  rw [h] at ht; cases ht
  exact ⟨v, hv, rt⟩
section
variable {K : PySem.W.Frag} {H : Hp} {Z O C A : Addr → Prop} {a b : Addr} {xs ys : List V} {its jts : List T}
theorem itOk_zipL (s1 : StandL K H Z O C A a xs its) (s2 : StandL K H Z O C A b ys jts) : ItOk K (Itz K a b) H Z O C A (List.zipWith pairT its jts) := by
  intro i Hc k
  obtain ⟨q1, r1⟩ := s1.st Hc k
  obtain ⟨q2, r2⟩ := s2.st Hc k
  have l1 := r1.length
  have l2 := r2.length
  refine ⟨fun hi => ?_, fun hi => ⟨xs, ys, q1, q2, by rw [List.length_zipWith] at hi; omega⟩⟩
  obtain ⟨x, y, hx, hy, hz⟩ := zip_get hi
  obtain ⟨vx, ex, rx⟩ := r1.nth' hx
  obtain ⟨vy, ey, ry⟩ := r2.nth' hy
  refine ⟨⟨xs, ys, vx, vy, q1, q2, ex, ey⟩, ?_⟩
  rintro v H' ⟨p, ux, uy, rfl, hp, rfl, f1, f2⟩
  have e1 := f1 xs q1
  have e2 := f2 ys q2
  rw [ex] at e1; rw [ey] at e2; cases e1; cases e2
  exact ⟨Ext.new hp, _, hz, rep_pair hp rx ry⟩
theorem itOk_zipT (s1 : StandT K H Z O C A a xs its) (s2 : StandT K H Z O C A b ys jts) : ItOk K (ItzT K a b) H Z O C A (List.zipWith pairT its jts) := by
  intro i Hc k
  obtain ⟨q1, r1⟩ := s1.st Hc k
  obtain ⟨q2, r2⟩ := s2.st Hc k
  have l1 := r1.length
  have l2 := r2.length
  refine ⟨fun hi => ?_, fun hi => ⟨xs, ys, q1, q2, by rw [List.length_zipWith] at hi; omega⟩⟩
  obtain ⟨x, y, hx, hy, hz⟩ := zip_get hi
  obtain ⟨vx, ex, rx⟩ := r1.nth' hx
  obtain ⟨vy, ey, ry⟩ := r2.nth' hy
  refine ⟨⟨xs, ys, vx, vy, q1, q2, ex, ey⟩, ?_⟩
  rintro v H' ⟨p, ux, uy, rfl, hp, rfl, f1, f2⟩
  have e1 := f1 xs q1
  have e2 := f2 ys q2
  rw [ex] at e1; rw [ey] at e2; cases e1; cases e2
  exact ⟨Ext.new hp, _, hz, rep_pair hp rx ry⟩
def enumL (its : List T) : List T := its.zipIdx.map fun p => .tup [.int (p.2 : Nat), p.1]
theorem enumL_get {its : List T} {i : Nat} : (enumL its)[i]? = its[i]?.map fun x => .tup [.int (i : Nat), x] := by
  unfold enumL
  rw [List.getElem?_map, List.getElem?_zipIdx]
  cases its[i]? <;> simp
theorem itOk_enum (s1 : StandL K H Z O C A a xs its) : ItOk K (Ite K a) H Z O C A (enumL its) := by
  intro i Hc k
  obtain ⟨q1, r1⟩ := s1.st Hc k
  have l1 := r1.length
  have hlen : (enumL its).length = its.length := by simp [enumL]
  refine ⟨fun hi => ?_, fun hi => ⟨xs, q1, by omega⟩⟩
  have hx : its[i]? = some (its[i]'(by omega)) := List.getElem?_eq_getElem _
  obtain ⟨vx, ex, rx⟩ := r1.nth' hx
  refine ⟨⟨xs, vx, q1, ex⟩, ?_⟩
  rintro v H' ⟨p, ux, rfl, hp, rfl, f1⟩
  have e1 := f1 xs q1
  rw [ex] at e1; cases e1
  exact ⟨Ext.new hp, _, by rw [enumL_get, hx]; rfl, rep_pair hp (show Rep K Hc _ (.int (i : Nat)) (.int (i : Nat)) [] from ⟨rfl, rfl⟩) rx⟩
theorem itOk_revL (s1 : StandL K H Z O C A a xs its) : ItOk K (Itv K a xs.length) H Z O C A its.reverse := by
  intro i Hc k
  obtain ⟨q1, r1⟩ := s1.st Hc k
  have l1 := r1.length
  refine ⟨fun hi => ?_, fun hi => by show xs.length ≤ i; rw [List.length_reverse] at hi; omega⟩
  rw [List.length_reverse] at hi
  have hx : its[xs.length - 1 - i]? = some (its[xs.length - 1 - i]'(by omega)) := List.getElem?_eq_getElem _
  obtain ⟨vx, ex, rx⟩ := r1.nth' hx
  refine ⟨⟨by omega, xs, vx, q1, ex⟩, ?_⟩
  rintro v H' ⟨rfl, f1⟩
  have e1 := f1 xs q1
  rw [ex] at e1; cases e1
  exact ⟨Ext.refl _, _, by rw [List.getElem?_reverse (by omega), show its.length - 1 - i = xs.length - 1 - i by omega]; exact hx, rx⟩
theorem itOk_revT (s1 : StandT K H Z O C A a xs its) : ItOk K (ItvT K a xs.length) H Z O C A its.reverse := by
  intro i Hc k
  obtain ⟨q1, r1⟩ := s1.st Hc k
  have l1 := r1.length
  refine ⟨fun hi => ?_, fun hi => by show xs.length ≤ i; rw [List.length_reverse] at hi; omega⟩
  rw [List.length_reverse] at hi
  have hx : its[xs.length - 1 - i]? = some (its[xs.length - 1 - i]'(by omega)) := List.getElem?_eq_getElem _
  obtain ⟨vx, ex, rx⟩ := r1.nth' hx
  refine ⟨⟨by omega, xs, vx, q1, ex⟩, ?_⟩
  rintro v H' ⟨rfl, f1⟩
  have e1 := f1 xs q1
  rw [ex] at e1; cases e1
  exact ⟨Ext.refl _, _, by rw [List.getElem?_reverse (by omega), show its.length - 1 - i = xs.length - 1 - i by omega]; exact hx, rx⟩
end
def badIt (lp : Bool) (g : Tg) (ts : List T) : Prop := (g = .brw ∧ lp = true) ∨ T.hasL .brw ts = true
instance (lp : Bool) (g : Tg) (ts : List T) : Decidable (badIt lp g ts) := by unfold badIt; infer_instance
def zipIt (lp : Bool) : List T → Option (List T)
  | [.lst g xs, .lst h ys] => if badIt lp g xs ∨ badIt lp h ys then none else some (List.zipWith pairT (T.tags frze xs) (T.tags frze ys))
  | [.tup xs, .tup ys] => if T.hasL .brw xs = true ∨ T.hasL .brw ys = true then none else some (List.zipWith pairT (T.tags frze xs) (T.tags frze ys))
  | [.tupN xs, .tup ys] => if T.hasL .brw xs = true ∨ T.hasL .brw ys = true then none else some (List.zipWith pairT (T.tags frze xs) (T.tags frze ys))
  | [.tupN xs, .tupN ys] => if T.hasL .brw xs = true ∨ T.hasL .brw ys = true then none else some (List.zipWith pairT (T.tags frze xs) (T.tags frze ys))
  | _ => none
def enumIt (lp : Bool) : List T → Option (List T)
  | [.lst g xs] => if badIt lp g xs then none else some (enumL (T.tags frze xs))
  | _ => none
def revIt (lp : Bool) : List T → Option (List T)
  | [.lst g xs] => if badIt lp g xs then none else some (T.tags frze xs).reverse
  | [.tup xs] => if T.hasL .brw xs = true then none else some (T.tags frze xs).reverse
  | _ => none
def itI (z : List T → Option (List T)) (fs : EnvT → R (List T)) : EnvT → R (List T) := fun env => do let ts ← fs env; R.ofO (z ts)
section
variable {X : Cx} {ec : Nat → Addr} {W : WX} {lp : Bool} {tg e e2 : Expr} {fe : FE} {fs : EnvT → R (List T)} {p pos tpos : Pos} {elts : List Expr} {kk : Nat}
theorem it_post {K : PySem.W.Frag} {z : List T → Option (List T)} {σ : L2.St} {H : Hp} {R' : It → Hp → Prop} {Q : List V → Hp → Prop} (h : tI K ec W lp (itI z fs) σ H R')
    (hk : ∀ B env fp vs ts its F H1, Sta K B env σ H fp → Ext H H1 → Reps K H1 (Pm B.O B.C (AF (Aw fp) F) (Aw fp)) ts vs F → (∀ a ∈ F, ¬ B.O a ∧ ¬ Aw fp a ∧ ¬ B.C a) → (∀ a, Aw fp a → ∃ o, H1 a = some o ∧ (∀ xs, o ≠ .tup xs) ∧ ∀ ob u, o ≠ .frz ob u) → z ts = some its →
      (∀ J, ItOk K J H1 (fun a => lp = true ∧ Aw fp a) B.O B.C (Aw fp) its → R' J H1) → Q vs H1) : tDA K ec W fs σ H Q := by
  obtain ⟨B, env, fp, s, h⟩ := h
  refine ⟨B, env, fp, s, ?_⟩
  unfold itI at h
  cases q : fs env with
  | exc c => rw [q] at h; exact h
  | bad => rw [q] at h; exact h.elim
  | ok ts =>
    rw [q] at h
    simp only [R.ok_bind] at h
    intro vs H1 F e1 r n f
    cases q2 : z ts with
    | some its => rw [q2] at h; exact hk B env fp vs ts its F H1 s e1 r (fun a ha => s.occ0 (f a ha)) (s.A_mut e1) q2 fun J hJ => h J H1 e1 hJ
    | none => rw [q2] at h; exact h.elim
theorem DI.zip (hg : Gl X "zip") (hm : X.mg "zip" = none) (ha : DA X ec W [e, e2] fs)
    (hs : starEach [e, e2] X.env = (false, eval e X.env) :: starEach [e2] X.env := by rfl) (hpl : (backTo pos (starEach [e2] X.env)).any (·.1) = false := by rfl) :
    DI X ec W lp (.Tuple elts kk tpos) (.Call (.Name "zip" p) [e, e2] [] pos) (itI (zipIt lp) fs) := by
  refine ⟨pi_mono (pi_zipA hg hm ha.run hs hpl) fun σ H R' h => it_post h fun B env fp vs ts its F H1 s e1 r cz hm q hR => ?_⟩
  rcases ts with _ | ⟨t1, _ | ⟨t2, _ | ⟨t3, ts⟩⟩⟩
  · cases q
  · cases t1 <;> cases q
  · obtain ⟨v1, r', F1, F2, rfl, rfl, c1, v2, r'', F3, F4, rfl, rfl, c2, rfl, rfl⟩ := r
    cases t1 with
    | lst g xs =>
      cases t2 with
      | lst h ys =>
        obtain ⟨a, us, G, rfl, l, fpp, r1⟩ := c1
        obtain ⟨b, ws, G2, rfl, l2, fpp2, r2⟩ := c2
        simp only [zipIt] at q
        split at q
        · cases q
        · rename_i c
          simp only [Option.some.injEq] at q; subst q
          have c1 : ¬ badIt lp g xs := fun z => c (.inl z)
          have c2 : ¬ badIt lp h ys := fun z => c (.inr z)
          have s1 := stand_list (lp := lp) l fpp (by simp +contextual) (by simpa using fun z => c1 (.inr z)) (fun z => c1 (.inl z)) r1 cz hm
          have s2 := stand_list (lp := lp) l2 fpp2 (by simp +contextual) (by simpa using fun z => c2 (.inr z)) (fun z => c2 (.inl z)) r2 cz hm
          exact ⟨a, b, us, ws, rfl, .inl ⟨l.sq, l2.sq, hR _ (itOk_zipL s1 s2)⟩⟩
      | _ => cases q
    | tup xs =>
      cases t2 with
      | tup ys =>
        obtain ⟨a, us, rfl, l, r1⟩ := c1
        obtain ⟨b, ws, rfl, l2, r2⟩ := c2
        simp only [zipIt] at q
        split at q
        · cases q
        · rename_i c
          simp only [Option.some.injEq] at q; subst q
          have s1 := stand_tup (lp := lp) l (by simp +contextual) (by simpa using fun z => c (.inl z)) r1 cz hm
          have s2 := stand_tup (lp := lp) l2 (by simp +contextual) (by simpa using fun z => c (.inr z)) r2 cz hm
          exact ⟨a, b, us, ws, rfl, .inr ⟨SqT.of l, SqT.of l2, hR _ (itOk_zipT s1 s2)⟩⟩
      | _ => cases q
    | tupN xs =>
      cases t2 with
      | tup ys =>
        obtain ⟨a, us, rfl, l, r1⟩ := c1
        obtain ⟨b, ws, rfl, l2, r2⟩ := c2
        simp only [zipIt] at q
        split at q
        · cases q
        · rename_i c
          simp only [Option.some.injEq] at q; subst q
          have s1 := stand_tupN (lp := lp) l (by simp +contextual) (by simpa using fun z => c (.inl z)) r1 cz hm
          have s2 := stand_tup (lp := lp) l2 (by simp +contextual) (by simpa using fun z => c (.inr z)) r2 cz hm
          exact ⟨a, b, us, ws, rfl, .inr ⟨l.sqt, SqT.of l2, hR _ (itOk_zipT s1 s2)⟩⟩
      | tupN ys =>
        obtain ⟨a, us, rfl, l, r1⟩ := c1
        obtain ⟨b, ws, rfl, l2, r2⟩ := c2
        simp only [zipIt] at q
        split at q
        · cases q
        · rename_i c
          simp only [Option.some.injEq] at q; subst q
          have s1 := stand_tupN (lp := lp) l (by simp +contextual) (by simpa using fun z => c (.inl z)) r1 cz hm
          have s2 := stand_tupN (lp := lp) l2 (by simp +contextual) (by simpa using fun z => c (.inr z)) r2 cz hm
          exact ⟨a, b, us, ws, rfl, .inr ⟨l.sqt, l2.sqt, hR _ (itOk_zipT s1 s2)⟩⟩
      | _ => cases q
    | _ => cases q
  · exfalso
    cases t1 <;> cases t2 <;> cases q
theorem DI.enum (hg : Gl X "enumerate") (hm : X.mg "enumerate" = none) (ha : DA X ec W [e] fs) (hs : starEach [e] X.env = [(false, eval e X.env)] := by rfl) :
    DI X ec W lp (.Tuple elts kk tpos) (.Call (.Name "enumerate" p) [e] [] pos) (itI (enumIt lp) fs) := by
  refine ⟨pi_mono (pi_enum hg hm ha.run hs) fun σ H R' h => it_post h fun B env fp vs ts its F H1 s e1 r cz hm q hR => ?_⟩
  rcases ts with _ | ⟨t1, _ | ⟨t2, ts⟩⟩
  · cases q
  · obtain ⟨v1, r', F1, F2, rfl, rfl, c1, rfl, rfl⟩ := r
    cases t1 with
    | lst g xs =>
      obtain ⟨a, us, G, rfl, l, fpp, r1⟩ := c1
      simp only [enumIt] at q
      split at q
      · cases q
      · rename_i c
        simp only [Option.some.injEq] at q; subst q
        have s1 := stand_list (lp := lp) l fpp (by simp +contextual) (by simpa using fun z => c (.inr z)) (fun z => c (.inl z)) r1 cz hm
        exact ⟨a, us, rfl, l.sq, hR _ (itOk_enum s1)⟩
    | _ => cases q
  · exfalso
    cases t1 <;> cases q
theorem tD_of_tDA {K : PySem.W.Frag} {σ : L2.St} {H : Hp} {Q : List V → Hp → Prop} {R' : VK} (h : tDA K ec W (consE fe nilA) σ H Q) (hk : ∀ v H1, Q [v] H1 → R' v H1) : tD K ec W fe σ H R' := by
  obtain ⟨B, env, fp, s, h⟩ := h
  refine ⟨B, env, fp, s, ?_⟩
  unfold consE nilA at h
  cases q : fe env with
  | exc c => rw [q] at h; exact h
  | bad => rw [q] at h; exact h
  | ok t =>
    rw [q] at h
    intro v H1 F e1 r n f
    exact hk _ _ (h [v] H1 F e1 ⟨v, [], F, [], rfl, by simp, r, rfl, rfl⟩ n f)
theorem DI.rev (hg : Gl X "reversed") (hm : X.mg "reversed" = none) (he : DE X ec W e fe) (hs : starEach [e] X.env = (false, eval e X.env) :: starEach [] X.env := by rfl) :
    DI X ec W lp tg (.Call (.Name "reversed" p) [e] [] pos) (itI (revIt lp) (consE fe nilA)) := by
  refine ⟨pi_mono (pi_revA hg hm he.run hs) fun σ H R' h => tD_of_tDA (Q := fun vs H1 => ∀ v, vs = [v] → ∃ (a : Addr) (xs : List V), v = .ref a ∧ ((SqL X.K H1 a xs ∧ R' (Itv X.K a xs.length) H1) ∨ (SqT X.K H1 a xs ∧ R' (ItvT X.K a xs.length) H1))) (it_post h fun B env fp vs ts its F H1 s e1 r cz hm q hR => ?_) fun v H1 z => z v rfl⟩
  rintro v rfl
  rcases ts with _ | ⟨t1, _ | ⟨t2, ts⟩⟩
  · cases q
  · obtain ⟨v1, r', F1, F2, e0, rfl, c1, rfl, rfl⟩ := r
    cases e0
    cases t1 with
    | lst g xs =>
      obtain ⟨a, us, G, rfl, l, fpp, r1⟩ := c1
      simp only [revIt] at q
      split at q
      · cases q
      · rename_i c
        simp only [Option.some.injEq] at q; subst q
        have s1 := stand_list (lp := lp) l fpp (by simp +contextual) (by simpa using fun z => c (.inr z)) (fun z => c (.inl z)) r1 cz hm
        exact ⟨a, us, rfl, .inl ⟨l.sq, hR _ (itOk_revL s1)⟩⟩
    | tup xs =>
      obtain ⟨a, us, rfl, l, r1⟩ := c1
      simp only [revIt] at q
      split at q
      · cases q
      · rename_i c
        simp only [Option.some.injEq] at q; subst q
        have s1 := stand_tup (lp := lp) l (by simp +contextual) (by simpa using c) r1 cz hm
        exact ⟨a, us, rfl, .inr ⟨SqT.of l, hR _ (itOk_revT s1)⟩⟩
    | _ => cases q
  · exfalso
    cases t1 <;> cases q
end
end VS

namespace VS
open PySem PySem.Spec L2
open PyProof.Rows hiding St
open PySem.W (alike dataLe Sortable AllAlike EachIs)

/-! ### sorted(xs) -/
def sortPair (ds : List PyData) : Bool := ds.all fun d => ds.all fun e => alike d e
def isCons : PyData → Bool
  | .tuple (_ :: _) => true
  | _ => false
def notTup : PyData → Bool
  | .tuple _ => false
  | .none => false
  | _ => true
def sortKind (ds : List PyData) : Bool := ds.all isCons || ds.all notTup
theorem sortPair_ok {ds : List PyData} (h : sortPair ds = true) : AllAlike ds := fun d hd e he => List.all_eq_true.mp (List.all_eq_true.mp h d hd) e he
theorem sortKind_ok {ds : List PyData} (h : sortKind ds = true) : Sortable ds := by
  rcases Bool.or_eq_true _ _ |>.mp h with h | h
  · refine .inl fun d hd => ?_
    have := List.all_eq_true.mp h d hd
    unfold isCons at this
    split at this
    · exact ⟨_, _, rfl⟩
    · cases this
  · refine .inr fun d hd => ?_
    have := List.all_eq_true.mp h d hd
    unfold notTup at this
    split at this
    · cases this
    · cases this
    · rename_i h1 h2
      exact ⟨h2, fun xs e => h1 xs e⟩
def sortable (ts : List T) : Bool := T.vals ts && (ts.all fun t => decide (t.toD.depth ≤ 40) && t.toD.canLay0) && sortPair (ts.map T.toD) && sortKind (ts.map T.toD)
def sortL (ts : List T) : List T := ts.mergeSort (dataLe false T.toD)
def sortedT : List T → Option T
  | [.lst _ ts] => if sortable ts = true ∧ ts.length ≤ sizeLine then some (.lst .own (sortL ts)) else none
  | _ => none
mutual
theorem val_foot {K : PySem.W.Frag} {H : Hp} {P : Al} : ∀ {t : T} {v : V} {F : List Addr}, t.val = true → Rep K H P t v F → F = []
  | .non, _, _, _, r => r.2
  | .bl _, _, _, _, r => r.2
  | .int _, _, _, _, r => r.2
  | .str _, _, _, _, r => r.2
  | .tup ts, _, _, h, ⟨_, _, _, _, r⟩ => vals_foot (ts := ts) (by simpa [T.val] using h) r
  | .tupN ts, _, _, h, ⟨_, _, _, _, r⟩ => vals_foot (ts := ts) (by simpa [T.val] using h) r
  | .lst _ _, _, _, h, _ => by simp [T.val] at h
  | .dct _ _, _, _, h, _ => by simp [T.val] at h
theorem vals_foot {K : PySem.W.Frag} {H : Hp} {P : Al} : ∀ {ts : List T} {vs : List V} {F : List Addr}, T.vals ts = true → Reps K H P ts vs F → F = []
  | [], _, _, _, r => r.2
  | t :: ts, _, _, h, ⟨v, r', F1, F2, _, e, c, d⟩ => by
    have h' : t.val = true ∧ T.vals ts = true := by simpa [T.vals] using h
    have e1 := val_foot h'.1 c
    have e2 := vals_foot h'.2 d
    subst e1 e2
    rw [e]; rfl
end
theorem each_vals {K : PySem.W.Frag} {H : Hp} {P : Al} : ∀ {ts : List T} {vs : List V} {F : List Addr} {us : List Value}, T.vals ts = true → Reps K H P ts vs F → Vals vs us → EachIs (fun u t => ∃ v, RelV v u ∧ Rep K H P t v []) us ts
  | [], _, _, _, _, ⟨e, _⟩, r => by subst e; cases r; exact .nil
  | t :: ts, _, _, _, hv, ⟨v, r', F1, F2, e, _, c, d⟩, r => by
    subst e
    cases r with
    | cons r1 r2 =>
      have hv' : t.val = true ∧ T.vals ts = true := by simpa [T.vals] using hv
      have : F1 = [] := val_foot hv'.1 c
      subst this
      exact .cons ⟨v, r1, c⟩ (each_vals hv'.2 d r2)
theorem each_back {K : PySem.W.Frag} {H : Hp} {P : Al} : ∀ {ts : List T} {us : List Value}, EachIs (fun u t => ∃ v, RelV v u ∧ Rep K H P t v []) us ts → ∃ vs, Vals vs us ∧ Reps K H P ts vs []
  | [], _, .nil => ⟨[], .nil, rfl, rfl⟩
  | t :: ts, _, .cons ⟨v, r, c⟩ e => by
    obtain ⟨vs, h1, h2⟩ := each_back e
    exact ⟨v :: vs, .cons r h1, v, vs, [], [], rfl, rfl, c, h2⟩
theorem each_reads {X : Cx} {pins : List (Addr × Obj)} {σ : L2.St} {H : Hp} {s : Shared} {P : Al} (I : Inv X pins σ H s) : ∀ {ts : List T} {us : List Value}, (∀ t ∈ ts, t.toD.canLay0 = true) → EachIs (fun u t => ∃ v, RelV v u ∧ Rep X.K H P t v []) us ts → EachIs (fun u t => ∃ as, PySem.Reads s.heap u (T.toD t) as) us ts
  | [], _, _, .nil => .nil
  | t :: ts, _, h, .cons ⟨v, r, c⟩ e => .cons (Dp.reads I _ _ _ (toD_dp t v [] (h t (by simp)) c) r) (each_reads I (fun t m => h t (by simp [m])) e)
theorem call_sortedL {X : Cx} (hu : X.A.units + 64 < cLine) : CallR X (.builtin "sorted") (fun xs H Q => ∃ (a : Addr) (vs : List V) (ts : List T) (P : Al), xs = [.ref a] ∧ SqL X.K H a vs ∧ Reps X.K H P ts vs [] ∧ sortable ts = true ∧ ts.length ≤ sizeLine ∧
    ∀ ws p, Reps X.K H P (sortL ts) ws [] → H p = none → Q (.ref p) (upd H p (.lst ws))) := by
  intro pins s σ H xs us Q I r h
  obtain ⟨a, vs, ts, P, rfl, hs, hr, hk, hz, q⟩ := h
  simp only [sortable, Bool.and_eq_true] at hk
  obtain ⟨⟨⟨k1, k2⟩, k3⟩, k4⟩ := hk
  have k2' : ∀ t ∈ ts, t.toD.depth ≤ 40 ∧ t.toD.canLay0 = true := fun t m => by
    have := List.all_eq_true.mp k2 t m
    simpa using this
  obtain ⟨its, rv, pl, hl⟩ := I.list hs
  have := Vals.ref1 r
  subst this
  have e1 := each_vals k1 hr rv
  refine PySem.W.sorted_data (enc := T.toD) (R := fun u t => ∃ v, RelV v u ∧ Rep X.K H P t v []) pl.isList e1 (each_reads I (fun t m => (k2' t m).2) e1) (sortPair_ok k3) (sortKind_ok k4) hz (fun t m => by have := (k2' t m).1; omega) fun out ho he => ?_
  obtain ⟨ws, hv, hw⟩ := each_back he
  obtain ⟨ep, he'⟩ := PyProof.Rows.sortedAll_at s.heap its (List.toArray out)
  have lw : ws.length ≤ sizeLine := by
    have := hv.length
    omega
  refine ⟨.ref (s.heap.objs.size + 1), upd H (s.heap.objs.size + 1) (.lst ws), I.laid (t' := s.toks) (fun _ _ => PyProof.Rows.sortedAll_old) (Nat.le_succ _) ⟨lw, out, ep, hv, he'⟩, rfl, q ws _ hw (I.hok.fresh (Nat.le_succ _))⟩
section
variable {X : Cx} {ec : Nat → Addr} {W : WX} {e a b : Expr} {es : List Expr} {fs : EnvT → R (List T)} {fe fa fb : FE} {p pos : Pos}
theorem DE.sorted (hu : X.A.units + 64 < cLine) (hl : Gl X "sorted") (hm : X.mg "sorted" = none) (ha : DA X ec W (e :: es) fs) (he : starEach (e :: es) X.env = (false, eval e X.env) :: starEach es X.env := by rfl) (hpl : (backTo pos (starEach es X.env)).any (·.1) = false := by rfl) : DE X ec W (.Call (.Name "sorted" p) (e :: es) [] pos) (ap sortedT fs) := by
  refine DE.callB (call_sortedL hu) (fun H O C A vs ts F Q t cz r e h => ?_) hl hm (by decide +kernel) ha (by decide) (by decide) he hpl
  rcases ts with _ | ⟨t1, _ | ⟨t2, ts⟩⟩
  · simp [sortedT] at e
  · obtain ⟨v, r', F1, F2, rfl, rfl, c, d⟩ := r
    obtain ⟨rfl, rfl⟩ := d
    cases t1 with
    | lst g xs =>
      obtain ⟨a, us, G, rfl, l, p, r⟩ := c
      simp only [sortedT] at e
      split at e
      · rename_i q; simp only [Option.some.injEq] at e; subst e
        have k1 : T.vals xs = true := by
          have := q.1
          simp only [sortable, Bool.and_eq_true] at this
          exact this.1.1.1
        have := vals_foot k1 r
        subst this
        exact ⟨a, us, xs, _, rfl, l.sq, r, q.1, q.2, fun ws p hw hp => h.lst cz hw (List.nil_sublist _) p hp⟩
      · cases e
    | _ => simp [sortedT] at e
  · cases t1 <;> simp [sortedT] at e
end
end VS
namespace VS
open PySem PySem.Spec L2
open PyProof.Rows hiding St
/-! ### more methods of lists -/
def firstI (k : Int) : List Int → Option Nat
  | [] => none
  | n :: ns => if n = k then some 0 else (firstI k ns).map (· + 1)
theorem firstI_at {k : Int} : ∀ {ns : List Int} {j : Nat}, firstI k ns = some j → ns[j]? = some k ∧ ∀ m : Nat, m < j → ns[m]? ≠ some k
  | [], j, h => by simp [firstI] at h
  | n :: ns, j, h => by
    simp only [firstI] at h
    split at h
    · rename_i e
      cases h
      exact ⟨by simp [e], fun m hm => by omega⟩
    · rename_i e
      cases q : firstI k ns with
      | none => rw [q] at h; cases h
      | some i =>
        rw [q] at h
        simp only [Option.map_some, Option.some.injEq] at h
        subst h
        obtain ⟨h1, h2⟩ := firstI_at q
        refine ⟨by simpa using h1, fun m hm => ?_⟩
        cases m with
        | zero => simpa using e
        | succ m => simpa using h2 m (by omega)
def mRemove (ts : List T) : List T → Option (List T × T)
  | [.int k] => (intsOf ts).bind fun ns => (firstI k ns).map fun j => ((ns.eraseIdx j).map T.int, .non)
  | _ => none
theorem reps_intM {K : PySem.W.Frag} {H : Hp} {P : Al} : ∀ ns : List Int, Reps K H P (ns.map T.int) (ns.map V.int) []
  | [] => ⟨rfl, rfl⟩
  | n :: ns => ⟨_, _, [], [], rfl, rfl, ⟨rfl, rfl⟩, reps_intM ns⟩
theorem own_remove {K : PySem.W.Frag} : OwnL K rRemI mRemove := by
  intro H P p vs ts G as us F Q ts' res hp rt ra e h
  unfold mRemove at e
  split at e
  · rename_i k
    obtain ⟨v, r', F1, F2, rfl, rfl, ⟨rfl, rfl⟩, rfl, rfl⟩ := ra
    cases q1 : intsOf ts with
    | none => rw [q1] at e; cases e
    | some ns =>
      rw [q1, Option.bind_some] at e
      cases q2 : firstI k ns with
      | none => rw [q2] at e; cases e
      | some j =>
        rw [q2] at e
        simp only [Option.map_some, Option.some.injEq, Prod.mk.injEq] at e
        obtain ⟨rfl, rfl⟩ := e
        have := reps_ints q1 rt
        subst this
        obtain ⟨h1, h2⟩ := firstI_at q2
        exact ⟨p, ns, k, j, rfl, rfl, hp, h1, h2, h _ [] .non [] (reps_intM _) ⟨rfl, rfl⟩ (fun a => by simp)⟩
  · cases e
theorem reps_split {K : PySem.W.Frag} {H : Hp} {P : Al} : ∀ {ts : List T} {vs : List V} {F : List Addr} (n : Nat), Reps K H P ts vs F → ∃ Fa Fb, Reps K H P (ts.take n) (vs.take n) Fa ∧ Reps K H P (ts.drop n) (vs.drop n) Fb ∧ F = Fa ++ Fb
  | ts, vs, F, 0, r => ⟨[], F, by simpa using ⟨rfl, rfl⟩, by simpa using r, rfl⟩
  | [], _, _, n + 1, ⟨e1, e2⟩ => by subst e1 e2; exact ⟨[], [], ⟨by simp, rfl⟩, ⟨by simp, rfl⟩, rfl⟩
  | t :: ts, _, _, n + 1, ⟨v, r', F1, F2, e1, e2, c, d⟩ => by
    subst e1 e2
    obtain ⟨Fa, Fb, ha, hb, rfl⟩ := reps_split n d
    exact ⟨F1 ++ Fa, Fb, ⟨v, _, F1, Fa, by simp, rfl, c, ha⟩, by simpa using hb, by simp⟩
def mInsert (ts : List T) : List T → Option (List T × T)
  | [.int i, t] => if 0 ≤ i ∧ i < 2 ^ 62 ∧ ts.length < sizeLine then some (ts.take i.toNat ++ [t] ++ ts.drop i.toNat, .non) else none
  | _ => none
theorem own_insert {K : PySem.W.Frag} : OwnL K (fun x vs H Q => ∃ (l : Addr) (xs : List V) (i : Int) (y : V), x = .ref l ∧ vs = [.int i, y] ∧ H l = some (.lst xs) ∧ xs.length < sizeLine ∧ 0 ≤ i ∧ i < 2 ^ 63 ∧
    Q .non (upd H l (.lst (xs.take i.toNat ++ [y] ++ xs.drop i.toNat)))) mInsert := by
  intro H P p vs ts G as us F Q ts' res hp rt ra e h
  unfold mInsert at e
  split at e
  · rename_i i t
    obtain ⟨v, r', F1, F2, rfl, rfl, ⟨rfl, rfl⟩, y, r'', F3, F4, rfl, rfl, ry, rfl, rfl⟩ := ra
    split at e
    · rename_i c
      simp only [Option.some.injEq, Prod.mk.injEq] at e
      obtain ⟨rfl, rfl⟩ := e
      have hl := rt.length
      obtain ⟨Ga, Gb, g1, g2, rfl⟩ := reps_split i.toNat rt
      have one : Reps K H P [t] [y] F3 := ⟨y, [], F3, [], rfl, by simp, ry, rfl, rfl⟩
      refine ⟨p, vs, i, y, rfl, rfl, hp, by omega, c.1, by omega, h _ ((Ga ++ F3) ++ Gb) .non [] ((g1.append one).append g2) ⟨rfl, rfl⟩ fun a => ?_⟩
      simp only [List.count_append, List.append_nil, List.nil_append]
      omega
    · cases e
  · cases e
/-! x.index(e), x a list -/
def eqAt (y : T) : List T → Option Nat
  | [] => none
  | t :: ts => if eqF t y = true then some 0 else (eqAt y ts).map (· + 1)
theorem eqAt_at {y : T} : ∀ {ts : List T} {j : Nat}, eqAt y ts = some j → ∃ t, ts[j]? = some t ∧ eqF t y = true ∧ ∀ (m : Nat) (u : T), m < j → ts[m]? = some u → eqF u y = false
  | [], j, h => by simp [eqAt] at h
  | t :: ts, j, h => by
    simp only [eqAt] at h
    split at h
    · rename_i e
      cases h
      exact ⟨t, rfl, e, fun m u hm => by omega⟩
    · rename_i e
      cases q : eqAt y ts with
      | none => rw [q] at h; cases h
      | some i =>
        rw [q] at h
        simp only [Option.map_some, Option.some.injEq] at h
        subst h
        obtain ⟨u, h1, h2, h3⟩ := eqAt_at q
        refine ⟨u, by simpa using h1, h2, fun m w hm hw => ?_⟩
        cases m with
        | zero => simp only [List.getElem?_cons_zero, Option.some.injEq] at hw; subst hw; simpa using e
        | succ m => exact h3 m w (by omega) (by simpa using hw)
def idxT (ts : List T) (y : T) : Option T := if flatT y = true ∧ ts.all flatT = true then (eqAt y ts).map fun j => .int (j : Nat) else none
def lM1F (g : List T → T → Option T) (fo fe : FE) : FE := fun env => do
  let x ← fo env
  match x with
  | .lst _ ts => do let y ← fe env; R.ofO (g ts y)
  | _ => .bad
section
variable {X : Cx} {ec : Nat → Addr} {W : WX} {o e : Expr} {fo fe : FE} {apos pos : Pos}
theorem tDA_one {K : PySem.W.Frag} {σ : L2.St} {H : Hp} {R' : VK} (h : tD K ec W fe σ H R') : tDA K ec W (consE fe nilA) σ H (fun vs H1 => ∃ v, vs = [v] ∧ R' v H1) := by
  obtain ⟨B, env, fp, s, h⟩ := h
  refine ⟨B, env, fp, s, ?_⟩
  unfold consE nilA
  cases q : fe env with
  | exc c => rw [q] at h; exact h
  | bad => rw [q] at h; exact h
  | ok t =>
    rw [q] at h
    rintro vs H1 F e1 ⟨v, r', F1, F2, rfl, rfl, c, rfl, rfl⟩ n f
    exact ⟨v, rfl, h v H1 (F1 ++ []) e1 (by simpa using c) n f⟩
theorem DE.index (ho : DE X ec W o fo) (he : DE X ec W e fe) (hbase : attributeBase o "index" X.env (eval o X.env) = eval o X.env := by rfl)
    (hfew : ((backTo pos (starEach [e] X.env)).all (fun x => !x.1) && (backToKw pos (keywordEach [] X.env)).all (fun x => x.1.isSome)
      && decide (([e] : List Expr).length + ([] : List Keyword).length + (if ([] : List Keyword).isEmpty then 0 else 1) < 30)) = true := by rfl)
    (hline : (apos.endLine == pos.line) = true := by rfl) (hs : starEach [e] X.env = (false, eval e X.env) :: starEach [] X.env := by rfl) (hplain : (backTo pos (starEach [] X.env)).any (·.1) = false := by rfl) :
    DE X ec W (.Call (.Attribute o "index" apos) [e] [] pos) (lM1F idxT fo fe) := by
  refine ⟨pe_mono (pe_bm PySem.F.plainAttrs_list PySem.F.slot_list_index PySem.F.type_list_index mt_index ho.run (DA.cons he DA.nil hs).run hbase hfew hline hs hplain) fun σ H Q ⟨B, env, fp, s, h⟩ => ?_⟩
  refine tD.one (k := fun x => match x with | .lst _ ts => (do let y ← fe env; R.ofO (idxT ts y)) | _ => .bad) (Q := Q) s h fun x tx Fx H1 e1 rx nx fx _ p => ?_
  cases tx with
  | lst g ts =>
    obtain ⟨a, vs, G, rfl, l, fpp, r⟩ := rx
    refine ⟨.inl ⟨rfl, vs, l.sq⟩, ?_⟩
    have q := tD.one (k := fun y => R.ofO (idxT ts y)) (Q := Q) (R' := fun y H2 => rIndex X.K (.ref a) [y] H2 Q) (s.grow e1) (p.ext e1) fun y ty Fy H2 e2 ry ny fy _ p' => ?_
    · obtain ⟨B', env', fp', s', h'⟩ := tDA_one q
      refine ⟨B', env', fp', s', ?_⟩
      unfold consE at h' ⊢
      cases q2 : fe env' with
      | exc c => rw [q2] at h'; exact h'
      | bad => rw [q2] at h'; exact h'
      | ok t =>
        rw [q2] at h'
        intro vs H2 F e2 r2 n f
        obtain ⟨v, rfl, z⟩ := h' vs H2 F e2 r2 n f
        exact z
    · unfold idxT at p'
      split at p'
      · rename_i c
        cases q : eqAt ty ts with
        | none => rw [q] at p'; exact p'.elim
        | some j =>
          rw [q] at p'
          obtain ⟨t, h1, h2, h3⟩ := eqAt_at q
          have sq : SqL X.K H2 a vs := by
            rcases l.sq with (w | ⟨ob, w⟩) | w
            · exact .inl (.inl (e2 _ _ w))
            · exact .inl (.inr ⟨ob, e2 _ _ w⟩)
            · exact .inr w
          have ey := rep_flat c.1 ry
          have ev := reps_flat c.2 r
          subst ey ev
          refine ⟨a, _, fV ty, j, fV t, rfl, rfl, sq, fV_flat ty, all_fV ts, by rw [List.getElem?_map, h1]; rfl, ?_, fun m z' hm hz => ?_, ?_⟩
          · rw [fV_eq (List.all_eq_true.mp c.2 t (List.mem_of_getElem? h1)) c.1]; exact h2
          · rw [List.getElem?_map] at hz
            obtain ⟨u, hu, rfl⟩ := Option.map_eq_some_iff.mp hz
            rw [fV_eq (List.all_eq_true.mp c.2 u (List.mem_of_getElem? hu)) c.1]
            exact h3 m u hm hu
          · have p2 : ∀ v H' F, Ext H1 H' → Rep X.K H' (Pm B.O B.C (AF (Aw fp) F) (Aw fp)) (.int (j : Nat)) v F → F.Nodup → (∀ a ∈ F, H1 a = none) → Q v H' := p'
            exact p2 _ H2 [] e2 ⟨rfl, rfl⟩ List.nodup_nil (by simp)
      · exact p'.elim
  | _ => exact p.elim
end
def lstO (x : T) (k : List T → R T) : R T := match x with | .lst _ ts => k ts | _ => .bad
@[simp] theorem lstO_lst (g : Tg) (ts : List T) (k : List T → R T) : lstO (.lst g ts) k = k ts := id rfl
@[simp] theorem lM1F_def (g : List T → T → Option T) (fo fe : FE) (env : EnvT) : lM1F g fo fe env = (fo env >>= fun x => lstO x fun ts => fe env >>= fun y => R.ofO (g ts y)) := by
  unfold lM1F lstO; rfl
end VS
namespace VS
open PySem PySem.Spec L2
open PyProof.Rows hiding St
/-! list(reversed(x)), x a list -/
section
variable {prog : Program} {w : World} {A : Around} {E : Value → Shared → Prop} {s : Shared} {it l : Addr} {zs : Array Value}
theorem init_rev {Rz : Result → Shared → Prop} (calm : A.handled = none) (iter : s.heap.IsRevIter it l ((zs.size : Int) - 1)) (src : s.heap.IsList l zs) (off : l ≠ it) (few : zs.size ≤ sizeLine)
    (D : Addr) (dst : s.heap.get? D = some { cls := .type "list", data := .seq #[] }) (d1 : D ≠ it) (d2 : D ≠ l)
    (fin : ∀ h' tk ys c', (∀ b o, b ≠ D → b ≠ it → s.heap.get? b = some o → h'.get? b = some o) → h'.get? D = some { cls := .type "list", dict := none, data := .seq ys c', slots := #[] } →
      ItemsOf (fun i v => zs[zs.size - 1 - i]? = some v) ys zs.size → Rz (.ok (.ret .none)) { s with heap := h', toks := tk }) :
    wpAny (model prog w) A.in1 (Builtin.«list.__init__» ⟨[.ref D, .ref it], []⟩)
      (fun z s' => match z with | .done q => Rz (.ok q) s' | .again q => q.quiet = true ∧ codeAny (model prog w) A q Rz s') (fun q s' => Rz (.error q) s') s := by
  have walk := (Walks.listRev (prog := prog) (w := w) (A := A.in1) calm it l off zs).toS
  have off2 : D ∉ [it, l] := by simp only [List.mem_cons, List.not_mem_nil, or_false, not_or]; exact ⟨d1, d2⟩
  show wpAny _ _ (do let gone ← Builtin.List.listItems (.ref D); Builtin.List.listUpdate (.ref D) (fun _ => #[]); letGo gone.toList.reverse; Builtin.List.listExtendWith (.ref D) (.ref it) .none) _ _ s
  refine wpAny_bind ?_
  unfold Builtin.List.listItems
  refine wpAny_bind (wpAny_seqItems dst rfl (wpAny_pure ?_))
  show wpAny _ _ (updateSeq D (fun _ => #[]) >>= fun _ => letGo (#[] : Array Value).toList.reverse >>= fun _ => Builtin.List.listExtendWith (.ref D) (.ref it) .none) _ _ s
  refine wpAny_bind (wpAny_updateSeq dst rfl ?_)
  have dst2 := Heap.get?_update_self (Obj.mapSeq (fun _ => (#[] : Array Value))) dst rfl
  have rest : ∀ b o, b ≠ D → s.heap.get? b = some o → (s.heap.update D (Obj.mapSeq (fun _ => (#[] : Array Value)))).get? b = some o := fun b o n e => (Heap.get?_update_other _ _ (Ne.symm n)).trans e
  refine wpAny_bind (wpAny_letGo ?_)
  have iter2 : (s.heap.update D (Obj.mapSeq (fun _ => (#[] : Array Value)))).IsRevIter it l ((zs.size : Int) - 1) := iter.at fun o e => rest it o d1.symm e
  have src2 : (s.heap.update D (Obj.mapSeq (fun _ => (#[] : Array Value)))).IsList l zs := by
    obtain ⟨o, h1, h2⟩ := src
    exact ⟨o, rest l o d2.symm h1, h2⟩
  generalize s.heap.update D (Obj.mapSeq (fun _ => (#[] : Array Value))) = g at *
  have ty : ({ s with heap := g } : Shared).TypeIs (.ref it) "list_reverseiterator" := Heap.IsRevIter.typeIs (s := { s with heap := g }) iter2
  have no : Builtin.List.listSameRef (.ref D) (.ref it) = false := by simp [Builtin.List.listSameRef, d1]
  unfold Builtin.List.listExtendWith
  refine wpAny_bind (wpAny_typeOf ty ?_)
  rw [if_neg (by rw [no]; decide)]
  refine wpAny_bind (wpAny_pyIter_revIter (s := { s with heap := g }) iter2 ?_)
  refine wpAny_bind (wpAny_holding ?_)
  unfold Builtin.List.listLengthHint
  refine wpAny_bind (wpAny_specialOf ty RT.nolen_lri ?_)
  show wpAny _ A.in1 (specialOf (Value.ref it) (Str.ofString "__length_hint__") >>= _) _ _ _
  refine wpAny_bind (wpAny_specialOf ty RT.hint_lri ?_)
  generalize hint : ("list_reverseiterator.__length_hint__" : String) = idh
  wp_delta
  rw [show splitId idh = some ("list_reverseiterator", "__length_hint__") from by subst hint; decide +kernel]
  subst hint
  refine wpAny_bind (wpAny_isInstance (b := true) ty (by rw [isSubtype_type]; kernel_rfl) ?_)
  refine wpAny_pure ?_
  rw [if_neg (by decide)]
  have z0 : ((zs.size : Nat) : Int) - 1 - ((0 : Nat) : Int) = (zs.size : Int) - 1 := by omega
  refine wpAny_pure ⟨plainId_quiet F.plain_extend_loop _, codeAny_extend_loopS walk few _ off2 _ zs.size 0 _ _ _ rfl (Nat.zero_le _) ⟨Nat.zero_le _, by rw [z0]; exact iter2, src2⟩ dst2 (ItemsOf.nil _) fun s' ys c' mv at' its => ?_⟩
  rw [Moved.eq_with mv]
  refine fin s'.heap s'.toks ys c' (fun b ob n1 n2 e => mv.heap b ob (fun m => ?_) (rest b ob n1 e)) at' its
  rcases List.mem_cons.mp m with q | m
  · exact n1 q
  · exact n2 (List.mem_singleton.mp m)
theorem call_listRev {Q : Value → Shared → Prop} (calm : A.handled = none) (iter : s.heap.IsRevIter it l ((zs.size : Int) - 1)) (src : s.heap.IsList l zs) (off : l ≠ it) (few : zs.size ≤ sizeLine)
    (fin : ∀ h' tk ys c', (∀ b o, b ≠ it → s.heap.get? b = some o → h'.get? b = some o) → h'.get? s.heap.objs.size = some { cls := .type "list", dict := none, data := .seq ys c', slots := #[] } →
      ItemsOf (fun i v => zs[zs.size - 1 - i]? = some v) ys zs.size → Q (.ref s.heap.objs.size) { s with heap := h', toks := tk }) : wpAny (model prog w) A (call (.type "list") [.ref it]) Q E s := by
  refine callType_codes (Q₁ := fun z s₁ => z = .ref s.heap.objs.size ∧ s₁ = { s with heap := s.heap.push { cls := .type "list", data := .seq #[] } }) F.called_list (F.typeCall_list_1 _) F.entry_list_init
    (code_list_new _ ⟨rfl, rfl⟩) fun z s₁ both => ?_
  obtain ⟨rfl, rfl⟩ := both
  have dst : (s.heap.push { cls := .type "list", data := .seq #[] }).get? s.heap.objs.size = some { cls := .type "list", data := .seq #[] } := Heap.get?_push_size _ rfl
  obtain ⟨oi, hoi, _⟩ := id iter
  obtain ⟨ol, hol, _⟩ := id src
  refine ⟨⟨_, dst, rfl⟩, F.args_list_init_2 _ _, init_rev (A := A.in1) (s := { s with heap := s.heap.push { cls := .type "list", data := .seq #[] } }) calm (iter.at fun o e => Heap.get?_push_of_some _ e) (src.push _) off few _ dst (Nat.ne_of_gt (Heap.lt_size hoi)) (Nat.ne_of_gt (Heap.lt_size hol)) fun h' tk ys c' k at' its => ?_⟩
  exact ⟨rfl, fin h' tk ys c' (fun b o n e => k b o (Nat.ne_of_lt (Heap.lt_size e)) n (Heap.get?_push_of_some _ e)) at' its⟩
end
def tListRev (K : PySem.W.Frag) (te : TE) : TE := fun σ H Q => te σ H fun v H1 => ∃ (a : Addr) (xs : List V), v = .ref a ∧ SqL K H1 a xs ∧ ∀ q, H1 q = none → Q (.ref q) (upd H1 q (.lst xs.reverse))
theorem pe_listRev {X : Cx} {e : Expr} {te : TE} {p p2 pos pos2 : Pos} (hc : X.calm = true) (hg : Gl X "list") (hm : X.mg "list" = none) (hg2 : Gl X "reversed") (hm2 : X.mg "reversed" = none) (he : PE X e te)
    (na : starEach [e] X.env = (false, eval e X.env) :: starEach [] X.env := by rfl)
    (nb : starEach [.Call (.Name "reversed" p2) [e] [] pos2] X.env = (false, eval (.Call (.Name "reversed" p2) [e] [] pos2) X.env) :: starEach [] X.env := by rfl) :
    PE X (.Call (.Name "list" p) [.Call (.Name "reversed" p2) [e] [] pos2] [] pos) (tListRev X.K te) := by
  refine ⟨fun pins s σ H Q I h => ?_⟩
  refine Call_ (ld_blt I hg hm PyProof.Rows.boot_list (PyProof.Rows.callWith_type1 (args_cons (Call_ (ld_blt I hg2 hm2 PyProof.Rows.boot_reversed (PyProof.Rows.callWith_type1 (args_cons (thn (he.run pins s σ H _ I h) fun u s1 ⟨v, H1, I1, r1, q1⟩ => args_nil ?_) na) na rfl))) nb) nb rfl))
  obtain ⟨a, xs, ev, hq, q⟩ := q1
  subst ev
  obtain rfl : u = Value.ref a := r1
  obtain ⟨its, rv, pl, hz⟩ := I1.list hq
  refine call_reversed_list pl.isList (args_nil ?_)
  have keep : ∀ b o, s1.heap.get? b = some o → (s1.heap.push (revObj a ((its.toArray.size : Int) - 1))).get? b = some o := fun b o e => Heap.get?_push_of_some _ e
  have il := pl.isList
  obtain ⟨ol, hol, _⟩ := id il
  have off : a ≠ s1.heap.objs.size := Nat.ne_of_lt (Heap.lt_size hol)
  have few : its.toArray.size ≤ sizeLine := by rw [List.size_toArray, ← rv.length]; exact hz
  refine call_listRev (s := { s1 with heap := s1.heap.push (revObj a ((its.toArray.size : Int) - 1)) }) (I1.ok.hd hc) ⟨_, Heap.get?_push_size _ rfl, rfl, rfl⟩ (il.push _) off few fun h' tk ys c' k at' iz => ?_
  have up : s1.heap.objs.size ≤ (s1.heap.push (revObj a ((its.toArray.size : Int) - 1))).objs.size := by rw [Heap.size_push]; exact Nat.le_succ _
  refine ⟨.ref (s1.heap.push (revObj a ((its.toArray.size : Int) - 1))).objs.size, upd H1 (s1.heap.push (revObj a ((its.toArray.size : Int) - 1))).objs.size (.lst xs.reverse), I1.laid (t' := tk) (fun b o e => k b o (Nat.ne_of_lt (Heap.lt_size e)) (keep b o e)) up
    ⟨by rw [List.length_reverse]; exact hz, ys.toList, c', RT.vals_rev rv iz, at'⟩, rfl, q _ (I1.hok.fresh up)⟩
def revL : T → Option T
  | .lst _ ts => some (.lst .own ts.reverse)
  | _ => none
section
variable {X : Cx} {ec : Nat → Addr} {W : WX} {e : Expr} {fe : FE} {p p2 pos pos2 : Pos}
theorem Le.sub2 {F G : List Addr} (h : Le F G) : ∀ b ∈ F, b ∈ G := fun _ m => h.mem m
theorem DE.listRev (hc : X.calm = true) (hg : Gl X "list") (hm : X.mg "list" = none) (hg2 : Gl X "reversed") (hm2 : X.mg "reversed" = none) (he : DE X ec W e fe)
    (na : starEach [e] X.env = (false, eval e X.env) :: starEach [] X.env := by rfl)
    (nb : starEach [.Call (.Name "reversed" p2) [e] [] pos2] X.env = (false, eval (.Call (.Name "reversed" p2) [e] [] pos2) X.env) :: starEach [] X.env := by rfl) :
    DE X ec W (.Call (.Name "list" p) [.Call (.Name "reversed" p2) [e] [] pos2] [] pos) (un1 revL fe) := by
  refine ⟨pe_mono (pe_listRev hc hg hm hg2 hm2 he.run na nb) fun σ H Q h => ?_⟩
  refine one_op (r := fun v H1 Q => ∃ (a : Addr) (xs : List V), v = .ref a ∧ SqL X.K H1 a xs ∧ ∀ q, H1 q = none → Q (.ref q) (upd H1 q (.lst xs.reverse))) (fun H O C A x tx F Q t cz r e h => ?_) h
  cases tx with
  | lst g ts =>
    obtain ⟨a, vs, G, rfl, l, fpp, r⟩ := r
    simp only [revL, Option.some.injEq] at e
    subst e
    obtain ⟨G', g', le⟩ := r.rev
    have leF : Le G' F := le.trans (Le.of_sub fpp.sublist)
    refine ⟨a, vs, rfl, l.sq, fun q hq => h (.ref q) _ (q :: G') (Ext.new hq) ⟨q, vs.reverse, G', rfl, upd_same, rfl, g'.more (Ext.new hq) (fun b hb o => o) fun b hb => (List.mem_cons.mp hb).elim (fun z => .inr (z ▸ hq)) fun m => .inl (leF.mem m)⟩ ?_ fun b hb => (List.mem_cons.mp hb).elim (fun z => .inl (z ▸ hq)) fun m => .inr (leF.mem m)⟩
    exact List.nodup_cons.mpr ⟨fun m => Reps.own_dom _ _ _ g' q m hq, leF.nodup cz.nd⟩
  | _ => simp [revL] at e
end
end VS

namespace VS
open PySem PySem.Spec L2
open PyProof.Rows hiding St

/-! ### x.m(y.n(..)): the argument changes a list of its own -/
mutual
theorem val_any {K : PySem.W.Frag} {H : Hp} {P P' : Al} : ∀ {t : T} {v : V} {F : List Addr}, t.val = true → Rep K H P t v F → Rep K H P' t v []
  | .non, _, _, _, r => ⟨r.1, rfl⟩
  | .bl _, _, _, _, r => ⟨r.1, rfl⟩
  | .int _, _, _, _, r => ⟨r.1, rfl⟩
  | .str _, _, _, _, r => ⟨r.1, rfl⟩
  | .tup ts, _, _, h, ⟨a, vs, e, l, r⟩ => ⟨a, vs, e, l, vals_any (ts := ts) (by simpa [T.val] using h) r⟩
  | .tupN ts, _, _, h, ⟨a, vs, e, l, r⟩ => ⟨a, vs, e, l, vals_any (ts := ts) (by simpa [T.val] using h) r⟩
  | .lst _ _, _, _, h, _ => by simp [T.val] at h
  | .dct _ _, _, _, h, _ => by simp [T.val] at h
theorem vals_any {K : PySem.W.Frag} {H : Hp} {P P' : Al} : ∀ {ts : List T} {vs : List V} {F : List Addr}, T.vals ts = true → Reps K H P ts vs F → Reps K H P' ts vs []
  | [], _, _, _, r => ⟨r.1, rfl⟩
  | t :: ts, _, _, h, ⟨v, r', F1, F2, e, _, c, d⟩ => by
    have h' : t.val = true ∧ T.vals ts = true := by simpa [T.vals] using h
    exact ⟨v, r', [], [], e, rfl, val_any h'.1 c, vals_any h'.2 d⟩
end
def methV (i : Nat) (g : List T → List T → Option (List T × T)) (fx : FX) : FX := fun env => match env[i]? with
  | some (some (.lst .own _)) => (match fx env with
    | .ok (t, e1) => if t.val = true then methX i g (fun _ => .ok [t]) e1 else .bad
    | .exc c => .exc c
    | .bad => .bad)
  | _ => .bad
theorem tX_any {K : PySem.W.Frag} {ec : Nat → Addr} {W : WX} {fx : FX} {σ : L2.St} {H : Hp} {R' : VK} (B : Bx) (env : EnvT) (fp : Fps) (s : Sta K B env σ H fp) (ne : ∀ c, fx env = .exc c → ∀ H' fp', Sta K B env σ H' fp' → W (.ref (ec c)) none σ H')
    (nb : fx env ≠ .bad) (hk : ∀ t e1 v H' fp' F, fx env = .ok (t, e1) → Sta K { B with O := fun a => B.O a ∨ a ∈ F } e1 σ H' fp' → Rep K H' (Pm B.O B.C (AF (Aw fp') F) (Aw fp')) t v F → R' v H') : tX K ec W fx σ H R' := by
  refine ⟨B, env, fp, s, ?_⟩
  cases e : fx env with
  | ok p => obtain ⟨t, e1⟩ := p; exact fun v H' fp' F s' r n f => hk t e1 v H' fp' F e s' r
  | exc c => exact ne c e
  | bad => exact (nb e).elim
theorem methV_post {K : PySem.W.Frag} {ec : Nat → Addr} {W : WX} {i : Nat} {r : V → List V → Hp → VK → Prop} {g : List T → List T → Option (List T × T)} {fx : FX} (hg : OwnL K r g) {σ : L2.St} {H : Hp} {Q : VK} (h : tX K ec W (methV i g fx) σ H Q) :
    ∃ v, σ[i]? = some (some v) ∧ tyV K "list" v H ∧ tX K ec W fx σ H (fun x H2 => r v [x] H2 Q) := by
  obtain ⟨B, env, fp, s, h⟩ := h
  unfold methV at h
  split at h
  · rename_i ts e
    obtain ⟨v, hv, rs⟩ := s.slot i _ e
    obtain ⟨p, vs, G, rfl, l, fpe, r0⟩ := rs
    have hp : H p = some (.lst vs) := l
    refine ⟨.ref p, hv, .inl ⟨rfl, vs, SqL.of hp⟩, tX_any B env fp s (fun c q H' fp' s' => ?_) (fun q => ?_) fun t e1 x H' fp' F q s' rx => ?_⟩
    · rw [q] at h; exact h H' fp' s'
    · rw [q] at h; exact h
    · rw [q] at h
      dsimp only at h
      by_cases hv2 : t.val = true
      · rw [if_pos hv2] at h
        have := val_foot hv2 rx
        subst this
        have s2 : Sta K B e1 σ H' fp' := s'.unhide fun a ha => .inl ha
        have h2 : tX K ec W (methX i g (fun _ => .ok [t])) σ H' Q := by
          refine ⟨B, e1, fp', s2, ?_⟩
          cases q3 : methX i g (fun _ => .ok [t]) e1 with
          | ok z => obtain ⟨u, e2⟩ := z; rw [q3] at h; exact h
          | exc c =>
            exfalso
            unfold methX at q3
            split at q3
            · dsimp only [R.ok_bind] at q3
              simp only [R.ok_bind] at q3
              split at q3
              · cases q3
              · split at q3 <;> cases q3
            · cases q3
          | bad => rw [q3] at h; exact h.elim
        obtain ⟨v', hv', _, B', env', fp'', _, z⟩ := meth_post hg h2
        rw [hv] at hv'
        cases hv'
        exact z [x] H' [] (Ext.refl _) ⟨x, [], [], [], rfl, rfl, val_any hv2 rx, rfl, rfl⟩ List.nodup_nil (by simp)
      · rw [if_neg hv2] at h; exact h.elim
  · exact h.elim
section
variable {X : Cx} {ec : Nat → Addr} {W : WX} {e : Expr} {fx : FX} {pos apos : Pos}
theorem DX.methV (i : Nat) {x name : Str} {id : String} {xp : Pos} {r : V → List V → Hp → VK → Prop} {g : List T → List T → Option (List T × T)} (slot : Slot "list" name id) (hty : typeOf (.builtin id) = pure (.type "method_descriptor")) (hm : MtR X id r) (hg : OwnL X.K r g) (ha : DX X ec W e fx)
    (hN : X.N[i]? = some x := by rfl) (hv : Vis X.env.scope x := by first | exact Or.inl rfl | exact Or.inr (Or.inl rfl) | exact Or.inr (Or.inr rfl)) (hd : (x == ("__debug__" : Str)) = false := by decide) (hcd : (x == ("__classdict__" : Str)) = false := by decide)
    (hbase : attributeBase (.Name x xp) name X.env (eval (.Name x xp) X.env) = eval (.Name x xp) X.env := by rfl)
    (hfew : ((backTo pos (starEach [e] X.env)).all (fun x => !x.1) && (backToKw pos (keywordEach [] X.env)).all (fun x => x.1.isSome)
      && decide (([e] : List Expr).length + ([] : List Keyword).length + (if ([] : List Keyword).isEmpty then 0 else 1) < 30)) = true := by rfl)
    (hline : (apos.endLine == pos.line) = true := by rfl) (hs : starEach [e] X.env = (false, eval e X.env) :: starEach [] X.env := by rfl) (hplain : (backTo pos (starEach [] X.env)).any (·.1) = false := by rfl) :
    DX X ec W (.Call (.Attribute (.Name x xp) name apos) [e] [] pos) (VS.methV i g fx) :=
  ⟨pe_mono (pe_bm PySem.F.plainAttrs_list slot hty hm (pe_var (i := i) hN hv hd hcd) (pa_cons ha.run pa_nil hs) hbase hfew hline hs hplain) fun σ H Q h => methV_post hg h⟩
end
def ownO (x : T) (k : R (T × EnvT)) : R (T × EnvT) := match x with | .lst .own _ => k | _ => .bad
@[simp] theorem ownO_lst (ts : List T) (k : R (T × EnvT)) : ownO (.lst .own ts) k = k := id rfl
def valO (r : R (T × EnvT)) (k : T → EnvT → R (T × EnvT)) : R (T × EnvT) := match r with | .ok (t, e1) => if t.val = true then k t e1 else .bad | .exc c => .exc c | .bad => .bad
@[simp] theorem valO_ok (t : T) (e1 : EnvT) (k : T → EnvT → R (T × EnvT)) : valO (.ok (t, e1)) k = if t.val = true then k t e1 else .bad := id rfl
@[simp] theorem methV_def (i : Nat) (g : List T → List T → Option (List T × T)) (fx : FX) (env : EnvT) : methV i g fx env = (match look env i with
  | some t => ownO t (valO (fx env) fun t e1 => methX i g (fun _ => .ok [t]) e1)
  | none => .bad) := by
  refine Eq.trans ?_ (look_get (fun t => ownO t (valO (fx env) fun t e1 => methX i g (fun _ => .ok [t]) e1)) .bad env i)
  unfold methV ownO valO
  cases e : env[i]? with
  | none => rfl
  | some o =>
    cases o with
    | none => rfl
    | some t =>
      cases t with
      | lst gg ts => cases gg <;> first | rfl | (cases fx env <;> rfl)
      | _ => rfl
end VS
namespace VS
open PySem PySem.Spec L2
open PyProof.Rows hiding St
/-! a, b = x, x a tuple or a list -/
def gTupX (is : List Nat) : T → EnvT → Option EnvT := fun t env => match t with
  | .tup ts => gTupT is (.tup ts) env
  | .lst _ ts => gTupT is (.tup ts) env
  | _ => none
theorem pg_or {X : Cx} {e : Expr} {t1 t2 : TG} (h1 : PG X e t1) (h2 : PG X e t2) : PG X e (fun v σ H Q => t1 v σ H Q ∨ t2 v σ H Q) := by
  refine ⟨fun pins s σ H v u Q I r h => ?_⟩
  rcases h with h | h
  · exact h1.run pins s σ H v u Q I r h
  · exact h2.run pins s σ H v u Q I r h
theorem Chg.more {is : List Nat} {σ σ' : L2.St} {fp fp' : Fps} {F G : List Addr} (c : Chg is σ σ' fp fp' G) (h : ∀ a ∈ G, a ∈ F) : Chg is σ σ' fp fp' F :=
  ⟨c.so, fun a ha => (c.aw a ha).elim .inl fun m => .inr (h a m), c.eq⟩
theorem DG.tupX {X : Cx} {pos : Pos} {es : List Expr} {k : Nat} {is : List Nat} (hc : X.calm = true) (h : DGs X es is (gSets is)) (hn : (assignEach es X.env).length = is.length := by rfl) (hst : (assignEach es X.env).findIdx? (·.1) = none := by rfl) : DG X (.Tuple es k pos) is (gTupX is) := by
  refine ⟨pg_mono (pg_or (pg_tup hc h.run hn hst) (pg_lst hc h.run hn hst)) fun v σ H Q ⟨B, env, fp, t, F, s, r, n, f, h⟩ => ?_⟩
  cases t with
  | tup ts =>
    obtain ⟨a, vs, rfl, sq, r⟩ := r
    unfold gTupX gTupT at h
    dsimp only at h
    by_cases c : ts.length = is.length
    · rw [if_pos c] at h
      exact .inl ⟨a, vs, rfl, SqT.of sq, by rw [← r.length]; exact c, B, env, fp, ts, F, s, r, n, f, h⟩
    · rw [if_neg c] at h; exact h.elim
  | lst g ts =>
    obtain ⟨a, vs, G, rfl, l, fpp, r⟩ := r
    unfold gTupX gTupT at h
    dsimp only at h
    by_cases c : ts.length = is.length
    · rw [if_pos c] at h
      have sub : ∀ b ∈ G, b ∈ F := fpp.sub
      refine .inr ⟨a, vs, rfl, l.sq, by rw [← r.length]; exact c, B, env, fp, ts, G, Sta.unhide (B := { B with O := fun a => B.O a ∨ a ∈ G }) (O' := fun a => B.O a ∨ a ∈ F) s (fun b hb => Or.imp id (sub b) hb), ?_, n.sublist fpp.sublist, fun b hb => f b (sub b hb), ?_⟩
      · refine r.mono (Ext.refl H) fun g' b _ _ _ q => ?_
        cases g' with
        | own => trivial
        | shr => exact ⟨q.1, fun z => q.2.1 (z.elim .inl fun m => .inr (sub b m)), q.2.2⟩
        | prt => exact ⟨q.1, fun z => q.2 (z.elim .inl fun m => .inr (sub b m))⟩
        | brw => exact q
        | fzn => exact ⟨q.1, fun z => q.2 (z.elim .inl fun m => .inr (sub b m))⟩
      · cases e : gSets is ts env with
        | none => rw [e] at h; exact h.elim
        | some e1 => rw [e] at h; exact fun σ' fp' s' c => h σ' fp' s' (c.more sub)
    · rw [if_neg c] at h; exact h.elim
  | _ => exact h.elim
@[simp] theorem gTupX_tup (is : List Nat) (ts : List T) (env : EnvT) : gTupX is (.tup ts) env = gTupT is (.tup ts) env := id rfl
@[simp] theorem gTupX_lst (is : List Nat) (g : Tg) (ts : List T) (env : EnvT) : gTupX is (.lst g ts) env = gTupT is (.tup ts) env := id rfl
end VS

namespace VS
open PySem PySem.Spec L2
open PyProof.Rows hiding St
open PySem.W (alike dataLe Sortable AllAlike EachIs sortingHeap copyHeap SortsAt)

/-! ### sorted(t), x.extend(t), t a tuple -/
section
variable {prog : Program} {w : World} {A : Around} {E : Value → Shared → Prop} {s : Shared} {tp : Addr} {us : List Value}
theorem gather_tup {Q : List Value → Shared → Prop} (src : IsTup s.heap tp us.toArray)
    (fin : Q us { s with heap := (s.heap.push (seqObj "list" #[] 0)).update s.heap.objs.size (Obj.mapSeq (· ++ us.toArray)) }) (few : us.length ≤ sizeLine) : wpAny (model prog w) A (collect (.ref tp)) Q E s := by
  obtain ⟨ot, hot, cls, nt, dat⟩ := id src
  unfold collect
  refine wpAny_bind (wpAny_runValue (codeAny_builtin entry_proto_collect' ?_))
  show wpAny _ _ (do again (.builtin "list.__iadd__" ⟨[← newList [], .ref tp], []⟩)) _ _ s
  refine wpAny_bind (wpAny_newList (wpAny_pure ⟨Code.quiet_builtin _ (by decide +kernel), codeAny_builtin entry_list_iadd' ?_⟩))
  show wpAny _ _ (Builtin.List.listExtendWith (.ref s.heap.objs.size) (.ref tp) (.ref s.heap.objs.size)) _ _ { s with heap := s.heap.push (seqObj "list" #[] 0) }
  unfold Builtin.List.listExtendWith
  have hot2 : (s.heap.push (seqObj "list" #[] 0)).get? tp = some ot := Heap.get?_push_of_some _ hot
  refine wpAny_bind (wpAny_typeOf (T := "tuple") ⟨ot, hot2, cls⟩ ?_)
  rw [if_pos (by have q : (Value.type "tuple" == Value.type "tuple") = true := rfl
                 rw [q]; simp)]
  refine wpAny_bind (listItems_at hot2 dat ?_)
  refine wpAny_bind (listItems_at (xs := #[]) (n := 0) (Heap.get?_push_size _ rfl) rfl ?_)
  rw [if_neg (by simp)]
  refine wpAny_bind (listUpdate_at (xs := #[]) (n := 0) (Heap.get?_push_size _ rfl) rfl ?_ (Nat.zero_le _) (by show (#[] ++ us.toArray).size ≤ sizeLine + 1; simp only [Array.size_append, List.size_toArray, List.length_nil]; omega))
  refine wpAny_pure ?_
  show wpAny (model prog w) A (do
      let x ← load s.heap.objs.size
      match x.data with
      | .seq ys _ => pure ys.toList
      | _ => unsupported "internal:collect") Q E { s with heap := (s.heap.push (seqObj "list" #[] 0)).update s.heap.objs.size (Obj.mapSeq (· ++ us.toArray)) }
  refine wpAny_bind (wpAny_load (get?_update_seq (Heap.get?_push_size _ rfl) _) ?_)
  show wpAny _ _ (pure ((#[] : Array Value) ++ us.toArray).toList) Q E _
  rw [show ((#[] : Array Value) ++ us.toArray).toList = us by simp]
  exact wpAny_pure fin
theorem sorted_tup_vals {κ : PyProof.Rows.KeyKind} {Q : Value → Shared → Prop} (src : IsTup s.heap tp us.toArray) (S : SortsAt prog w A.in1.in1 { s with heap := sortingHeap (copyHeap s.heap us) (s.heap.objs.size + 1) us } κ us) (few : us.length ≤ sizeLine)
    (fin : Q (.ref (s.heap.objs.size + 1)) { s with heap := sortedAll s.heap us (PySem.W.sortVals κ false us us).toArray }) : wpAny (model prog w) A (call (.builtin "sorted") [.ref tp]) Q E s := by
  refine call_function_entry_kw kind_sorted plain_sorted entry_sorted (args_sorted1 _) ?_
  unfold Builtin.«sorted»
  refine wpAny_bind (m := checkCount "sorted" 1 1 _) (wpAny_pure ?_)
  refine wpAny_bind (gather_tup src ?_ few)
  refine wpAny_bind (wpAny_newList ?_ few)
  have sz : ((s.heap.push (seqObj "list" #[] 0)).update s.heap.objs.size (Obj.mapSeq (· ++ us.toArray))).objs.size = s.heap.objs.size + 1 := by rw [Heap.size_update, size_push']
  show wpAny _ _ _ _ _ { s with heap := copyHeap s.heap us }
  rw [sz]
  refine wpAny_bind (wpAny_holding (wpAny_call_entry_kw slot_list_sort ⟨_, PySem.W.copyHeap_at s.heap us, rfl⟩ entry_list_sort ?go (args_list_sort _)))
  case go =>
    show wpAny (model prog w) A.in1.in1 (Builtin.«list.sort» ⟨[.ref (s.heap.objs.size + 1)], []⟩) _ _ _
    refine wpAny_mono (PySem.W.list_sort_vals (s := { s with heap := copyHeap s.heap us }) (P := fun f s' => f = .done (.ret .none) ∧ Q (.ref (s.heap.objs.size + 1)) s') (PySem.W.copyHeap_at s.heap us) S few ⟨rfl, fin⟩) (fun f s' both => ?_) fun _ _ e => e
    obtain ⟨rfl, q⟩ := both
    exact ⟨_, rfl, wpAny_pure ⟨_, rfl, q⟩⟩
theorem sorted_tup_data {β : Type} {bs : List β} {enc : β → PyData} {Rz : Value → β → Prop} {Q : Value → Shared → Prop} (src : IsTup s.heap tp us.toArray) (e : EachIs Rz us bs) (er : EachIs (fun v b => ∃ as, Reads s.heap v (enc b) as) us bs) (hal : AllAlike (bs.map enc)) (hk : Sortable (bs.map enc)) (few : bs.length ≤ sizeLine)
    (room : ∀ b, b ∈ bs → A.units + 2 + (enc b).depth < cLine) (fin : ∀ out, out.length = bs.length → EachIs Rz out (bs.mergeSort (dataLe false enc)) → Q (.ref (s.heap.objs.size + 1)) { s with heap := sortedAll s.heap us (List.toArray out) }) :
    wpAny (model prog w) A (call (.builtin "sorted") [.ref tp]) Q E s := by
  have er2 : EachIs (fun v b => ∃ as, Reads (sortingHeap (copyHeap s.heap us) (s.heap.objs.size + 1) us) v (enc b) as) us bs := er.mono fun _ _ ⟨as, r⟩ => ⟨as, PyProof.Rows.Reads.keeps (fun _ _ => PySem.W.sorting_copy_old) r⟩
  refine sorted_tup_vals src (SortsAt.data (s := { s with heap := sortingHeap (copyHeap s.heap us) (s.heap.objs.size + 1) us }) (PySem.W.each_map (R := fun v d => ∃ as, Reads (sortingHeap (copyHeap s.heap us) (s.heap.objs.size + 1) us) v d as) enc er2) hal hk fun d hd => ?_) (by rw [e.length]; exact few)
    (fin _ (by rw [PySem.W.sortVals_length false rfl]; exact e.length) (PySem.W.sortVals_data false e er2 hal))
  obtain ⟨b, hb, rfl⟩ := List.mem_map.mp hd
  have := room b hb
  show A.in1.in1.units + _ < _
  exact this
end
theorem call_sortedT2 {X : Cx} (hu : X.A.units + 64 < cLine) : CallR X (.builtin "sorted") (fun xs H Q => ∃ (a : Addr) (vs : List V) (ts : List T) (P : Al), xs = [.ref a] ∧ SqT X.K H a vs ∧ Reps X.K H P ts vs [] ∧ sortable ts = true ∧ ts.length ≤ sizeLine ∧
    ∀ ws p, Reps X.K H P (sortL ts) ws [] → H p = none → Q (.ref p) (upd H p (.lst ws))) := by
  intro pins s σ H xs us Q I r h
  obtain ⟨a, vs, ts, P, rfl, hs, hr, hk, hz, q⟩ := h
  simp only [sortable, Bool.and_eq_true] at hk
  obtain ⟨⟨⟨k1, k2⟩, k3⟩, k4⟩ := hk
  have k2' : ∀ t ∈ ts, t.toD.depth ≤ 40 ∧ t.toD.canLay0 = true := fun t m => by
    have := List.all_eq_true.mp k2 t m
    simpa using this
  obtain ⟨its, rv, pl, hl⟩ := I.tuple hs
  have := Vals.ref1 r
  subst this
  have e1 := each_vals k1 hr rv
  refine sorted_tup_data (enc := T.toD) (Rz := fun u t => ∃ v, RelV v u ∧ Rep X.K H P t v []) pl e1 (each_reads I (fun t m => (k2' t m).2) e1) (sortPair_ok k3) (sortKind_ok k4) hz (fun t m => by have := (k2' t m).1; omega) fun out ho he => ?_
  obtain ⟨ws, hv, hw⟩ := each_back he
  obtain ⟨ep, he'⟩ := PyProof.Rows.sortedAll_at s.heap its (List.toArray out)
  have lw : ws.length ≤ sizeLine := by
    have := hv.length
    omega
  refine ⟨.ref (s.heap.objs.size + 1), upd H (s.heap.objs.size + 1) (.lst ws), I.laid (t' := s.toks) (fun _ _ => PyProof.Rows.sortedAll_old) (Nat.le_succ _) ⟨lw, out, ep, hv, he'⟩, rfl, q ws _ hw (I.hok.fresh (Nat.le_succ _))⟩
end VS
namespace VS
open PySem PySem.Spec L2
open PyProof.Rows hiding St
def sortedXT : List T → Option T
  | [.lst _ ts] => if sortable ts = true ∧ ts.length ≤ sizeLine then some (.lst .own (sortL ts)) else none
  | [.tup ts] => if sortable ts = true ∧ ts.length ≤ sizeLine then some (.lst .own (sortL ts)) else none
  | [.tupN ts] => if sortable ts = true ∧ ts.length ≤ sizeLine then some (.lst .own (sortL ts)) else none
  | _ => none
theorem sortable_vals {ts : List T} (h : sortable ts = true) : T.vals ts = true := by
  simp only [sortable, Bool.and_eq_true] at h
  exact h.1.1.1
section
variable {X : Cx} {ec : Nat → Addr} {W : WX} {e a b : Expr} {es : List Expr} {fs : EnvT → R (List T)} {fe fa fb : FE} {p pos : Pos}
theorem DE.sortedX (hu : X.A.units + 64 < cLine) (hl : Gl X "sorted") (hm : X.mg "sorted" = none) (ha : DA X ec W (e :: es) fs) (he : starEach (e :: es) X.env = (false, eval e X.env) :: starEach es X.env := by rfl) (hpl : (backTo pos (starEach es X.env)).any (·.1) = false := by rfl) : DE X ec W (.Call (.Name "sorted" p) (e :: es) [] pos) (ap sortedXT fs) := by
  refine DE.callB (CallR.or (call_sortedL hu) (call_sortedT2 hu)) (fun H O C A vs ts F Q t cz r e h => ?_) hl hm (by decide +kernel) ha (by decide) (by decide) he hpl
  rcases ts with _ | ⟨t1, _ | ⟨t2, ts⟩⟩
  · simp [sortedXT] at e
  · obtain ⟨v, r', F1, F2, rfl, rfl, c, d⟩ := r
    obtain ⟨rfl, rfl⟩ := d
    cases t1 with
    | lst g xs =>
      obtain ⟨a, us, G, rfl, l, p, r⟩ := c
      simp only [sortedXT] at e
      split at e
      · rename_i q; simp only [Option.some.injEq] at e; subst e
        have := vals_foot (sortable_vals q.1) r
        subst this
        exact .inl ⟨a, us, xs, _, rfl, l.sq, r, q.1, q.2, fun ws p hw hp => h.lst cz hw (List.nil_sublist _) p hp⟩
      · cases e
    | tup xs =>
      obtain ⟨a, us, rfl, l, r⟩ := c
      simp only [sortedXT] at e
      split at e
      · rename_i q; simp only [Option.some.injEq] at e; subst e
        have := vals_foot (sortable_vals q.1) r
        subst this
        exact .inr ⟨a, us, xs, _, rfl, SqT.of l, r, q.1, q.2, fun ws p hw hp => h.lst cz hw (List.nil_sublist _) p hp⟩
      · cases e
    | tupN xs =>
      obtain ⟨a, us, rfl, l, r⟩ := c
      simp only [sortedXT] at e
      split at e
      · rename_i q; simp only [Option.some.injEq] at e; subst e
        have := vals_foot (sortable_vals q.1) r
        subst this
        exact .inr ⟨a, us, xs, _, rfl, l.sqt, r, q.1, q.2, fun ws p hw hp => h.lst cz hw (List.nil_sublist _) p hp⟩
      · cases e
    | _ => simp [sortedXT] at e
  · cases t1 <;> simp [sortedXT] at e
end
/-! x.extend(t) -/
theorem extend_tup (l : Addr) (xs : Array Value) (n : Nat) (b : Addr) (ys : Array Value) (m : Nat) (dd : Option Addr) (sl : Array (Option Value)) (far : ¬(!xs.isEmpty && Builtin.List.listTooLong (xs.size + ys.size)) = true) (few : xs.size ≤ sizeLine) (sum : xs.size + ys.size ≤ sizeLine + 1) :
    Meets (Builtin.«list.extend» ⟨[.ref l, .ref b], []⟩) (fun _ R s => s.heap.get? l = some { cls := .type "list", dict := none, data := .seq xs n, slots := #[] } ∧ s.heap.get? b = some ⟨.type "tuple", dd, .seq ys m, sl⟩ ∧ R (.ok (.ret Value.none)) { s with heap := s.heap.update l (Obj.mapSeq fun z => z ++ ys), toks := s.toks }) :=
  .of_wp fun prog w A R s all => by
    obtain ⟨hh, gg, dr, tk, os⟩ := s
    obtain ⟨at1, at2, fin⟩ := all
    have z1 := PySem.AutoSeq1.idx_int
    have z2 := PySem.AutoSeq1.sub_tuple_tuple
    have z3 := PySem.AutoSeq1.sub_list_list
    have z4 := PySem.AutoSeq1.sub_tuple_list
    have z5 := PySem.AutoSeq1.sub_list_tuple
    have fits : (xs ++ ys).size ≤ sizeLine + 1 := by rw [Array.size_append]; exact sum
    wp_walk using (wpAny_updateSeq at1 rfl (hz := few) (_hz' := fits)), PySem.AutoSeq1.wpAny_loadPart' at1, PySem.AutoSeq1.wpAny_loadPart' at2
    exact ⟨_, rfl, fin⟩
def rExtT (K : PySem.W.Frag) : V → List V → Hp → VK → Prop := fun x vs H Q => ∃ l b xs zs, x = V.ref l ∧ vs = [V.ref b] ∧ H l = some (.lst xs) ∧ SqT K H b zs ∧ xs.length + zs.length ≤ sizeLine ∧ Q .non (upd H l (.lst (xs ++ zs)))
theorem mt_extT {X : Cx} : MtR X "list.extend" (rExtT X.K) := by
  intro pins s σ H x vs v us Q I rx rv h
  obtain ⟨l, b, xs, zs, rfl, rfl, hH, hB, hz, q⟩ := h
  cases rx
  obtain ⟨u, rfl, ru⟩ := rv.one
  cases ru
  obtain ⟨z, its, n, r, hl, e⟩ := I.lstM hH
  obtain ⟨its2, r2, ⟨⟨cl, dd, da, sl⟩, e2, c2, m, d2⟩, hz2⟩ := I.tuple hB
  simp only at c2 d2
  subst c2 d2
  have l2 := r2.length
  have sz : its.toArray.size + its2.toArray.size ≤ sizeLine := by rw [List.size_toArray, List.size_toArray]; omega
  have far : ¬ (!its.toArray.isEmpty && Builtin.List.listTooLong (its.toArray.size + its2.toArray.size)) = true := by
    rw [notLongL sz, Bool.and_false]
    exact Bool.false_ne_true
  refine call_meets F.slot_list_extend ⟨_, e, rfl⟩ F.entry_list_extend (F.args_list_extend_2 _ _)
    (extend_tup l its.toArray n b its2.toArray m dd sl far (by rw [List.size_toArray]; omega) (by omega)) ⟨e, e2, ?_⟩
  refine ⟨.non, _, I.lset (its' := its ++ its2) hH e (by simp) (r.append r2) ?_, rfl, q⟩
  rw [List.length_append]
  omega
def mExtX (ts : List T) : List T → Option (List T × T)
  | [.lst g us] => if g ≠ .fzn ∧ ts.length + us.length ≤ sizeLine then some (ts ++ us, .non) else none
  | [.tup us] => if ts.length + us.length ≤ sizeLine then some (ts ++ us, .non) else none
  | _ => none
theorem own_extX {K : PySem.W.Frag} : OwnL K (fun x xs H Q => rExtend x xs H Q ∨ rExtT K x xs H Q) mExtX := by
  intro H P p vs ts G as us F Q ts' res hp rt ra e h
  rcases as with _ | ⟨t, _ | ⟨t2, as⟩⟩
  · simp [mExtX] at e
  · cases t with
    | lst g xs => exact .inl (own_extend (K := K) H P p vs ts G _ us F Q ts' res hp rt ra (by simpa [mExtX, mExtend] using e) h)
    | tup xs =>
      simp only [mExtX] at e
      split at e
      · rename_i c
        simp only [Option.some.injEq, Prod.mk.injEq] at e
        obtain ⟨rfl, rfl⟩ := e
        obtain ⟨v, rfl, b, ws, rfl, l, r⟩ := reps_one ra
        exact .inr ⟨p, b, vs, ws, rfl, rfl, hp, SqT.of l, by rw [← rt.length, ← r.length]; exact c, h (vs ++ ws) (G ++ F) .non [] (rt.append r) ⟨rfl, rfl⟩ (by rw [List.append_nil]; exact Le.refl _)⟩
      · cases e
    | _ => simp [mExtX] at e
  · cases t <;> simp [mExtX] at e
end VS

namespace VS
open PySem PySem.Spec L2
open PyProof.Rows hiding St
open PySem.W (alike dataLe)

/-! ### plain tools: equality of good trees, sorted numbers, first finds -/
theorem toDs_map : ∀ ts : List T, T.toDs ts = ts.map T.toD
  | [] => rfl
  | t :: ts => by simp [T.toDs, toDs_map ts]
theorem nbDs_all : ∀ {ds : List PyData}, (∀ d ∈ ds, nbD d = true) → nbDs ds = true
  | [], _ => rfl
  | d :: ds, h => by simp [nbDs, h d (by simp), nbDs_all (ds := ds) fun e m => h e (by simp [m])]
theorem depthAll_le {n : Nat} : ∀ {ds : List PyData}, (∀ d ∈ ds, d.depth ≤ n) → PyData.depthAll ds ≤ n
  | [], _ => by simp [PyData.depthAll]
  | d :: ds, h => by
    have h1 := h d (by simp)
    have h2 := depthAll_le (n := n) (ds := ds) fun e m => h e (by simp [m])
    simp only [PyData.depthAll]; omega
/-- a tree without truths and dicts, not deep -/
structure Gd (n : Nat) (t : T) : Prop where
  nb : nbD t.toD = true
  dp : t.toD.depth ≤ n
theorem Gd.le {n m : Nat} {t : T} (h : Gd n t) (hm : n ≤ m) : Gd m t := ⟨h.nb, by have := h.dp; omega⟩
theorem Gd.data {n : Nat} {t : T} (h : Gd n t) (hn : n ≤ 60) : dataOk t = true := by
  have := h.dp
  simp only [dataOk, SeqAt.shaped, nb_lay h.nb, Bool.true_and, decide_eq_true_eq]; omega
theorem Gd.int {n : Nat} (i : Int) : Gd n (.int i) := ⟨rfl, by simp [T.toD, PyData.depth]⟩
theorem Gd.non {n : Nat} : Gd n .non := ⟨rfl, by simp [T.toD, PyData.depth]⟩
theorem Gd.str {n : Nat} {x : Str} (h : strOkB x = true) : Gd n (.str x) := ⟨h, by simp [T.toD, PyData.depth]⟩
theorem Gd.key {n : Nat} {k : Key} (h : okK k) : Gd n (kT k) := by
  cases k with
  | inl i => exact .int i
  | inr x => exact .str h
theorem Gd.tup {n : Nat} {ts : List T} (h : ∀ t ∈ ts, Gd n t) : Gd (n + 1) (.tup ts) := by
  refine ⟨?_, ?_⟩
  · show nbDs (T.toDs ts) = true
    rw [toDs_map]
    exact nbDs_all fun d m => by obtain ⟨t, ht, rfl⟩ := List.mem_map.mp m; exact (h t ht).nb
  · have := depthAll_le (n := n) (ds := T.toDs ts) fun d m => by rw [toDs_map] at m; obtain ⟨t, ht, rfl⟩ := List.mem_map.mp m; exact (h t ht).dp
    simp only [T.toD, PyData.depth]; omega
theorem Gd.lst {n : Nat} {g : Tg} {ts : List T} (h : ∀ t ∈ ts, Gd n t) : Gd (n + 1) (.lst g ts) := by
  refine ⟨?_, ?_⟩
  · show nbDs (T.toDs ts) = true
    rw [toDs_map]
    exact nbDs_all fun d m => by obtain ⟨t, ht, rfl⟩ := List.mem_map.mp m; exact (h t ht).nb
  · have := depthAll_le (n := n) (ds := T.toDs ts) fun d m => by rw [toDs_map] at m; obtain ⟨t, ht, rfl⟩ := List.mem_map.mp m; exact (h t ht).dp
    simp only [T.toD, PyData.depth]; omega
theorem Gd.mapTup {α : Type} {n : Nat} {f : α → T} {xs : List α} (h : ∀ x ∈ xs, Gd n (f x)) : Gd (n + 1) (.tup (xs.map f)) := .tup fun t m => by obtain ⟨x, hx, rfl⟩ := List.mem_map.mp m; exact h x hx
theorem Gd.mapLst {α : Type} {n : Nat} {g : Tg} {f : α → T} {xs : List α} (h : ∀ x ∈ xs, Gd n (f x)) : Gd (n + 1) (.lst g (xs.map f)) := .lst fun t m => by obtain ⟨x, hx, rfl⟩ := List.mem_map.mp m; exact h x hx
def isSeq : T → Bool
  | .lst _ _ => true
  | .tup _ => true
  | _ => false
theorem eqT_g {n m : Nat} {x y : T} (hx : Gd n x) (hy : Gd m y) (hn : n ≤ 60) (hm : m ≤ 60) : eqT x y = some (PyData.eqv x.toD y.toD) := by
  have dx := hx.data hn
  have dy := hy.data hm
  have e : (if dataOk x = true ∧ dataOk y = true then some (PyData.eqv x.toD y.toD) else none) = some (PyData.eqv x.toD y.toD) := if_pos ⟨dx, dy⟩
  cases x <;> cases y <;> first | exact e | skip
  · rename_i a b
    show some (decide (a = b)) = some (a == b)
    rw [Option.some.injEq, Bool.eq_iff_iff]
    simp
theorem eqXO_g {n m : Nat} {x y : T} (hx : Gd n x) (hy : Gd m y) (hn : n ≤ 60) (hm : m ≤ 60) : eqXO x y = some (.bl (PyData.eqv x.toD y.toD)) := by
  have e := eqT_g hx hy hn hm
  have e2 : eqO x y = some (.bl (PyData.eqv x.toD y.toD)) := by unfold eqO; rw [e]; rfl
  cases x with
  | dct => have := hx.nb; cases this
  | _ => cases y <;> first | exact e2 | skip
theorem neXO_g {n m : Nat} {x y : T} (hx : Gd n x) (hy : Gd m y) (hn : n ≤ 60) (hm : m ≤ 60) : neXO x y = some (.bl (!PyData.eqv x.toD y.toD)) := by
  have e := eqT_g hx hy hn hm
  have e2 : neO x y = some (.bl (!PyData.eqv x.toD y.toD)) := by unfold neO; rw [e]; rfl
  cases x with
  | dct => have := hx.nb; cases this
  | _ => cases y <;> first | exact e2 | skip
theorem eqv_dec {d e : PyData} {p : Prop} [Decidable p] (hd : nbD d = true) (he : nbD e = true) (h : d = e ↔ p) : PyData.eqv d e = decide p := by
  rw [Bool.eq_iff_iff, eqv_iff hd he, decide_eq_true_eq]; exact h
/-- == and != where the trees are known to be alike or not -/
theorem eqXO_d {n m : Nat} {x y : T} {p : Prop} [Decidable p] (hx : Gd n x) (hy : Gd m y) (h : x.toD = y.toD ↔ p) (hn : n ≤ 60 := by omega) (hm : m ≤ 60 := by omega) : eqXO x y = some (.bl (decide p)) := by
  rw [eqXO_g hx hy hn hm, eqv_dec hx.nb hy.nb h]
theorem neXO_d {n m : Nat} {x y : T} {p : Prop} [Decidable p] (hx : Gd n x) (hy : Gd m y) (h : x.toD = y.toD ↔ p) (hn : n ≤ 60 := by omega) (hm : m ≤ 60 := by omega) : neXO x y = some (.bl (!decide p)) := by
  rw [neXO_g hx hy hn hm, eqv_dec hx.nb hy.nb h]
theorem eqXO_same {n : Nat} {x y : T} (hx : Gd n x) (h : x.toD = y.toD) (hn : n ≤ 60 := by omega) : eqXO x y = some (.bl true) := by
  have hy : Gd n y := ⟨h ▸ hx.nb, h ▸ hx.dp⟩
  rw [eqXO_g hx hy hn hn, (eqv_iff hx.nb hy.nb).mpr h]
theorem neXO_same {n : Nat} {x y : T} (hx : Gd n x) (h : x.toD = y.toD) (hn : n ≤ 60 := by omega) : neXO x y = some (.bl false) := by
  have hy : Gd n y := ⟨h ▸ hx.nb, h ▸ hx.dp⟩
  rw [neXO_g hx hy hn hn, (eqv_iff hx.nb hy.nb).mpr h]; rfl
theorem toD_kT (k : Key) : (kT k).toD = kD k := by cases k <;> rfl
theorem eq_kT {a b : Key} (ha : okK a) (hb : okK b) : eqXO (kT a) (kT b) = some (.bl (decide (a = b))) :=
  eqXO_d (Gd.key (n := 0) ha) (Gd.key (n := 0) hb) (by rw [toD_kT, toD_kT]; exact ⟨kD_inj, fun e => by rw [e]⟩)
theorem ne_kT {a b : Key} (ha : okK a) (hb : okK b) : neXO (kT a) (kT b) = some (.bl (!decide (a = b))) :=
  neXO_d (Gd.key (n := 0) ha) (Gd.key (n := 0) hb) (by rw [toD_kT, toD_kT]; exact ⟨kD_inj, fun e => by rw [e]⟩)
theorem map_inj_iff {α β : Type} {f : α → β} (hf : ∀ a b, f a = f b → a = b) : ∀ {xs ys : List α}, xs.map f = ys.map f ↔ xs = ys
  | [], [] => by simp
  | [], y :: ys => by simp
  | x :: xs, [] => by simp
  | x :: xs, y :: ys => by
    simp only [List.map_cons, List.cons.injEq, map_inj_iff hf (xs := xs) (ys := ys)]
    exact ⟨fun h => ⟨hf _ _ h.1, h.2⟩, fun h => ⟨by rw [h.1], h.2⟩⟩
theorem toDs_keys (ks : List Key) : T.toDs (ks.map kT) = ks.map kD := toDs_kT ks
theorem eq_keysL {g h : Tg} {xs ys : List Key} (hx : ∀ k ∈ xs, okK k) (hy : ∀ k ∈ ys, okK k) : eqXO (.lst g (xs.map kT)) (.lst h (ys.map kT)) = some (.bl (decide (xs = ys))) :=
  eqXO_d (Gd.mapLst (n := 0) fun k m => .key (hx k m)) (Gd.mapLst (n := 0) fun k m => .key (hy k m)) (by simp only [T.toD, toDs_keys, PyData.list.injEq]; exact map_inj_iff fun a b => kD_inj)
theorem ne_keysL {g h : Tg} {xs ys : List Key} (hx : ∀ k ∈ xs, okK k) (hy : ∀ k ∈ ys, okK k) : neXO (.lst g (xs.map kT)) (.lst h (ys.map kT)) = some (.bl (!decide (xs = ys))) :=
  neXO_d (Gd.mapLst (n := 0) fun k m => .key (hx k m)) (Gd.mapLst (n := 0) fun k m => .key (hy k m)) (by simp only [T.toD, toDs_keys, PyData.list.injEq]; exact map_inj_iff fun a b => kD_inj)
/-- x in a list of good trees -/
theorem inT_g {n m : Nat} {x : T} {g : Tg} {ts : List T} (hx : Gd n x) (ht : ∀ t ∈ ts, Gd m t) (hs : flatT x = false) (hn : n ≤ 60) (hm : m ≤ 59) : inT x (.lst g ts) = some (ts.any fun z => PyData.eqv z.toD x.toD) := by
  have h2 : dataOk (.lst g ts) = true := (Gd.lst ht).data (by omega)
  have : inT x (.lst g ts) = some ((T.toDs ts).any fun z => PyData.eqv z x.toD) := by
    simp [inT, hs, hx.data hn, h2]
  rw [this, toDs_map, List.any_map]; rfl
theorem any_map {α β : Type} (f : α → β) (p : β → Bool) (xs : List α) : (xs.map f).any p = xs.any fun x => p (f x) := by rw [List.any_map]; rfl
/-! sorted numbers -/
def intB : T → Int
  | .int i => i
  | _ => 0
theorem sortable_ints {cs : List Int} : sortable (cs.map T.int) = true := by
  have e : (cs.map T.int).map T.toD = cs.map PyData.int := by rw [List.map_map]; rfl
  simp only [sortable, Bool.and_eq_true]
  refine ⟨⟨⟨by simp, List.all_eq_true.mpr fun t m => ?_⟩, ?_⟩, ?_⟩
  · obtain ⟨c, _, rfl⟩ := List.mem_map.mp m
    simp [T.toD, PyData.depth, PyData.canLay0]
  · rw [e]
    refine List.all_eq_true.mpr fun t m => List.all_eq_true.mpr fun u m2 => ?_
    obtain ⟨c, _, rfl⟩ := List.mem_map.mp m
    obtain ⟨d, _, rfl⟩ := List.mem_map.mp m2
    rfl
  · rw [e, sortKind, Bool.or_eq_true]
    refine .inr (List.all_eq_true.mpr fun t m => ?_)
    obtain ⟨c, _, rfl⟩ := List.mem_map.mp m
    rfl
theorem sortL_perm (ts : List T) : (sortL ts).Perm ts := List.mergeSort_perm ts _
theorem sortL_ints (cs : List Int) : ∃ ds : List Int, sortL (cs.map T.int) = ds.map T.int ∧ ds.Perm cs := by
  have p := sortL_perm (cs.map T.int)
  have back : ∀ t ∈ sortL (cs.map T.int), T.int (intB t) = t := fun t m => by
    obtain ⟨c, _, rfl⟩ := List.mem_map.mp (p.mem_iff.mp m); rfl
  refine ⟨(sortL (cs.map T.int)).map intB, ?_, ?_⟩
  · rw [List.map_map]
    conv => lhs; rw [← List.map_id (sortL (cs.map T.int))]
    exact List.map_congr_left fun t m => (back t m).symm
  · have := p.map intB
    rw [List.map_map] at this
    have e : (intB ∘ T.int) = id := rfl
    rw [e, List.map_id] at this
    exact this
/-! first finds -/
theorem findSome_none {α β : Type} {f : α → Option β} {xs : List α} : xs.findSome? f = none ↔ ∀ x ∈ xs, f x = none := List.findSome?_eq_none_iff
theorem findSome_snoc {α β : Type} (f : α → Option β) (xs : List α) (x : α) : (xs ++ [x]).findSome? f = (xs.findSome? f).or (f x) := by
  rw [List.findSome?_append]
  cases xs.findSome? f <;> simp
theorem findSome_mid {α β : Type} {f : α → Option β} {L p q : List α} {x : α} {b : β} (e : L = p ++ x :: q) (hp : p.findSome? f = none) (hx : f x = some b) : L.findSome? f = some b := by
  rw [e, List.findSome?_append, hp, List.findSome?_cons, hx]; rfl
theorem findSome_filter {α β : Type} (p : α → Bool) (f : α → Option β) : ∀ xs : List α, (xs.filter p).findSome? f = xs.findSome? fun x => if p x = true then f x else none
  | [] => rfl
  | x :: xs => by
    rw [List.findSome?_cons]
    by_cases h : p x = true
    · rw [List.filter_cons_of_pos h, List.findSome?_cons, if_pos h, findSome_filter p f xs]
    · rw [List.filter_cons_of_neg h, if_neg h, findSome_filter p f xs]
theorem findSome_congr {α β : Type} {f g : α → Option β} : ∀ {xs : List α}, (∀ x ∈ xs, f x = g x) → xs.findSome? f = xs.findSome? g
  | [], _ => rfl
  | x :: xs, h => by
    rw [List.findSome?_cons, List.findSome?_cons, h x (by simp), findSome_congr (xs := xs) fun y m => h y (by simp [m])]
theorem findSome_above {β : Type} (g : Nat → Option β) {i n : Nat} (h : i < n) : (List.range n).findSome? (fun j => if i < j then g j else none) = ((List.range (n - (i + 1))).map fun k => i + 1 + k).findSome? g := by
  have e : List.range n = List.range (i + 1) ++ (List.range (n - (i + 1))).map fun k => i + 1 + k := by
    rw [← List.range_add]; congr 1; omega
  rw [e, List.findSome?_append]
  have h1 : (List.range (i + 1)).findSome? (fun j => if i < j then g j else none) = none := findSome_none.mpr fun j m => by
    have := List.mem_range.mp m
    rw [if_neg (by omega)]
  rw [h1]
  show List.findSome? _ _ = _
  exact findSome_congr fun j m => by
    obtain ⟨k, _, rfl⟩ := List.mem_map.mp m
    rw [if_pos (by omega)]
/-! the end of a law, the script's bits told -/
structure Bits (ns : List Int) : Prop where
  le : ∀ n ∈ ns, n.natAbs.log2 ≤ 1048576
theorem law_walkB {l : PySem.W.OpenLaw} {k : Nat} {q : Program} {loose : List Str} {XP : (Str → Option Value) → Heap → Prop} {YP : World → Heap → Prop} {d : DefRec} {K : Params → PySem.W.Frag} {x : Str} {r : List T → R T}
    (hn : l.most = some 63) (hdf : d.params.defaults = []) (hr : Room k callerA) (h : ∀ ns : List Int, ns.length ≤ 63 → Bits ns → r [.lst .fzn (ns.map T.int)] = .ok (.bl true))
    (hY : ∀ (w : World) (h : Heap), YP w h → (K w.params).In h)
    (F : ∀ (w : World) (mg : Str → Option Value) (fa : Addr) (h : Heap), (K w.params).In h → h.Ns mainGlobals mg → mg d.name = some (.ref fa) →
      ∃ fd : FuncData, (∀ (s : Shared) (u : Value), BindsTo s fd ⟨[u], []⟩ [(x, u)]) ∧ ∃ ec : Nat → Addr, ∀ base : Heap, (K w.params).In base → base.Ns mainGlobals mg → FnOk l.prog w (K w.params) mg base (L2.CX l.prog w) k fa fd [x] (SPc (K w.params) ec 1 r)) :
    PySem.W.WalkO q loose XP YP l.row.toRowW d [] (fun f vs => PySem.call f vs) := by
  refine L2.walk_ofB (n := 63) (k := k) (x := x) (CX := fun w => L2.CX l.prog w) (sp := fun w => fun vs H Q E => ∀ ec, SPc (K w.params) ec 1 r vs H Q E) hn (by rw [sizeLine_eq]; omega) hdf hr hY (fun w mg fa h KX G hmg => ?_) (fun w H a ns hl hb hO hS ec => ?_) fun w H s e s' ⟨_, _, _, _, _, _, _, _, _, _, _, _, z⟩ => z
  · obtain ⟨fd, hb, ec, hF⟩ := F w mg fa h KX G hmg
    exact ⟨fd, hb, fun base h1 h2 => (hF base h1 h2).imp fun vs H Q E h => h ec⟩
  · refine ⟨[.lst .fzn (ns.map T.int)], [], fun _ => False, fun _ => False, rfl, List.nodup_nil, script_rep hO hS, fun a z => z.elim id id |>.elim, by simp, ?_⟩
    rw [h ns hl ⟨fun n m => by
      have := hb n m
      unfold Builtin.Int.intBits at this
      split at this
      · rename_i z
        have : n.natAbs = 0 := by simpa using z
        rw [this]; decide
      · omega⟩]
    intro v H' G ro
    exact ro.rep.1
theorem log2_lt {n k : Nat} (h : n < 2 ^ k) (hk : 0 < k) : n.log2 < k := by
  rcases Nat.eq_zero_or_pos n with e | e
  · rw [e]; simpa using hk
  · exact (Nat.log2_lt (by omega)).mpr h
theorem lt_of_log2 {n k : Nat} (h : n.log2 < k) : n < 2 ^ k := by
  by_cases e : n = 0
  · rw [e]; exact Nat.two_pow_pos k
  · exact (Nat.log2_lt e).mp h
/-- a product whose factors have few enough bits -/
theorem mulT_b {i j : Int} {a b : Nat} (hi : i.natAbs < 2 ^ a) (hj : j.natAbs < 2 ^ b) (ha : 0 < a) (hb : 0 < b) (h : a + b ≤ 100000000) : mulT (.int i) (.int j) = some (.int (i * j)) := by
  have x := log2_lt hi ha
  have y := log2_lt hj hb
  have : mulOk i j = true := by
    simp only [mulOk, Bool.or_eq_true, decide_eq_true_eq]
    exact .inr (by omega)
  simp [mulT, this]
theorem Bits.lt {ns : List Int} (h : Bits ns) {i : Nat} : (ns.getD i 0).natAbs < 2 ^ 1048577 := by
  rw [List.getD_eq_getElem?_getD]
  cases e : ns[i]? with
  | none => exact Nat.two_pow_pos _
  | some n => exact lt_of_log2 (Nat.lt_succ_of_le (h.le n (List.mem_of_getElem? e)))
@[simp] theorem gTupT_2 (i j : Nat) (a b : T) (env : EnvT) : gTupT [i, j] (.tup [a, b]) env = (gSet i a env).bind fun e => gSet j b e := by
  simp only [gTupT, gSets, List.length_cons, List.length_nil, if_true]
  cases gSet i a env with
  | none => rfl
  | some e => simp only [Option.bind_some]; cases gSet j b e <;> rfl
@[simp] theorem gTupT_3 (i j k : Nat) (a b c : T) (env : EnvT) : gTupT [i, j, k] (.tup [a, b, c]) env = (gSet i a env).bind fun e => (gSet j b e).bind fun e => gSet k c e := by
  simp only [gTupT, gSets, List.length_cons, List.length_nil, if_true]
  cases gSet i a env with
  | none => rfl
  | some e =>
    simp only [Option.bind_some]
    cases gSet j b e with
    | none => rfl
    | some e => simp only [Option.bind_some]; cases gSet k c e <;> rfl
theorem mExtX_tup {ts us : List T} (h : ts.length + us.length ≤ 16777216) : mExtX ts [.tup us] = some (ts ++ us, .non) := by simp [mExtX, sizeLine_eq, h]
theorem mExtX_lst {g : Tg} {ts us : List T} (hg : g ≠ .fzn) (h : ts.length + us.length ≤ 16777216) : mExtX ts [.lst g us] = some (ts ++ us, .non) := by simp [mExtX, sizeLine_eq, h, hg]
@[simp] theorem itI_def (z : List T → Option (List T)) (fs : EnvT → R (List T)) (env : EnvT) : itI z fs env = (fs env >>= fun ts => R.ofO (z ts)) := id rfl
theorem enumIt_vals {lp : Bool} {g : Tg} {ts : List T} (h : T.vals ts = true) (hg : g = .brw → lp = false) : enumIt lp [.lst g ts] = some (enumL ts) := by
  have : ¬ badIt lp g ts := by
    unfold badIt
    rw [vals_has _ h]
    rintro (⟨z, w⟩ | z)
    · rw [hg z] at w; cases w
    · cases z
  simp [enumIt, this, vals_tags _ h]
theorem enumL_map {α : Type} (f : α → T) (xs : List α) : enumL (xs.map f) = xs.zipIdx.map fun p => .tup [.int (p.2 : Nat), f p.1] := by
  unfold enumL
  rw [List.zipIdx_map, List.map_map]; rfl
@[simp] theorem notN_int (i : Int) : notN (.int i) .non = some (.bl true) := id rfl
@[simp] theorem isN_int (i : Int) : isN (.int i) .non = some (.bl false) := id rfl
@[simp] theorem notN_str (i : Str) : notN (.str i) .non = some (.bl true) := id rfl
@[simp] theorem isN_str (i : Str) : isN (.str i) .non = some (.bl false) := id rfl
@[simp] theorem notN_bl (i : Bool) : notN (.bl i) .non = some (.bl true) := id rfl
@[simp] theorem isN_bl (i : Bool) : isN (.bl i) .non = some (.bl false) := id rfl
@[simp] theorem notN_tup (i : List T) : notN (.tup i) .non = some (.bl true) := id rfl
@[simp] theorem isN_tup (i : List T) : isN (.tup i) .non = some (.bl false) := id rfl
@[simp] theorem notN_lst (g : Tg) (i : List T) : notN (.lst g i) .non = some (.bl true) := id rfl
@[simp] theorem isN_lst (g : Tg) (i : List T) : isN (.lst g i) .non = some (.bl false) := id rfl
@[simp] theorem notN_dct (g : Tg) (i : List (T × T)) : notN (.dct g i) .non = some (.bl true) := id rfl
@[simp] theorem isN_dct (g : Tg) (i : List (T × T)) : isN (.dct g i) .non = some (.bl false) := id rfl
@[simp] theorem notN_non : notN .non .non = some (.bl false) := id rfl
@[simp] theorem isN_non : isN .non .non = some (.bl true) := id rfl
end VS

namespace VS
open PySem PySem.Spec L2
open PyProof.Rows hiding St

/-! ### is True, is False; while -/
def isBl : T → T → Option T
  | .bl a, .bl b => some (.bl (decide (a = b)))
  | _, _ => none
def notBl : T → T → Option T
  | .bl a, .bl b => some (.bl (!decide (a = b)))
  | _, _ => none
theorem isBl_ok {K : PySem.W.Frag} : Op2 K (fun x y H Q => ∃ a b, x = .bl a ∧ y = .bl b ∧ Q (.bl (decide (a = b))) H) isBl := by
  intro H O C A x y tx ty Fx Fy Q t cz rx ry e h
  cases tx <;> cases ty <;> simp only [isBl] at e <;> try cases e
  obtain ⟨rfl, _⟩ := rx
  obtain ⟨rfl, _⟩ := ry
  exact ⟨_, _, rfl, rfl, h.bl⟩
theorem notBl_ok {K : PySem.W.Frag} : Op2 K (fun x y H Q => ∃ a b, x = .bl a ∧ y = .bl b ∧ Q (.bl (!decide (a = b))) H) notBl := by
  intro H O C A x y tx ty Fx Fy Q t cz rx ry e h
  cases tx <;> cases ty <;> simp only [notBl] at e <;> try cases e
  obtain ⟨rfl, _⟩ := rx
  obtain ⟨rfl, _⟩ := ry
  exact ⟨_, _, rfl, rfl, h.bl⟩
section
variable {X : Cx} {ec : Nat → Addr} {W : WX} {a b : Expr} {fa fb : FE} {pos : Pos}
theorem DE.isBl (ha : DE X ec W a fa) (hb : DE X ec W b fb) : DE X ec W (.Compare a [.Is] [b] pos) (bin2 VS.isBl fa fb) := DE.cmp op_is_bl isBl_ok ha hb (nomark _)
theorem DE.notBl (ha : DE X ec W a fa) (hb : DE X ec W b fb) : DE X ec W (.Compare a [.IsNot] [b] pos) (bin2 VS.notBl fa fb) := DE.cmp op_isnot_bl notBl_ok ha hb (nomark _)
theorem DT.isBl (ha : DE X ec W a fa) (hb : DE X ec W b fb) : DT X ec W (.Compare a [.Is] [b] pos) (asB (bin2 VS.isBl fa fb)) := DT.cmp op_is_bl isBl_ok ha hb (nomark _)
theorem DT.notBl (ha : DE X ec W a fa) (hb : DE X ec W b fb) : DT X ec W (.Compare a [.IsNot] [b] pos) (asB (bin2 VS.notBl fa fb)) := DT.cmp op_isnot_bl notBl_ok ha hb (nomark _)
end
@[simp] theorem isBl_bl (a b : Bool) : isBl (.bl a) (.bl b) = some (.bl (decide (a = b))) := id rfl
@[simp] theorem notBl_bl (a b : Bool) : notBl (.bl a) (.bl b) = some (.bl (!decide (a = b))) := id rfl
/-- a while loop, by what holds at its head and a number that falls -/
theorem whileL {P : Out → Prop} {rest : FS} {fc : EnvT → R Bool} {fb : FS} (I : Nat → EnvT → Prop)
    (hs : ∀ m env, I m env → ∃ b, fc env = .ok b ∧ (b = true → nxO (fb env) fun e => ∃ k, k < m ∧ I k e) ∧ (b = false → P (rest env))) :
    ∀ (n m : Nat) (env : EnvT), I m env → m < n → P (contO (whileS fc fb n env) rest) := by
  intro n
  induction n with
  | zero => intro m env _ h; omega
  | succ n ih =>
    intro m env i h
    obtain ⟨b, e1, e2, e3⟩ := hs m env i
    unfold whileS
    rw [e1]
    cases b with
    | false => exact e3 rfl
    | true =>
      obtain ⟨e, e4, k, k1, k2⟩ := e2 rfl
      have := ih k e k2 (by omega)
      simp only [bS, if_true, e4]
      exact this
end VS

namespace VS
open PySem PySem.Spec L2
open PyProof.Rows hiding St

/-! ### len(set(t)), t a tuple of ints -/
def ddI : List Int → List Int
  | [] => []
  | n :: ns => if n ∈ ns then ddI ns else n :: ddI ns
theorem mem_ddI {k : Int} : ∀ {ns : List Int}, k ∈ ddI ns ↔ k ∈ ns
  | [] => Iff.rfl
  | n :: ns => by
    unfold ddI
    split
    · rename_i h
      rw [mem_ddI (ns := ns), List.mem_cons]
      exact ⟨.inr, fun z => z.elim (fun e => by rw [e]; exact h) id⟩
    · rw [List.mem_cons, List.mem_cons, mem_ddI (ns := ns)]
theorem nd_ddI : ∀ ns : List Int, (ddI ns).Nodup
  | [] => by simp [ddI]
  | n :: ns => by
    unfold ddI
    split
    · exact nd_ddI ns
    · rename_i h
      exact List.nodup_cons.mpr ⟨fun m => h (mem_ddI.mp m), nd_ddI ns⟩
theorem nd_ddI_len {ns ms : List Int} (h : ms.Nodup) (e : ∀ k, k ∈ ms ↔ k ∈ ns) : ms.length = (ddI ns).length := by
  have a := h.length_le_of_subset (l₂ := ddI ns) fun k m => mem_ddI.mpr ((e k).mp m)
  have b := (nd_ddI ns).length_le_of_subset (l₂ := ms) fun k m => (e k).mpr (mem_ddI.mp m)
  omega
def tLenSetT (K : PySem.W.Frag) (ta : TE) : TE := fun σ H Q => ta σ H fun x H1 => ∃ (l : Addr) (ns : List Int), x = V.ref l ∧ SqT K H1 l (ns.map V.int) ∧ ns.length ≤ 1000 ∧ Q (.int (ddI ns).length) H1
theorem pe_lenSetT {X : Cx} {a : Expr} {ta : TE} {p p2 q pos : Pos} (hc : X.calm = true) (hg : Gl X "len") (hm : X.mg "len" = none) (hg2 : Gl X "set") (hm2 : X.mg "set" = none) (ha : PE X a ta)
    (na : starEach [a] X.env = (false, eval a X.env) :: starEach [] X.env := by rfl) : PE X (.Call (.Name "len" p) [.Call (.Name "set" p2) [a] [] q] [] pos) (tLenSetT X.K ta) := by
  refine ⟨fun pins s σ H Q I h => ?_⟩
  refine Call_ (ld_blt I hg hm PySem.boot_len ?_)
  refine PyProof.Rows.callWith_builtin1 (PyProof.Rows.args_cons ?_ rfl) rfl rfl
  refine Call_ (ld_blt I hg2 hm2 PyProof.Rows.boot_set ?_)
  refine PyProof.Rows.callWith_type1 (PyProof.Rows.args_cons (thn (ha.run pins s σ H _ I h) fun v s1 ⟨x, H1, I1, r1, q1⟩ => PyProof.Rows.args_nil ?_) na) na rfl
  obtain ⟨l, ns, rfl, hq, hl, q1⟩ := q1
  cases r1
  obtain ⟨its, r, pl, hz⟩ := I1.tuple hq
  have hi : IntsAre its.toArray.toList ns := ints_of_vals r
  refine call_set_tupI ns (I1.ok.hd hc) pl hi (by unfold scanBound; omega) fun h' tk c R1 hcn k => ?_
  refine PyProof.Rows.args_nil ?_
  obtain ⟨o, es, ep, t, ho, hex, hdt, g, nd, hm2, hb, hf, hn, hr, hl2⟩ := R1
  have I2 : Inv X _ σ H1 { s1 with heap := h', toks := tk } := I1.kept fun b o e => k b o e
  have len : es.size = (ddI ns).length := by
    have := nd_ddI_len (ns := ns) nd fun k => by
      rw [← hm2 k, decide_eq_true_eq]
    rw [List.length_map, Array.length_toList] at this
    exact this
  have cl : c ≤ 1000 := by omega
  exact call_len_set ho hex hdt hf (by rw [hn] <;> omega) ⟨.int (ddI ns).length, H1, I2.tok _, ⟨_, by rw [len]⟩, q1⟩
def lenSetT : T → Option T
  | .tup ts => (intsOf ts).bind fun ns => if ns.length ≤ 1000 then some (.int (ddI ns).length) else none
  | _ => none
section
variable {X : Cx} {ec : Nat → Addr} {W : WX} {a : Expr} {fa : FE} {pos p q : Pos}
theorem DE.lenSet {p2 : Pos} (hc : X.calm = true) (hg : Gl X "len") (hm : X.mg "len" = none) (hg2 : Gl X "set") (hm2 : X.mg "set" = none) (ha : DE X ec W a fa) (na : starEach [a] X.env = (false, eval a X.env) :: starEach [] X.env := by rfl) :
    DE X ec W (.Call (.Name "len" p) [.Call (.Name "set" p2) [a] [] q] [] pos) (un1 lenSetT fa) := by
  refine ⟨pe_mono (pe_lenSetT hc hg hm hg2 hm2 ha.run na) fun σ H Q h => ?_⟩
  refine one_op (r := fun x H1 Q => ∃ (l : Addr) (ns : List Int), x = V.ref l ∧ SqT X.K H1 l (ns.map V.int) ∧ ns.length ≤ 1000 ∧ Q (.int (ddI ns).length) H1) (fun H O C A x tx F Q t cz r e h => ?_) h
  cases tx with
  | tup ts =>
    obtain ⟨b, vs, rfl, l, r⟩ := r
    have e : ((intsOf ts).bind fun ns => if ns.length ≤ 1000 then some (T.int (ddI ns).length) else none) = some t := e
    cases q1 : intsOf ts with
    | none => rw [q1] at e; cases e
    | some ns =>
      rw [q1, Option.bind_some] at e
      split at e
      · rename_i c2
        simp only [Option.some.injEq] at e
        subst e
        have := reps_ints q1 r
        subst this
        exact ⟨b, ns, rfl, SqT.of l, c2, h.int⟩
      · cases e
  | _ => simp [lenSetT] at e
end
@[simp] theorem lenSetT_ints {ns : List Int} (h : ns.length ≤ 1000) : lenSetT (.tup (ns.map T.int)) = some (.int (ddI ns).length) := by
  have io : ∀ ms : List Int, intsOf (ms.map T.int) = some ms := fun ms => by
    induction ms with
    | nil => rfl
    | cons m ms ih =>
      show (intsOf (ms.map T.int)).map (m :: ·) = _
      rw [ih]; rfl
  show (intsOf (ns.map T.int)).bind _ = _
  rw [io, Option.bind_some, if_pos h]
end VS

namespace VS
open PySem PySem.Spec L2
open PyProof.Rows hiding St

/-! ### an expression whose value gives up what it owns -/
def frzE (fe : FE) : FE := fun env => fe env >>= fun t => .ok (t.tag frze)
section
variable {X : Cx} {ec : Nat → Addr} {W : WX} {e : Expr} {fe : FE}
theorem DE.frz (he : DE X ec W e fe) : DE X ec W e (frzE fe) := by
  refine ⟨pe_mono he.run fun σ H Q ⟨B, env, fp, s, h⟩ => ⟨B, env, fp, s, ?_⟩⟩
  unfold frzE at h
  cases q : fe env with
  | exc c => rw [q] at h; exact h
  | bad => rw [q] at h; exact h
  | ok t =>
    rw [q] at h
    intro v H' F e1 r n f
    have cz := s.cz e1 n f
    refine h v H' [] e1 (Rep.tagN (f := frze) (fun g => by cases g <;> simp [frze]) ⟨rfl, fun g => by cases g <;> simp [frze], fun g => by cases g <;> simp [frze]⟩ (fun g a n p => ?_) t v F (fun b hb => ?_) r) List.nodup_nil (by simp)
    · have sub : AF (Aw fp) [] a → AF (Aw fp) F a := fun z => z.elim .inl fun z => by simp at z
      cases g with
      | own => exact absurd rfl n
      | shr => exact ⟨p.1, fun z => p.2.1 (sub z), p.2.2⟩
      | prt => exact ⟨p.1, fun z => p.2 (sub z)⟩
      | brw => exact p
      | fzn => exact ⟨p.1, fun z => p.2 (sub z)⟩
    · exact ⟨(cz.fr b hb).1, fun z => (cz.fr b hb).2.1 (AF.nil _ z), (cz.fr b hb).2.2⟩
end
@[simp] theorem frzE_def (fe : FE) (env : EnvT) : frzE fe env = (fe env >>= fun t => .ok (t.tag frze)) := id rfl
end VS

namespace VS
open PySem PySem.Spec L2
open PyProof.Rows hiding St

/-! ### return x, y: a pair that owns what the two names own -/
def retTup2 (i j : Nat) : FS := fun env => match env[i]?, env[j]? with
  | some (some a), some (some b) => .rt (.tup [a, b])
  | _, _ => .bad
section
variable {X : Cx} {ec : Nat → Addr} {W : WX} {pos : Pos}
theorem DS.retTup2 (i j : Nat) (hij : i ≠ j) {x y : Str} {px py pt : Pos} {x1 : Nat} (hx : X.N[i]? = some x := by rfl) (hy : X.N[j]? = some y := by rfl)
    (hvx : Vis X.env.scope x := by first | exact Or.inl rfl | exact Or.inr (Or.inl rfl) | exact Or.inr (Or.inr rfl)) (hvy : Vis X.env.scope y := by first | exact Or.inl rfl | exact Or.inr (Or.inl rfl) | exact Or.inr (Or.inr rfl))
    (hdx : (x == ("__debug__" : Str)) = false := by decide) (hdy : (y == ("__debug__" : Str)) = false := by decide) (hcx : (x == ("__classdict__" : Str)) = false := by decide) (hcy : (y == ("__classdict__" : Str)) = false := by decide)
    (h1 : starEach [.Name x px, .Name y py] X.env = (false, eval (.Name x px) X.env) :: starEach [.Name y py] X.env := by rfl) (h2 : starEach [.Name y py] X.env = (false, eval (.Name y py) X.env) :: starEach [] X.env := by rfl) :
    DS X ec W (.Return (some (.Tuple [.Name x px, .Name y py] x1 pt)) pos) (VS.retTup2 i j) := by
  refine ⟨ps_mono (ps_ret (pe_tup (pa_cons (pe_var (i := i) hx hvx hdx hcx) (pa_cons (pe_var (i := j) hy hvy hdy hcy) pa_nil h2) h1))) fun D σ H ⟨B, env, fp, s, h⟩ => ?_⟩
  unfold VS.retTup2 at h
  cases e1 : env[i]? with
  | none => rw [e1] at h; exact h.elim
  | some o1 =>
    cases o1 with
    | none => rw [e1] at h; exact h.elim
    | some t1 =>
      cases e2 : env[j]? with
      | none => rw [e1, e2] at h; exact h.elim
      | some o2 =>
        cases o2 with
        | none => rw [e1, e2] at h; exact h.elim
        | some t2 =>
          rw [e1, e2] at h
          obtain ⟨v1, hv1, r1⟩ := s.slot i t1 e1
          obtain ⟨v2, hv2, r2⟩ := s.slot j t2 e2
          refine ⟨v1, hv1, v2, hv2, by simp [sizeLine_eq], fun p hp => h (.ref p) (upd H p (.tup [v1, v2])) (fp i ++ fp j) ⟨?_, ?_, ?_, ?_⟩⟩
          · have ex : Ext H (upd H p (.tup [v1, v2])) := fun a o e => by
              rw [upd_ne (fun z => by rw [z, hp] at e; cases e)]; exact e
            refine ⟨p, [v1, v2], rfl, upd_same, v1, [v2], fp i, fp j, rfl, rfl, ?_, v2, [], fp j, [], rfl, by simp, ?_, rfl, rfl⟩
            · exact r1.mono ex fun g a _ _ _ q => Pm.to id (fun z => (List.mem_append.mp z).elim (fun z => ⟨i, z⟩) fun z => ⟨j, z⟩) id q
            · exact r2.mono ex fun g a _ _ _ q => Pm.to id (fun z => (List.mem_append.mp z).elim (fun z => ⟨i, z⟩) fun z => ⟨j, z⟩) id q
          · exact List.nodup_append.mpr ⟨s.nd i, s.nd j, fun a ha b hb e => s.dj i j a hij ha (e ▸ hb)⟩
          · exact fun a ha => (List.mem_append.mp ha).elim (s.own i a) (s.own j a)
          · intro a o e n
            have := s.ext a o e n
            rw [upd_ne (fun z => by rw [z, hp] at this; cases this)]; exact this
end
/-! ### x[k].clear(): a list that the pair at x owns -/
section
variable {K : PySem.W.Frag} {H : Hp} {P P' : Al}
theorem kp_at {b : Addr} {ws : List V} (h : H b = some (.lst ws)) : Kp (fun a => a = b) H (upd H b (.lst [])) := ⟨fun a o e n => by rw [upd_ne n]; exact e, fun a xs w => by rw [w, h]; simp, fun a ob u w => by rw [w, h]; simp⟩
theorem reps_clear : ∀ (ts : List T) (vs : List V) (F : List Addr) (k : Nat) (us : List T), Reps K H P ts vs F → ts[k]? = some (.lst .own us) → F.Nodup →
    ∃ (b : Addr) (ws : List V) (F' : List Addr), vs[k]? = some (.ref b) ∧ H b = some (.lst ws) ∧ b ∈ F ∧ F'.Sublist F ∧
      ((∀ g a, g ≠ .own → P g a → P' g a ∧ ¬ a = b) → Reps K (upd H b (.lst [])) P' (ts.set k (.lst .own [])) vs F')
  | [], vs, F, k, us, r, e, nd => by simp at e
  | t :: ts, vs, F, 0, us, ⟨v, r, F1, F2, hv, hF, c, d⟩, e, nd => by
    simp only [List.getElem?_cons_zero, Option.some.injEq] at e
    subst e
    obtain ⟨b, ws, G, rfl, l, fe, rr⟩ := c
    have l : H b = some (.lst ws) := l
    have fe : F1 = b :: G := fe
    subst hv; subst hF; subst fe
    refine ⟨b, ws, b :: F2, rfl, l, by simp, ?_, fun hP => ⟨.ref b, r, [b], F2, rfl, rfl, ⟨b, [], [], rfl, upd_same, rfl, rfl, rfl⟩, ?_⟩⟩
    · exact (List.sublist_append_right G F2).cons₂ b
    · refine Reps.keep (kp_at l) ts r F2 (fun g a _ n _ p => hP g a n p) (fun a ha z => ?_) d
      have := List.nodup_cons.mp nd
      exact this.1 (List.mem_append_right _ (z ▸ ha))
  | t :: ts, vs, F, k + 1, us, ⟨v, r, F1, F2, hv, hF, c, d⟩, e, nd => by
    simp only [List.getElem?_cons_succ] at e
    subst hv; subst hF
    obtain ⟨b, ws, F', h1, h2, h3, h4, h5⟩ := reps_clear ts r F2 k us d e (List.nodup_append.mp nd).2.1
    refine ⟨b, ws, F1 ++ F', by simpa using h1, h2, List.mem_append_right _ h3, h4.append_left F1, fun hP => ⟨v, r, F1, F', rfl, rfl, ?_, h5 hP⟩⟩
    exact Rep.keep (kp_at h2) t v F1 (fun g a _ n _ p => hP g a n p) (fun a ha z => (List.nodup_append.mp nd).2.2 a ha b h3 z) c
end
def clrAt (k : Nat) : T → Option T
  | .tup ts => match ts[k]? with
    | some (.lst .own _) => some (.tup (ts.set k (.lst .own [])))
    | _ => none
  | _ => none
def clrX (i k : Nat) : FX := fun env => match env[i]? with
  | some (some t) => match clrAt k t with
    | some t' => .ok (.non, env.set i (some t'))
    | none => .bad
  | _ => .bad
section
variable {X : Cx} {ec : Nat → Addr} {W : WX} {pos : Pos}
theorem DX.clrAt (i k : Nat) {x : Str} {xp kp sp apos : Pos} {jj : Nat} (hN : X.N[i]? = some x := by rfl) (hv : Vis X.env.scope x := by first | exact Or.inl rfl | exact Or.inr (Or.inl rfl) | exact Or.inr (Or.inr rfl)) (hd : (x == ("__debug__" : Str)) = false := by decide) (hcd : (x == ("__classdict__" : Str)) = false := by decide)
    (hs : PlainIx (.Constant (.int k) jj kp) := by exact fun _ _ => rfl)
    (hbase : attributeBase (.Subscript (.Name x xp) (.Constant (.int k) jj kp) sp) "clear" X.env (eval (.Subscript (.Name x xp) (.Constant (.int k) jj kp) sp) X.env) = eval (.Subscript (.Name x xp) (.Constant (.int k) jj kp) sp) X.env := by rfl) (hline : (apos.endLine == pos.line) = true := by rfl) :
    DX X ec W (.Call (.Attribute (.Subscript (.Name x xp) (.Constant (.int k) jj kp) sp) "clear" apos) [] [] pos) (clrX i k) := by
  refine ⟨pe_mono (pe_bm0 PySem.F.plainAttrs_list PySem.F.slot_list_clear PySem.F.type_list_clear mt_clear (pe_ix ix_seq (pe_var (i := i) hN hv hd hcd) pe_int hs) hbase hline) fun σ H Q ⟨B, env, fp, s, h⟩ => ?_⟩
  unfold clrX at h
  cases e : env[i]? with
  | none => rw [e] at h; exact h.elim
  | some o =>
    cases o with
    | none => rw [e] at h; exact h.elim
    | some t =>
      rw [e] at h
      dsimp only at h
      cases t with
      | tup ts =>
        unfold VS.clrAt at h
        dsimp only at h
        cases q : ts[k]? with
        | none => rw [q] at h; exact h.elim
        | some u =>
          rw [q] at h
          match u, q, h with
          | .lst .own us, q, h =>
            obtain ⟨v, hv, r⟩ := s.slot i _ e
            obtain ⟨a, vs, rfl, l, r⟩ := r
            obtain ⟨b, ws, F', h1, h2, h3, h4, h5⟩ := reps_clear (P' := Pm B.O B.C (AF (Aw fp) []) Nz) ts vs (fp i) k us r q (s.nd i)
            have hi : i < env.length := (List.getElem?_eq_some_iff.mp e).1
            have at_ : atI vs (k : Int) = some (.ref b) := by
              have kl : k < vs.length := (List.getElem?_eq_some_iff.mp h1).1
              rw [atI_ok (V.ref b) (by omega) (by omega)]
              simp [h1]
            refine ⟨.ref a, hv, .inr (.inl ⟨a, vs, k, .ref b, rfl, rfl, SqT.of l, at_, .inl ⟨rfl, ws, SqL.of h2⟩, b, ws, rfl, rfl, h2, ?_⟩)⟩
            have la : H a = some (.tup vs) := l
            have ab : a ≠ b := fun z => by rw [z, h2] at la; cases la
            have rn : Rep X.K (upd H b (.lst [])) (Pm B.O B.C (AF (Aw fp) []) Nz) (.tup (ts.set k (.lst .own []))) (.ref a) F' := ⟨a, vs, rfl, by rw [upd_ne ab]; exact l, h5 fun g c n p => by
              have bA : Aw fp b := ⟨i, h3⟩
              have nb : ¬ Aw fp c → ¬ c = b := fun z y => z (y ▸ bA)
              have sub : ¬ Aw fp c → ¬ AF (Aw fp) [] c := fun z y => z (AF.nil _ y)
              cases g with
              | own => exact absurd rfl n
              | shr => exact ⟨⟨p.1, sub p.2.1, p.2.2⟩, nb p.2.1⟩
              | prt => exact ⟨⟨p.1, sub p.2⟩, nb p.2⟩
              | brw => exact (show False from p).elim
              | fzn => exact ⟨⟨p.1, sub p.2⟩, nb p.2⟩⟩
            obtain ⟨st, rr, n3, n4⟩ := s.update (t' := .tup (ts.set k (.lst .own []))) (res := .non) (vr := .non) (Fr := []) (F := []) (o' := .lst []) (Ext.refl _) hi h3 hv List.nodup_nil (by simp) rn ⟨rfl, rfl⟩ (by simpa using Le.of_sub h4)
            exact h .non _ _ [] st rr n3 n4
          | .non, _, h => exact h.elim
          | .bl _, _, h => exact h.elim
          | .int _, _, h => exact h.elim
          | .str _, _, h => exact h.elim
          | .tup _, _, h => exact h.elim
          | .dct _ _, _, h => exact h.elim
          | .lst .shr _, _, h => exact h.elim
          | .lst .prt _, _, h => exact h.elim
          | .lst .brw _, _, h => exact h.elim
          | .lst .fzn _, _, h => exact h.elim
      | _ => exact h.elim
end
end VS

namespace VS
open PySem PySem.Spec L2
open PyProof.Rows hiding St

/-! ### set(xs) of a list, whatever is added -/
section
variable {P : Program} {w : World}
/-- adding v to the set at S leads from J to J' -/
def AddsTo (P : Program) (w : World) (A : Around) (S : Addr) (J J' : Heap → Prop) (v : Value) : Prop :=
  ∀ (E : Value → Shared → Prop) (s : Shared) (Q : Bool → Shared → Prop), J s.heap → (∀ b h' tk, s.toks ≤ tk → Heap.SameBut S s.heap h' → J' h' → Q b { s with heap := h', toks := tk }) → wpAny (model P w) A (setAdd S v) Q E s
variable {A : Around} {E : Value → Shared → Prop} {s : Shared}
theorem fill_loop {I S : Addr} {fp wr : List Addr} {G : Array GenState → Array GenState → Prop} {n : Nat} {Pv : Nat → Value → Prop} {St : Nat → Shared → Prop} {R : Result → Shared → Prop} (W : WalksS P w A.in1 I fp wr G n Pv St) (hS : S ∉ fp) (J : Nat → Heap → Prop)
    (keep : ∀ i h h', J i h → (∀ b o, b ∉ wr → h.get? b = some o → h'.get? b = some o) → J i h') (step : ∀ i v, i < n → Pv i v → AddsTo P w A.in1 S (J i) (J (i + 1)) v) :
    ∀ (m i : Nat) (s : Shared), i + m = n → St i s → J i s.heap → (∀ s', Moved (S :: wr) G s s' → J n s'.heap → R (.ok (.ret .none)) s') → codeAny (model P w) A (.builtin "set.update.loop" ⟨[.ref S, .ref I], []⟩) R s := by
  have up : ∀ b ∈ wr, b ∈ S :: wr := fun b m => by simp [m]
  intro m
  induction m with
  | zero =>
    intro i s e st j fin
    obtain rfl : i = n := by omega
    refine codeAny_builtin F.entry_set_update_loop ?_; rw [Around.under_plainId F.plain_set_update_loop _]
    exact wpAny_bind (W.done s _ _ st fun s1 mv => wpAny_pure (fin s1 (mv.mono up) (keep _ _ _ j fun b o nb e => mv.heap b o nb e)))
  | succ m ih =>
    intro i s e st j fin
    have lt : i < n := by omega
    refine codeAny_builtin F.entry_set_update_loop ?_; rw [Around.under_plainId F.plain_set_update_loop _]
    refine wpAny_bind (W.item i s _ _ lt st fun v s1 pv st1 mv => ?_)
    refine wpAny_bind (wpAny_holding (step i v lt pv _ s1 _ (keep _ _ _ j fun b o nb e => mv.heap b o nb e) fun b h' tk le sb j' => ?_))
    refine wpAny_pure ⟨plainId_quiet F.plain_set_update_loop _, ih (i + 1) _ (by omega) (W.frame _ s1 _ _ st1 le fun c hc o q => ?_) j' fun s2 mv2 j2 => fin s2 (Moved.trans W.gtrans ((mv.mono up).then_heap le fun c o hc q => ?_) mv2) j2⟩
    · rw [sb.2 c (fun z => hS (z ▸ hc))]; exact q
    · rw [sb.2 c (fun z => hc (by simp [z]))]; exact q
abbrev emptySet (w : World) : Obj := { cls := .type "set", dict := none, data := .set #[] 0 (.fresh 0 0 (!w.params.followText "set-order")) }
set_option maxHeartbeats 3200000 in
theorem call_set_gen {l : Addr} {items : Array Value} (J : Nat → Heap → Prop) {Q : Value → Shared → Prop} (hh : A.handled = none) (hl : s.heap.IsList l items)
    (J0 : ∀ h, (∀ b o, s.heap.get? b = some o → h.get? b = some o) → h.get? s.heap.objs.size = some (emptySet w) → J 0 h)
    (keep : ∀ i h h', J i h → (∀ b o, b ≠ s.heap.objs.size + 1 → h.get? b = some o → h'.get? b = some o) → J i h')
    (step : ∀ (A' : Around) i v, A'.units ≤ A.units + 4 → items[i]? = some v → AddsTo P w A' s.heap.objs.size (J i) (J (i + 1)) v)
    (fin : ∀ h' tk, J items.size h' → (∀ b o, s.heap.get? b = some o → h'.get? b = some o) → Q (.ref s.heap.objs.size) { s with heap := h', toks := tk }) :
    wpAny (model P w) A (call (.type "set") [.ref l]) Q E s := by
  obtain ⟨mc, mt, em⟩ := PySem.F.called_set.mro
  have made := PySem.F.called_set.made; have hsub := PySem.F.called_set.sub
  refine wpAny_call (codeAny_of_tree ?_); show wpAny _ _ (callAny (.type "set") _) _ _ _
  refine wpAny_pure ⟨Code.quiet_builtin _ (by decide +kernel), codeAny_builtin PySem.F.entry_type_call ?_⟩; rw [Around.under_plain (weight_type_call_type "set" [.ref l] []) rfl]
  have h1 := PySem.F.called_set.notType; have h2 := PySem.F.called_set.canCreate; have hct := PySem.F.typeCall_set_1 (.ref l)
  repeat (any_goals (first | wp_step | assumption))
  refine codeAny_mono (code_set_led1 (.ref l) (E := E) (Q₁ := fun obj s1 => obj = .ref s.heap.objs.size ∧ s1 = { s with heap := s.heap.push (emptySet w) }) ⟨rfl, rfl⟩) fun r s1 hr => ?_
  match r, hr with
  | .error e, hr => exact hr
  | .ok (.ret obj), hr =>
    obtain ⟨rfl, rfl⟩ := hr
    have hS : (s.heap.push (emptySet w)).get? s.heap.objs.size = some (emptySet w) := Heap.get?_push_size _ rfl
    have hT : Shared.TypeIs { s with heap := s.heap.push (emptySet w) } (.ref s.heap.objs.size) "set" := ⟨_, hS, rfl⟩
    have li := PySem.F.called_set.init.lookup; have bi := PySem.F.called_set.init.bind (.ref s.heap.objs.size)
    repeat (any_goals (first | wp_step | assumption))
    refine codeAny_mono (codeAny_call_builtin (R := wants (fun r s2 => r = .none ∧ ∃ h' tk, s2 = { s with heap := h', toks := tk } ∧ J items.size h' ∧ ∀ b o, s.heap.get? b = some o → h'.get? b = some o) E) PySem.F.called_set.init.plain PySem.F.entry_set_init (check_set_init_1 hT ?_)) fun r2 s2 hr2 => ?_
    · obtain ⟨⟨cls, dd, data, sl⟩, hol, hc, nl, hd⟩ := hl
      simp only at hc hd; subst hc; subst hd
      have hol' : (s.heap.push (emptySet w)).get? l = some { cls := .type "list", dict := dd, data := .seq items nl, slots := sl } := Heap.get?_push_of_some _ hol
      have s1 := PySem.F.sub_list_set; have s2 := PySem.F.sub_list_frozenset
      have ne : (Value.type "list" == Value.type "dict") = false := by decide
      have hl1 : (s.heap.push (emptySet w)).IsList l items := ⟨_, hol', rfl, nl, rfl⟩
      unfold Builtin.«set.__init__» noKeywords Builtin.Frozenset.updateFrom
      generalize hPI : pyIter = PI; wp_walk; subst hPI
      refine wpAny_pyIter_list hl1 ?_; refine wpAny_bind (wpAny_runValue ?_)
      have lt : l < s.heap.objs.size := Heap.lt_size hol
      have hh3 : A.in1.in1.in1.handled = none := by simp [hh]
      have sz : (s.heap.push (emptySet w)).objs.size = s.heap.objs.size + 1 := Heap.size_push ..
      have nI : l ≠ (s.heap.push (emptySet w)).objs.size := by rw [sz]; exact Nat.ne_of_lt (Nat.lt_succ_of_lt lt)
      refine fill_loop ((Walks.list hh3 _ l nI items).toS) (S := s.heap.objs.size) (by rw [sz]; simp only [List.mem_cons, List.not_mem_nil, or_false, not_or]; exact ⟨Nat.ne_of_lt (Nat.lt_succ_self _), Nat.ne_of_gt lt⟩) J (fun i h h' j k => keep i h h' j fun b o nb e => k b o (by rw [sz]; simpa using nb) e) (fun i v _ pv => step _ i v ?_ pv)
        (items.size - 0) 0 _ (by omega) ⟨⟨_, Heap.get?_push_size _ rfl, rfl, rfl⟩, (hl1.push _)⟩ (J0 _ (fun b o e => Heap.get?_push_of_some _ (Heap.get?_push_of_some _ e)) (Heap.get?_push_of_some _ hS)) fun s' mv j => ?_
      · simp only [Around.in1_units]; omega
      · obtain ⟨h', g2, d', tk', os'⟩ := s'
        have e1 : g2 = s.gens := mv.gens
        have e2 : d' = s.drawn := mv.drawn
        have e3 : os' = s.os := mv.os
        subst e1 e2 e3
        refine wpAny_pure ?_; show wpAny _ _ (ret Value.none) _ _ _
        refine wpAny_pure ⟨rfl, h', tk', rfl, j, fun b o e => ?_⟩
        have b0 : b < s.heap.objs.size := Heap.lt_size e
        exact mv.heap b o (by rw [sz]; simp only [List.mem_cons, List.not_mem_nil, or_false, not_or]; exact ⟨Nat.ne_of_lt b0, Nat.ne_of_lt (Nat.lt_succ_of_lt b0)⟩) (Heap.get?_push_of_some _ (Heap.get?_push_of_some _ e))
    · match r2, hr2 with
      | .error e, hr2 => exact hr2
      | .ok (.ret r), hr2 =>
        obtain ⟨rfl, h', tk, rfl, j, k⟩ := hr2
        repeat (any_goals (first | wp_step | assumption))
        exact fin _ _ j k
end
/-! ### dedupe -/
section
variable {α : Type} [DecidableEq α]
def ddA : List α → List α
  | [] => []
  | n :: ns => if n ∈ ns then ddA ns else n :: ddA ns
theorem mem_ddA {k : α} : ∀ {ns : List α}, k ∈ ddA ns ↔ k ∈ ns
  | [] => Iff.rfl
  | n :: ns => by
    unfold ddA
    split
    · rename_i h
      rw [mem_ddA (ns := ns), List.mem_cons]
      exact ⟨.inr, fun z => z.elim (fun e => by rw [e]; exact h) id⟩
    · rw [List.mem_cons, List.mem_cons, mem_ddA (ns := ns)]
theorem nd_ddA : ∀ ns : List α, (ddA ns).Nodup
  | [] => by simp [ddA]
  | n :: ns => by
    unfold ddA
    split
    · exact nd_ddA ns
    · rename_i h
      exact List.nodup_cons.mpr ⟨fun m => h (mem_ddA.mp m), nd_ddA ns⟩
theorem ddA_len {ns ms : List α} (h : ms.Nodup) (e : ∀ k, k ∈ ms ↔ k ∈ ns) : ms.length = (ddA ns).length := by
  have a := h.length_le_of_subset (l₂ := ddA ns) fun k m => mem_ddA.mpr ((e k).mp m)
  have b := (nd_ddA ns).length_le_of_subset (l₂ := ms) fun k m => (e k).mpr (mem_ddA.mp m)
  omega
theorem ddA_perm {ns ms : List α} (h : ms.Nodup) (e : ∀ k, k ∈ ms ↔ k ∈ ns) : ms.Perm (ddA ns) :=
  (List.perm_ext_iff_of_nodup h (nd_ddA ns)).mpr fun k => (e k).trans mem_ddA.symm
end
/-- how many unlike ones have been met -/
structure Cnt {α : Type} (xs : List α) (c : Nat) : Prop where
  ex : ∃ ms : List α, ms.Nodup ∧ (∀ k, k ∈ ms ↔ k ∈ xs) ∧ ms.length = c
theorem Cnt.next {α : Type} [DecidableEq α] {xs : List α} {c : Nat} (h : Cnt xs c) (x : α) : Cnt (xs ++ [x]) (if decide (x ∈ xs) = true then c else c + 1) := by
  obtain ⟨ms, a, b, rfl⟩ := h
  by_cases q : x ∈ xs
  · refine ⟨ms, a, fun k => ?_, by simp [q]⟩
    rw [b k]; simp; exact fun e => e ▸ q
  · refine ⟨x :: ms, List.nodup_cons.mpr ⟨fun m => q ((b x).mp m), a⟩, fun k => ?_, by simp [q]⟩
    simp [b k, or_comm]
theorem Cnt.le {α : Type} {xs : List α} {c : Nat} (h : Cnt xs c) : c ≤ xs.length := by
  obtain ⟨ms, a, b, rfl⟩ := h
  exact a.length_le_of_subset fun k m => (b k).mp m
theorem vals_at : ∀ {vs : List V} {us : List Value} {i : Nat} {u : Value}, Vals vs us → us[i]? = some u → ∃ v, vs[i]? = some v ∧ RelV v u
  | _, _, i, u, .nil, h => by simp at h
  | _, _, 0, u, .cons r t, h => by simp at h; exact ⟨_, rfl, h ▸ r⟩
  | _, _, i + 1, u, .cons r t, h => by simpa using vals_at t (by simpa using h)
theorem mapK_at {ks : List Key} {i : Nat} {v : V} (h : (ks.map kV)[i]? = some v) : ∃ k, ks[i]? = some k ∧ v = kV k := by
  rw [List.getElem?_map] at h
  cases q : ks[i]? with
  | none => rw [q] at h; cases h
  | some k => rw [q] at h; exact ⟨k, rfl, (Option.some.inj h).symm⟩
section
variable {P : Program} {w : World} {A : Around} {E : Value → Shared → Prop} {s : Shared}
theorem setOf_fresh {S : Addr} {h : Heap} (e : h.get? S = some (emptySet w)) : h.SetOf (mixKind P w) S (fun _ => false) 0 :=
  ⟨_, #[], 0, _, e, ⟨rfl, rfl, rfl⟩, rfl, (fun x m => by simp at m), (fun k => by simp), (by decide), (by rfl), rfl⟩
theorem setOf_congr {S : Addr} {h : Heap} {f g : Key → Bool} {n : Nat} (H : h.SetOf (mixKind P w) S f n) (e : ∀ k, f k = g k) : h.SetOf (mixKind P w) S g n := by
  have : f = g := funext e
  subst this; exact H
/-- set(xs), xs numbers and texts: who is in it, and how many -/
theorem call_set_keys {l : Addr} {items : List Value} (ks : List Key) {Q : Value → Shared → Prop} (hh : A.handled = none) (hl : s.heap.IsList l items.toArray) (hv : Vals (ks.map kV) items) (hb : ks.length + 1 < scanBound)
    (h : ∀ h' tk c, h'.SetOf (mixKind P w) s.heap.objs.size (fun k => decide (k ∈ ks)) c → Cnt ks c → (∀ b o, s.heap.get? b = some o → h'.get? b = some o) → Q (.ref s.heap.objs.size) { s with heap := h', toks := tk }) :
    wpAny (model P w) A (call (.type "set") [.ref l]) Q E s := by
  have ln : items.length = ks.length := by have := hv.length; simpa using this.symm
  refine call_set_gen (fun i hp => ∃ c, hp.SetOf (mixKind P w) s.heap.objs.size (fun k => decide (k ∈ ks.take i)) c ∧ Cnt (ks.take i) c) hh hl (fun hp _ e => ⟨0, setOf_congr (setOf_fresh e) fun k => by simp, ⟨[], by simp, by simp, rfl⟩⟩)
    (fun i hp hq ⟨c, a, b⟩ k => ⟨c, setOf_at a fun o e => k _ o (Nat.ne_of_lt (Nat.lt_succ_self _)) e, b⟩) (fun A' i v _ e => ?_) fun h' tk ⟨c, a, b⟩ k => ?_
  · obtain ⟨x, q, r⟩ := vals_at hv (by simpa using e)
    obtain ⟨k, q0, rfl⟩ := mapK_at q
    intro E2 s2 Q2 ⟨c, a, b⟩ go
    have tk1 : ks.take (i + 1) = ks.take i ++ [k] := by rw [List.take_add_one, q0]; rfl
    have lt := b.le
    unfold setAdd
    refine wpAny_holding (wpAny_bind ((mixKind P w).pyHash (kV_is r) ?_))
    refine wpAny_setAddHashed_of (s := { s2 with toks := s2.toks + 1 }) (kV_is r) (key_scan r) a (by have := List.length_take_le' i ks; omega) fun h' sb n => ?_
    refine go _ h' _ (Nat.le_succ _) sb ⟨_, setOf_congr n fun j => ?_, ?_⟩
    · rw [tk1]; simp [List.mem_append, Bool.decide_or]
    · rw [tk1]; refine cast ?_ (b.next k); congr 1; simp only [decide_eq_true_eq]
  · have e : ks.take items.toArray.size = ks := List.take_of_length_le (by simp [ln])
    rw [e] at a b
    exact h h' tk c a b k
theorem setR_fresh {S : Addr} {h : Heap} (e : h.get? S = some (emptySet w)) : SetR w h S (fun j => decide (j ∈ ([] : List Int))) 0 := setR_new_at (ns := []) e
/-- .. xs numbers: in their slots -/
theorem call_set_nums {l : Addr} {items : List Value} (ns : List Int) {Q : Value → Shared → Prop} (hh : A.handled = none) (hl : s.heap.IsList l items.toArray) (hv : Vals (ns.map V.int) items) (hb : ns.length + 1 < scanBound)
    (h : ∀ h' tk c, SetR w h' s.heap.objs.size (fun k => decide (k ∈ ns)) c → c ≤ ns.length → (∀ b o, s.heap.get? b = some o → h'.get? b = some o) → Q (.ref s.heap.objs.size) { s with heap := h', toks := tk }) :
    wpAny (model P w) A (call (.type "set") [.ref l]) Q E s := by
  have ln : items.length = ns.length := by have := hv.length; simpa using this.symm
  refine call_set_gen (fun i hp => ∃ c, SetR w hp s.heap.objs.size (fun k => decide (k ∈ ns.take i)) c ∧ c ≤ i) hh hl (fun hp _ e => ⟨0, setR_fresh e, Nat.le_refl 0⟩)
    (fun i hp hq ⟨c, a, b⟩ k => ⟨c, a.at fun o e => k _ o (Nat.ne_of_lt (Nat.lt_succ_self _)) e, b⟩) (fun A' i v _ e => ?_) fun h' tk ⟨c, a, b⟩ k => ?_
  · obtain ⟨x, q, r⟩ := vals_at hv (by simpa using e)
    have il : i < items.length := by simpa using (Array.getElem?_eq_some_iff.mp e).1
    rw [List.getElem?_map] at q
    cases q2 : ns[i]? with
    | none => rw [q2] at q; cases q
    | some k =>
      rw [q2] at q
      obtain rfl := Option.some.inj q
      obtain ⟨t, rfl⟩ := r
      intro E2 s2 Q2 ⟨c, a, b⟩ go
      have tk1 : ns.take (i + 1) = ns.take i ++ [k] := by rw [List.take_add_one, q2]; rfl
      unfold setAdd
      refine wpAny_holding (wpAny_bind ((intKind P w).pyHash (k := k) (intKind_is _ _ _ _) ?_))
      refine setR_add_hashed (s := { s2 with toks := s2.toks + 1 }) a (by omega) fun h' sb n => ?_
      refine go _ h' _ (Nat.le_succ _) sb ⟨_, n.congr fun j => ?_, by split <;> omega⟩
      rw [tk1]; simp [List.mem_append, Bool.decide_or]
  · have e : ns.take items.toArray.size = ns := List.take_of_length_le (by simp [ln])
    rw [e] at a
    exact h h' tk c a (by simpa [ln] using b) k
end
/-! ### len(set(xs)), sorted(set(xs)) -/
theorem reps_mkI {K : PySem.W.Frag} {H : Hp} {P : Al} : ∀ ns : List Int, Reps K H P (ns.map T.int) (ns.map V.int) []
  | [] => ⟨rfl, rfl⟩
  | n :: ns => ⟨.int n, ns.map V.int, [], [], rfl, rfl, ⟨rfl, rfl⟩, reps_mkI ns⟩
def tLenSetX (K : PySem.W.Frag) (ta : TE) : TE := fun σ H Q => ta σ H fun x H1 => (∃ (l : Addr) (ns : List Int), x = V.ref l ∧ SqT K H1 l (ns.map V.int) ∧ ns.length ≤ 1000 ∧ Q (.int (ddI ns).length) H1) ∨
  ∃ (l : Addr) (ks : List Key), x = V.ref l ∧ SqL K H1 l (ks.map kV) ∧ ks.length ≤ 1000 ∧ Q (.int (ddA ks).length) H1
theorem pe_lenSetX {X : Cx} {a : Expr} {ta : TE} {p p2 q pos : Pos} (hc : X.calm = true) (hg : Gl X "len") (hm : X.mg "len" = none) (hg2 : Gl X "set") (hm2 : X.mg "set" = none) (ha : PE X a ta)
    (na : starEach [a] X.env = (false, eval a X.env) :: starEach [] X.env := by rfl) : PE X (.Call (.Name "len" p) [.Call (.Name "set" p2) [a] [] q] [] pos) (tLenSetX X.K ta) := by
  refine ⟨fun pins s σ H Q I h => ?_⟩
  refine Call_ (ld_blt I hg hm PySem.boot_len ?_)
  refine PyProof.Rows.callWith_builtin1 (PyProof.Rows.args_cons ?_ rfl) rfl rfl
  refine Call_ (ld_blt I hg2 hm2 PyProof.Rows.boot_set ?_)
  refine PyProof.Rows.callWith_type1 (PyProof.Rows.args_cons (thn (ha.run pins s σ H _ I h) fun v s1 ⟨x, H1, I1, r1, q1⟩ => PyProof.Rows.args_nil ?_) na) na rfl
  rcases q1 with ⟨l, ns, rfl, hq, hl, q1⟩ | ⟨l, ks, rfl, hq, hl, q1⟩
  · cases r1
    obtain ⟨its, r, pl, hz⟩ := I1.tuple hq
    have hi : IntsAre its.toArray.toList ns := ints_of_vals r
    refine call_set_tupI ns (I1.ok.hd hc) pl hi (by unfold scanBound; omega) fun h' tk c R1 hcn k => ?_
    refine PyProof.Rows.args_nil ?_
    obtain ⟨o, es, ep, t, ho, hex, hdt, g, nd, hm2, hb, hf, hn, hr, hl2⟩ := R1
    have I2 : Inv X _ σ H1 { s1 with heap := h', toks := tk } := I1.kept fun b o e => k b o e
    have len : es.size = (ddI ns).length := by
      have := nd_ddI_len (ns := ns) nd fun k => by rw [← hm2 k, decide_eq_true_eq]
      rw [List.length_map, Array.length_toList] at this
      exact this
    have cl : c ≤ 1000 := by omega
    exact call_len_set ho hex hdt hf (by rw [hn] <;> omega) ⟨.int (ddI ns).length, H1, I2.tok _, ⟨_, by rw [len]⟩, q1⟩
  · cases r1
    obtain ⟨its, r, pl, hz⟩ := I1.list hq
    refine call_set_keys ks (I1.ok.hd hc) pl.isList r (by unfold scanBound; omega) fun h' tk c R1 cn k => ?_
    refine PyProof.Rows.args_nil ?_
    obtain ⟨ms, md, mm, ml⟩ := cn
    obtain ⟨o, es, ep, t, ho, hex, hdt, g, hm2, hb, hf, hn⟩ := R1
    have I2 : Inv X _ σ H1 { s1 with heap := h', toks := tk } := I1.kept fun b o e => k b o e
    have len : es.size = (ddA ks).length := by rw [hn, ← ml]; exact ddA_len md mm
    have cl : es.size < 4096 := hb
    exact call_len_set ho hex hdt hf (by omega) ⟨.int (ddA ks).length, H1, I2.tok _, ⟨_, by rw [len]⟩, q1⟩
def tSortSetI (K : PySem.W.Frag) (ta : TE) : TE := fun σ H Q => ta σ H fun x H1 => ∃ (l : Addr) (ns : List Int), x = V.ref l ∧ SqL K H1 l (ns.map V.int) ∧ ns.length ≤ 63 ∧ ∀ p, H1 p = none → Q (.ref p) (upd H1 p (.lst (((ddA ns).mergeSort (fun a b => decide (a ≤ b))).map V.int)))
theorem lt_sorted_uniq : ∀ {xs ys : List Int}, xs.Pairwise (· < ·) → ys.Pairwise (· ≤ ·) → xs.Perm ys → xs = ys := fun h1 h2 p =>
  p.eq_of_pairwise (fun a b _ _ h1 h2 => by omega) (h1.imp fun h => Int.le_of_lt h) h2
theorem pe_sortSetI {X : Cx} {a : Expr} {ta : TE} {p p2 q pos : Pos} (hc : X.calm = true) (hg : Gl X "sorted") (hm : X.mg "sorted" = none) (hg2 : Gl X "set") (hm2 : X.mg "set" = none) (ha : PE X a ta)
    (na : starEach [a] X.env = (false, eval a X.env) :: starEach [] X.env := by rfl) : PE X (.Call (.Name "sorted" p) [.Call (.Name "set" p2) [a] [] q] [] pos) (tSortSetI X.K ta) := by
  refine ⟨fun pins s σ H Q I h => ?_⟩
  refine Call_ (ld_blt I hg hm (by decide +kernel : bootBuiltins "sorted" = some (.builtin "sorted")) ?_)
  refine PyProof.Rows.callWith_builtin1 (PyProof.Rows.args_cons ?_ rfl) rfl rfl
  refine Call_ (ld_blt I hg2 hm2 PyProof.Rows.boot_set ?_)
  refine PyProof.Rows.callWith_type1 (PyProof.Rows.args_cons (thn (ha.run pins s σ H _ I h) fun v s1 ⟨x, H1, I1, r1, q1⟩ => PyProof.Rows.args_nil ?_) na) na rfl
  obtain ⟨l, ns, rfl, hq, hl, q1⟩ := q1
  cases r1
  obtain ⟨its, r, pl, hz⟩ := I1.list hq
  refine call_set_nums ns (I1.ok.hd hc) pl.isList r (by unfold scanBound; omega) fun h' tk c R1 cn k => ?_
  refine PyProof.Rows.args_nil ?_
  have I2 : Inv X _ σ H1 { s1 with heap := h', toks := tk } := I1.kept fun b o e => k b o e
  refine sorted_set R1 (I1.ok.hd hc) (by omega) fun s' pp out cc ms k1 g1 o1 le hp hi pw hmem hlen => ?_
  have hms : ms = (ddA ns).mergeSort (fun a b => decide (a ≤ b)) := by
    refine lt_sorted_uniq pw ?_ ?_
    · have := List.pairwise_mergeSort (le := fun (a b : Int) => decide (a ≤ b)) (fun a b c => by simp; omega) (fun a b => by simp; omega) (ddA ns)
      exact this.imp fun h => by simpa using h
    · refine List.Perm.trans ?_ (List.mergeSort_perm ..).symm
      exact ddA_perm (pw.imp fun h => by omega) fun k => by rw [hmem k]; simp
  subst hms
  have hn : H1 pp = none := I2.hok.fresh le
  have hz2 : (((ddA ns).mergeSort fun a b => decide (a ≤ b)).map V.int).length ≤ sizeLine := by
    rw [List.length_map, List.length_mergeSort, sizeLine_eq]
    have := (nd_ddA ns).length_le_of_subset (l₂ := ns) fun k m => mem_ddA.mp m
    omega
  have J : Inv X _ σ (upd H1 pp (.lst (((ddA ns).mergeSort fun a b => decide (a ≤ b)).map V.int))) { ({ s1 with heap := h', toks := tk } : Shared) with heap := s'.heap, gens := s'.gens, drawn := s'.drawn, toks := s'.toks } :=
    Inv.call (s := { s1 with heap := h', toks := tk }) I2 (ch := []) (Un.laid k1 le hn) (I2.hok.laid k1 le ⟨hz2, out.toList, cc, vals_of_ints hi, hp⟩) (by rw [g1]; exact I2.bare) (fun _ z => nomatch z)
  refine ⟨.ref pp, _, ?_, rfl, q1 pp hn⟩
  obtain ⟨sh, sg, sd, st, so⟩ := s'
  have o1 : so = s1.os := o1
  subst o1
  exact J
def lenSetX : T → Option T
  | .lst _ ts => (keyKs ts).bind fun ks => if ks.length ≤ 1000 then some (.int (ddA ks).length) else none
  | t => lenSetT t
def sortSetT : T → Option T
  | .lst _ ts => (intsOf ts).bind fun ns => if ns.length ≤ 63 then some (.lst .own (((ddA ns).mergeSort (fun a b => decide (a ≤ b))).map T.int)) else none
  | _ => none
section
variable {X : Cx} {ec : Nat → Addr} {W : WX} {a : Expr} {fa : FE} {pos p q : Pos}
theorem DE.lenSetX {p2 : Pos} (hc : X.calm = true) (hg : Gl X "len") (hm : X.mg "len" = none) (hg2 : Gl X "set") (hm2 : X.mg "set" = none) (ha : DE X ec W a fa) (na : starEach [a] X.env = (false, eval a X.env) :: starEach [] X.env := by rfl) :
    DE X ec W (.Call (.Name "len" p) [.Call (.Name "set" p2) [a] [] q] [] pos) (un1 VS.lenSetX fa) := by
  refine ⟨pe_mono (pe_lenSetX hc hg hm hg2 hm2 ha.run na) fun σ H Q h => ?_⟩
  refine one_op (r := fun x H1 Q => (∃ (l : Addr) (ns : List Int), x = V.ref l ∧ SqT X.K H1 l (ns.map V.int) ∧ ns.length ≤ 1000 ∧ Q (.int (ddI ns).length) H1) ∨ ∃ (l : Addr) (ks : List Key), x = V.ref l ∧ SqL X.K H1 l (ks.map kV) ∧ ks.length ≤ 1000 ∧ Q (.int (ddA ks).length) H1) (fun H O C A x tx F Q t cz r e h => ?_) h
  cases tx with
  | tup ts =>
    obtain ⟨b, vs, rfl, l, r⟩ := r
    have e : ((intsOf ts).bind fun ns => if ns.length ≤ 1000 then some (T.int (ddI ns).length) else none) = some t := e
    cases q1 : intsOf ts with
    | none => rw [q1] at e; cases e
    | some ns =>
      rw [q1, Option.bind_some] at e
      split at e
      · rename_i c2
        simp only [Option.some.injEq] at e
        subst e
        have := reps_ints q1 r
        subst this
        exact .inl ⟨b, ns, rfl, SqT.of l, c2, h.int⟩
      · cases e
  | lst g ts =>
    obtain ⟨b, vs, G, rfl, l, fpp, r⟩ := r
    have e : ((keyKs ts).bind fun ks => if ks.length ≤ 1000 then some (T.int (ddA ks).length) else none) = some t := e
    cases q1 : keyKs ts with
    | none => rw [q1] at e; cases e
    | some ks =>
      rw [q1, Option.bind_some] at e
      split at e
      · rename_i c2
        simp only [Option.some.injEq] at e
        subst e
        have := keyKs_inv q1
        subst this
        have := reps_kT r
        subst this
        exact .inr ⟨b, ks, rfl, l.sq, c2, h.int⟩
      · cases e
  | _ => simp [VS.lenSetX, lenSetT] at e
theorem DE.sortSet {p2 : Pos} (hc : X.calm = true) (hg : Gl X "sorted") (hm : X.mg "sorted" = none) (hg2 : Gl X "set") (hm2 : X.mg "set" = none) (ha : DE X ec W a fa) (na : starEach [a] X.env = (false, eval a X.env) :: starEach [] X.env := by rfl) :
    DE X ec W (.Call (.Name "sorted" p) [.Call (.Name "set" p2) [a] [] q] [] pos) (un1 sortSetT fa) := by
  refine ⟨pe_mono (pe_sortSetI hc hg hm hg2 hm2 ha.run na) fun σ H Q h => ?_⟩
  refine one_op (r := fun x H1 Q => ∃ (l : Addr) (ns : List Int), x = V.ref l ∧ SqL X.K H1 l (ns.map V.int) ∧ ns.length ≤ 63 ∧ ∀ p, H1 p = none → Q (.ref p) (upd H1 p (.lst (((ddA ns).mergeSort (fun a b => decide (a ≤ b))).map V.int)))) (fun H O C A x tx F Q t cz r e h => ?_) h
  cases tx with
  | lst g ts =>
    obtain ⟨b, vs, G, rfl, l, fpp, r⟩ := r
    have e : ((intsOf ts).bind fun ns => if ns.length ≤ 63 then some (T.lst .own (((ddA ns).mergeSort (fun a b => decide (a ≤ b))).map T.int)) else none) = some t := e
    cases q1 : intsOf ts with
    | none => rw [q1] at e; cases e
    | some ns =>
      rw [q1, Option.bind_some] at e
      split at e
      · rename_i c2
        simp only [Option.some.injEq] at e
        subst e
        have := reps_ints q1 r
        subst this
        exact ⟨b, ns, rfl, l.sq, c2, h.lst cz (reps_mkI _) (by simp)⟩
      · cases e
  | _ => simp [sortSetT] at e
end
@[simp] theorem lenSetX_ints {ns : List Int} (h : ns.length ≤ 1000) : lenSetX (.tup (ns.map T.int)) = some (.int (ddI ns).length) := lenSetT_ints h
@[simp] theorem lenSetX_keys {g : Tg} {ks : List Key} (h : ks.length ≤ 1000) : lenSetX (.lst g (ks.map kT)) = some (.int (ddA ks).length) := by
  show ((keyKs (ks.map kT)).bind fun ks => if ks.length ≤ 1000 then some (T.int (ddA ks).length) else none) = _
  rw [keyKs_kT, Option.bind_some, if_pos h]
@[simp] theorem sortSetT_ints {g : Tg} {ns : List Int} (h : ns.length ≤ 63) : sortSetT (.lst g (ns.map T.int)) = some (.lst .own (((ddA ns).mergeSort (fun a b => decide (a ≤ b))).map T.int)) := by
  show ((intsOf (ns.map T.int)).bind fun ns => if ns.length ≤ 63 then some (T.lst .own (((ddA ns).mergeSort (fun a b => decide (a ≤ b))).map T.int)) else none) = _
  rw [intsOf_map, Option.bind_some, if_pos h]
end VS

namespace VS
open PySem PySem.Spec L2
open PyProof.Rows hiding St

/-! ### a statement that is never come to -/
def badS : FS := fun _ => .bad
theorem DS.badS {X : Cx} {ec : Nat → Addr} {W : WX} {st : Stmt} : DS X ec W st badS := ⟨⟨fun _ _ _ _ _ _ ⟨_, _, _, _, h⟩ => h.elim⟩⟩
@[simp] theorem badS_def (env : EnvT) : badS env = .bad := id rfl
end VS

namespace VS
open PySem PySem.Spec L2
open PyProof.Rows hiding St

/-! ### plain: dicts by texts, pairs -/
section
variable {α : Type}
theorem lookS_put (D : List (Str × α)) (s t : Str) (R : α) : lookS (setD D s R) t = if t = s then some R else lookS D t := by
  unfold setD
  split
  · rename_i c
    induction D with
    | nil => simp at c
    | cons p D ih =>
      unfold lookS at *
      rw [List.map_cons, List.find?_cons]
      by_cases q : p.1 = s
      · by_cases q2 : t = s
        · subst q2; simp [q]
        · have q3 : ¬ s = t := fun z => q2 z.symm
          have q4 : ¬ p.1 = t := by rw [q]; exact q3
          simp only [q, if_true, q3, decide_false, q2, if_false]
          rw [List.find?_cons_of_neg (by simpa using q4)]
          by_cases any : (D.any fun p => decide (p.1 = s)) = true
          · have := ih any; rw [if_neg q2] at this; exact this
          · have : (D.map fun p => if p.1 = s then (p.1, R) else p) = D := by
              conv => rhs; rw [← List.map_id D]
              refine List.map_congr_left fun p hp => ?_
              have : ¬ p.1 = s := fun z => any (List.any_eq_true.mpr ⟨p, hp, by simpa using z⟩)
              simp [this]
            rw [this]
      · simp only [q, if_false]
        rw [List.find?_cons]
        have any : (D.any fun p => decide (p.1 = s)) = true := by simpa [q] using c
        by_cases q2 : p.1 = t
        · have q3 : ¬ t = s := fun z => q (q2.trans z)
          simp only [q2, decide_true, if_neg q3]
        · simp only [q2, decide_false]
          exact ih any
  · rename_i c
    unfold lookS
    rw [List.find?_append]
    by_cases q : t = s
    · subst q
      have : D.find? (fun p => decide (p.1 = t)) = none := by
        rw [List.find?_eq_none]
        intro p hp z
        exact c (List.any_eq_true.mpr ⟨p, hp, z⟩)
      simp [this]
    · have q3 : ¬ s = t := fun z => q z.symm
      simp [q, q3]
theorem lookS_none {D : List (Str × α)} {s : Str} : lookS D s = none ↔ ∀ p ∈ D, p.1 ≠ s := by
  unfold lookS
  rw [Option.map_eq_none_iff, List.find?_eq_none]
  simp
theorem lookT_int (f : α → T) (n : Int) : ∀ D : List (Str × α), lookT (D.map (dP f)) (.int n) = none
  | [] => rfl
  | p :: D => by
    have ih := lookT_int f n D
    unfold lookT at *
    rw [List.map_cons, List.find?_cons]
    have e2 : decide (kOf (dP f p).1 = kOf (.int n)) = false := by
      refine decide_eq_false fun z => ?_
      have := (kT_inj (.inr p.1) (.inl n)).mp z
      cases this
    rw [e2]
    exact ih
theorem fit_dic_int (f : α → T) (D : List (Str × α)) (n : Int) : keyFit (D.map (dP f)) (.int n) = true := by
  simp only [keyFit, Bool.or_eq_true, Bool.and_eq_true, List.all_eq_true]
  refine .inl ⟨rfl, fun p hp => ?_⟩
  obtain ⟨q, _, rfl⟩ := List.mem_map.mp hp
  rfl
theorem get_dic_int (o : Tg) (f : α → T) (D : List (Str × α)) (n : Int) (z : T) : getT (dicT o f D) (.int n) z = some z := by
  simp [getT, dicT, fit_dic_int, lookT_int]
theorem isT_dic (o : Tg) (f : α → T) (D : List (Str × α)) (n : String) : isT n (dicT o f D) = some (.bl (n == "dict")) := by
  have : ((D.map (dP f)).all fun q => isK q.1) = true := by
    simp only [List.all_eq_true]
    intro p hp
    obtain ⟨q, _, rfl⟩ := List.mem_map.mp hp
    rfl
  simp [isT, dicT, this]
theorem lenT_dic (o : Tg) (f : α → T) (D : List (Str × α)) : lenT [dicT o f D] = some (.int D.length) := by
  have : ((D.map (dP f)).all fun q => isK q.1) = true := by
    simp only [List.all_eq_true]
    intro p hp
    obtain ⟨q, _, rfl⟩ := List.mem_map.mp hp
    rfl
  simp [lenT, dicT, this]
theorem isN_dic (o : Tg) (f : α → T) (D : List (Str × α)) : isN (dicT o f D) .non = some (.bl false) ∧ notN (dicT o f D) .non = some (.bl true) := ⟨rfl, rfl⟩
end
theorem zip_tup (lp : Bool) {α β : Type} {f : α → T} {g : β → T} (xs : List α) (ys : List β) (hx : T.vals (xs.map f) = true) (hy : T.vals (ys.map g) = true) :
    zipIt lp [.tup (xs.map f), .tup (ys.map g)] = some ((xs.zip ys).map fun p => .tup [f p.1, g p.2]) := by
  have e : zipIt lp [.tup (xs.map f), .tup (ys.map g)] = if T.hasL .brw (xs.map f) = true ∨ T.hasL .brw (ys.map g) = true then none else some (List.zipWith pairT (T.tags frze (xs.map f)) (T.tags frze (ys.map g))) := rfl
  rw [e, if_neg (by rw [hasL_vals hx, hasL_vals hy]; simp), tags_vals hx, tags_vals hy, List.zipWith_map]
  simp [List.zip, List.map_zipWith, pairT]
theorem vals_kT (ks : List Key) : T.vals (ks.map kT) = true := vals_iff.mpr fun t m => by
  obtain ⟨k, _, rfl⟩ := List.mem_map.mp m
  cases k <;> rfl
@[simp] theorem vals_kT' (ks : List Key) : T.vals (ks.map kT) = true := vals_kT ks
@[simp] theorem hasL_append (g : Tg) (xs ys : List T) : T.hasL g (xs ++ ys) = (T.hasL g xs || T.hasL g ys) := by
  induction xs with
  | nil => simp
  | cons x xs ih => simp [ih, Bool.or_assoc]
@[simp] theorem tags_append (f : Tg → Tg) (xs ys : List T) : T.tags f (xs ++ ys) = T.tags f xs ++ T.tags f ys := by
  induction xs with
  | nil => simp
  | cons x xs ih => simp [ih]
/-- pairs of a name or number and a number that go together -/
structure PairsOk (ps : List (Key × Int)) : Prop where
  int : ∀ p ∈ ps, ∀ n, p.1 = .inl n → n = p.2
  one : ps.Pairwise fun a b => a.1 = b.1 → a.2 = b.2
theorem PairsOk.take {ps qs : List (Key × Int)} (h : PairsOk (ps ++ qs)) : PairsOk ps :=
  ⟨fun p m => h.int p (by simp [m]), (List.pairwise_append.mp h.one).1⟩
theorem PairsOk.snoc {ps : List (Key × Int)} {x : Key × Int} (h : PairsOk ps) (a : ∀ n, x.1 = .inl n → n = x.2) (b : ∀ p ∈ ps, p.1 = x.1 → p.2 = x.2) : PairsOk (ps ++ [x]) :=
  ⟨fun p m => (List.mem_append.mp m).elim (h.int p) fun e => by rw [List.mem_singleton.mp e]; exact a, List.pairwise_append.mpr ⟨h.one, by simp, fun p m q e => by rw [List.mem_singleton.mp e]; exact b p m⟩⟩
theorem PairsOk.mid {ps qs : List (Key × Int)} {x : Key × Int} (h : PairsOk (ps ++ x :: qs)) : (∀ n, x.1 = .inl n → n = x.2) ∧ ∀ p ∈ ps, p.1 = x.1 → p.2 = x.2 :=
  ⟨h.int x (by simp), fun p m => (List.pairwise_append.mp h.one).2.2 p m x (by simp)⟩
theorem PairsOk.all {ps : List (Key × Int)} (h : PairsOk ps) {a b : Key × Int} (ha : a ∈ ps) (hb : b ∈ ps) (e : a.1 = b.1) : a.2 = b.2 := by
  have : ∀ {ps : List (Key × Int)}, ps.Pairwise (fun a b => a.1 = b.1 → a.2 = b.2) → ∀ {a b}, a ∈ ps → b ∈ ps → a.1 = b.1 → a.2 = b.2 := by
    intro ps
    induction ps with
    | nil => intro _ a b ha; simp at ha
    | cons p ps ih =>
      intro w a b ha hb e
      obtain ⟨w1, w2⟩ := List.pairwise_cons.mp w
      rcases List.mem_cons.mp ha with rfl | ha
      · rcases List.mem_cons.mp hb with rfl | hb
        · rfl
        · exact w1 b hb e
      · rcases List.mem_cons.mp hb with z | hb
        · subst z; exact (w1 a ‹a ∈ ps› e.symm).symm
        · exact ih w2 ha hb e
  exact this h.one ha hb e
end VS

namespace VS
open PySem PySem.Spec L2
open PyProof.Rows hiding St

/-! ### d.setdefault(k, []).append(e): a list that a dict owns -/
/-- what d.setdefault(y, z) tells and leaves -/
def SdX (H : Hp) (a : Addr) (y z : V) (Q : VK) : Prop :=
  (∃ (kvs : List (Key × V)) (k : Key), H a = some (.dK kvs) ∧ y = kV k ∧ kvs.length < sizeLine ∧ (∀ v, valV kvs k = some v → Q v H) ∧ (valV kvs k = none → Q z (upd H a (.dK (putK kvs k z))))) ∨
  (∃ (kvs : List (List Key × V)) (k : List Key) (b : Addr), H a = some (.dT kvs) ∧ y = .ref b ∧ H b = some (.tup (k.map kV)) ∧ kvs.length < sizeLine ∧ (∀ v, valV kvs k = some v → Q v H) ∧ (valV kvs k = none → Q z (upd H a (.dT (putK kvs k z))))) ∨
  ∃ (b : Addr) (k : List Key), H a = some (.dK []) ∧ y = .ref b ∧ H b = some (.tup (k.map kV)) ∧ Q z (upd H a (.dT [(k, z)]))
section
variable {X : Cx} {pins : List (Addr × Obj)} {σ : L2.St} {H : Hp} {s : Shared} {a : Addr} {y d : V} {u r : Value} {A : Around} {E : Value → Shared → Prop}
theorem t_setd {Q' : Value → Shared → Prop} {kvs : List (List Key × V)} {k : List Key} {b : Addr} (hu : A.units + 1 < cLine) (I : Inv X pins σ H s) (e : H a = some (.dT kvs)) (eb : H b = some (.tup (k.map kV))) (rd : RelV d r) (l : kvs.length < sizeLine)
    (h1 : ∀ v w' s', valV kvs k = some v → Inv X pins σ H s' → RelV v w' → Q' w' s') (h2 : ∀ s', valV kvs k = none → Inv X pins σ (upd H a (.dT (putK kvs k d))) s' → Q' r s') : wpAny (model X.prog X.w) A (PySem.call (.builtin "dict.setdefault") [.ref a, .ref b, r]) Q' E s := by
  obtain ⟨z, hd, xs, rel, dd⟩ := dt_of I.hok e
  have hz : xs.length ≤ sizeLine := by rw [← Paired.length rel]; exact z
  have len : (putK kvs k d).length ≤ sizeLine := by have := length_putK kvs k d; omega
  refine call_setdefault_heap (knd := tupleKind (mixKind X.prog X.w)) (hsz := hz) (tupleKind_room_in1 hu) (key_of I.hok eb) hd dd (fun p hp => ?_) fun hn h' dd' hs => ?_
  · have q := rel.val k
    rw [hp] at q
    cases q0 : valV kvs k with
    | none => rw [q0] at q; exact (show False from q).elim
    | some v => rw [q0] at q; exact h1 v _ _ q0 (I.tok _) q
  · have q := rel.val k
    rw [hn] at q
    cases q0 : valV kvs k with
    | some v => rw [q0] at q; exact (show False from q).elim
    | none =>
      obtain ⟨o, es, ep, g1, g2, g3, g4, _, g5⟩ := dd'
      refine h2 _ q0 (d_write I (by rw [e]; trivial) hs ⟨o, g1⟩ ⟨len, hd, _, (rel.put k eb rd).keeps fun c ys ec => ?_, o, es, ep, g1, g2, g3, g4, g5⟩)
      rw [upd_ne (ne_of ec e fun z => nomatch z)]; exact ec
theorem x_setd {Q : VK} {Q' : Value → Shared → Prop} (hu : A.units + 1 < cLine) (I : Inv X pins σ H s) (ry : RelV y u) (rd : RelV d r) (g : SdX H a y d Q) (h : ∀ v H' w' s', Q v H' → Inv X pins σ H' s' → RelV v w' → Q' w' s') :
    wpAny (model X.prog X.w) A (PySem.call (.builtin "dict.setdefault") [.ref a, u, r]) Q' E s := by
  rcases g with ⟨kvs, k, e, rfl, l, h1, h2⟩ | ⟨kvs, k, b, e, rfl, eb, l, h1, h2⟩ | ⟨b, k, e, rfl, eb, h2⟩
  · exact d_setd I e ry rd l (fun v q w' s' I' rv => h v _ w' s' (h1 v q) I' rv) fun q w' s' I' rv => h d _ w' s' (h2 q) I' rv
  · cases (show u = Value.ref b from ry)
    exact t_setd hu I e eb rd l (fun v w' s' q I' rv => h v _ w' s' (h1 v q) I' rv) fun s' q I' => h d _ r s' (h2 q) I' rd
  · cases (show u = Value.ref b from ry)
    refine t_setd (kvs := []) hu (redub I e) upd_same (by rw [upd_ne (ne_of eb e fun z => nomatch z)]; exact eb) rd (Nat.lt_of_lt_of_le Nat.zero_lt_one (sz1000 (by omega))) (fun v w' s' q => nomatch q) fun s' q I' => h d _ r s' h2 ?_ rd
    rw [upd_upd] at I'; exact I'
end
def tXSetd (td ty tx : TE) : TE := fun σ H Q => td σ H fun x H1 => ∃ a, x = .ref a ∧ IsD H1 a ∧ ty σ H1 fun y H2 => tx σ H2 fun z H3 => SdX H3 a y z Q
section
variable {X : Cx} {o e f : Expr} {apos cpos : Pos} {td ty tx : TE}
theorem pe_xsetd (hu : X.A.units + 1 < cLine) (ho : PE X o td) (he : PE X e ty) (hf : PE X f tx) (m : M2 X o "setdefault" apos e f cpos) : PE X (.Call (.Attribute o "setdefault" apos) [e, f] [] cpos) (tXSetd td ty tx) := by
  refine ⟨fun pins s σ H Q I h => wpAny_Call_method m.base m.few m.line PySem.F.plainAttrs_dict PySem.F.slot_dict_setdefault PySem.F.type_dict_setdefault (thn (ho.run pins s σ H _ I h) fun u s1 ⟨x, H1, I1, rx, a, ex, d, q1⟩ => ?_)⟩
  subst ex
  obtain rfl : u = Value.ref a := rx
  obtain ⟨t1, t2, _⟩ := isD_at I1 d
  refine ⟨t1, t2, ?_⟩
  rw [m.trees]
  refine Calls.callWith_builtin rfl (Calls.evalArgs_plain (Calls.spliced_cons (thn (he.run pins s1 σ H1 _ I1 q1) fun iv s2 ⟨y, H2, I2, ry, q2⟩ => Calls.spliced_cons (thn (hf.run pins s2 σ H2 _ I2 q2) fun fv s3 ⟨z, H3, I3, rz, g⟩ => Calls.spliced_nil ?_))))
  exact x_setd hu I3 ry rz g fun v H' w' s4 q I4 rw' => ⟨v, H', I4, rw', q⟩
end
/-! the trees -/
def lookE (es : List (T × V)) (k : T) : Option V := (es.find? fun p => decide (kOf p.1 = kOf k)).map (·.2)
theorem lookE_val {κ : Type} [DecidableEq κ] {em : κ → T} (he : ∀ a b : κ, kOf (em a) = kOf (em b) ↔ a = b) (k : κ) : ∀ ks : List (κ × V), lookE (ks.map fun p => (em p.1, p.2)) (em k) = valV ks k
  | [] => rfl
  | (k0, v0) :: ks => by
    have ih := lookE_val (em := em) he k ks
    unfold lookE at *
    rw [List.map_cons, List.find?_cons]
    by_cases q : k0 = k
    · subst q
      simp only [decide_true]
      symm; exact valV_pos rfl
    · have : decide (kOf (em k0) = kOf (em k)) = false := decide_eq_false fun z => q ((he _ _).mp z)
      rw [this]
      dsimp only
      rw [ih]; symm; exact valV_neg q
def apD : List (T × T) → T → T → Option (List (T × T))
  | [], _, _ => none
  | (kk, .lst .own ts) :: r, k, t => if kOf kk = kOf k then (if ts.length < sizeLine then some ((kk, .lst .own (ts ++ [t])) :: r) else none) else (apD r k t).map ((kk, .lst .own ts) :: ·)
  | (kk, v) :: r, k, t => if kOf kk = kOf k then none else (apD r k t).map ((kk, v) :: ·)
theorem apD_ne {kk v k t : T} {r : List (T × T)} (h : ¬ kOf kk = kOf k) : apD ((kk, v) :: r) k t = (apD r k t).map ((kk, v) :: ·) := by
  cases v with
  | lst g ts => cases g <;> exact if_neg h
  | _ => exact if_neg h
theorem apD_eq {kk v k t : T} {r r' : List (T × T)} (h : kOf kk = kOf k) (e : apD ((kk, v) :: r) k t = some r') : ∃ ts, v = .lst .own ts ∧ ts.length < sizeLine ∧ r' = (kk, .lst .own (ts ++ [t])) :: r := by
  cases v with
  | lst g ts =>
    cases g with
    | own =>
      simp only [apD, if_pos h] at e
      split at e
      · exact ⟨ts, rfl, by assumption, (Option.some.inj e).symm⟩
      · cases e
    | _ => simp [apD, h] at e
  | _ => simp [apD, h] at e
theorem repD_app {K : PySem.W.Frag} {H : Hp} {P : Al} {k t : T} : ∀ (kvs : List (T × T)) (es : List (T × V)) (G : List Addr) (kvs' : List (T × T)), RepD K H P kvs es G → G.Nodup → apD kvs k t = some kvs' → ∃ b vs, lookE es k = some (.ref b) ∧ H b = some (.lst vs) ∧ b ∈ G ∧ vs.length < sizeLine ∧
    ∀ (H1 : Hp) (P' : Al) (v : V) (F : List Addr), Ext H H1 → (∀ g c, g ≠ .own → H c ≠ none → P g c → P' g c ∧ ¬ c = b) → b ∉ F → Rep K (upd H1 b (.lst (vs ++ [v]))) P' t v F → ∃ G2, RepD K (upd H1 b (.lst (vs ++ [v]))) P' kvs' es G2 ∧ Le G2 (G ++ F)
  | [], _, _, _, _, _, e => by simp [apD] at e
  | (kk, u) :: r, _, _, kvs', ⟨v0, es, F1, F2, rfl, rfl, c, d⟩, nd, e => by
    obtain ⟨n1, n2, n3⟩ := List.nodup_append.mp nd
    by_cases q : kOf kk = kOf k
    · obtain ⟨ts, rfl, lt, rfl⟩ := apD_eq q e
      obtain ⟨b, vs, G1, rfl, l, fp, rr⟩ := c
      have l : H b = some (.lst vs) := l
      have fp : F1 = b :: G1 := fp
      subst fp
      obtain ⟨m1, m2⟩ := List.nodup_cons.mp n1
      refine ⟨b, vs, by unfold lookE; rw [List.find?_cons_of_pos (by simpa using q)]; rfl, l, by simp, by rw [← rr.length]; exact lt, fun H1 P' v F ex hP bF rt => ?_⟩
      have kp : Kp (fun a => a = b) H (upd H1 b (.lst (vs ++ [v]))) := ⟨fun a o h n => by rw [upd_ne n]; exact ex a o h, fun a xs w z => (by rw [w, l] at z; cases z), fun a ob x w z => (by rw [w, l] at z; cases z)⟩
      refine ⟨(b :: (G1 ++ F)) ++ F2, ⟨.ref b, es, b :: (G1 ++ F), F2, rfl, rfl, ⟨b, vs ++ [v], G1 ++ F, rfl, upd_same, rfl, (Reps.keep kp ts vs G1 (fun g a _ n d p => hP g a n d p) (fun a ha z => m1 (z ▸ ha)) rr).append ⟨v, [], F, [], rfl, by simp, rt, rfl, rfl⟩⟩, RepD.keep kp r es F2 (fun g a _ n d p => hP g a n d p) (fun a ha z => n3 b (by simp) a ha z.symm) d⟩, fun a => ?_⟩
      simp only [List.cons_append, List.count_cons, List.count_append]; omega
    · rw [apD_ne q] at e
      cases e2 : apD r k t with
      | none => rw [e2] at e; cases e
      | some r2 =>
        rw [e2] at e
        obtain rfl := Option.some.inj e
        obtain ⟨b, vs, h1, h2, h3, h4, h5⟩ := repD_app r es F2 r2 d n2 e2
        refine ⟨b, vs, by unfold lookE at *; rw [List.find?_cons_of_neg (by simpa using q)]; exact h1, h2, List.mem_append_right _ h3, h4, fun H1 P' v F ex hP bF rt => ?_⟩
        obtain ⟨G2, g1, g2⟩ := h5 H1 P' v F ex hP bF rt
        have kp : Kp (fun a => a = b) H (upd H1 b (.lst (vs ++ [v]))) := ⟨fun a o h n => by rw [upd_ne n]; exact ex a o h, fun a xs w z => (by rw [w, h2] at z; cases z), fun a ob x w z => (by rw [w, h2] at z; cases z)⟩
        refine ⟨F1 ++ G2, ⟨v0, es, F1, G2, rfl, rfl, Rep.keep kp u v0 F1 (fun g a _ n d p => hP g a n d p) (fun a ha z => n3 a ha b h3 z) c, g1⟩, ?_⟩
        rw [List.append_assoc]; exact (Le.refl F1).append g2
end VS

namespace VS
open PySem PySem.Spec L2
open PyProof.Rows hiding St

theorem look_same {K : PySem.W.Frag} {H : Hp} {P : Al} (k : T) : ∀ {kvs : List (T × T)} {es : List (T × V)} {G : List Addr}, RepD K H P kvs es G → (lookT kvs k).isSome = (lookE es k).isSome
  | [], _, _, ⟨e, _⟩ => by subst e; rfl
  | (kk, u) :: r, _, _, ⟨v, es, F1, F2, e, _, _, d⟩ => by
    subst e
    have ih := look_same k d
    unfold lookT lookE at *
    rw [List.find?_cons, List.find?_cons]
    by_cases q : kOf kk = kOf k
    · simp [q]
    · simp only [q, decide_false]; exact ih
theorem putK_new {κ : Type} [DecidableEq κ] {ks : List (κ × V)} {k : κ} {z : V} (h : valV ks k = none) : putK ks k z = ks ++ [(k, z)] := by
  unfold putK
  rw [if_neg]
  rw [valV_any, h]; simp
theorem DIs.uniq {o : HO} {e1 e2 : List (T × V)} (a : DIs o e1) (b : DIs o e2) : e1 = e2 := by
  rcases a with ⟨ks, rfl, _, rfl⟩ | ⟨ks, rfl, _, _, rfl⟩
  · rcases b with ⟨ls, e, _, rfl⟩ | ⟨ls, e, _⟩
    · cases e; rfl
    · cases e
  · rcases b with ⟨ls, e, _⟩ | ⟨ls, e, _, _, rfl⟩
    · cases e
    · cases e; rfl
/-- setdefault at a dict of trees -/
theorem sd_ok {K : PySem.W.Frag} {H : Hp} {P P' : Al} {a : Addr} {o : HO} {es : List (T × V)} {kvs : List (T × T)} {G Fk : List Addr} {k : T} {y z : V} {Q : VK} (ho : H a = some o) (d : DIs o es) (r : RepD K H P kvs es G) (ry : Rep K H P' k y Fk) (f : keyFit kvs k = true) (hl : kvs.length < sizeLine)
    (h1 : ∀ v, lookE es k = some v → Q v H) (h2 : lookE es k = none → ∀ o', DIs o' (es ++ [(k, z)]) → Q z (upd H a o')) : SdX H a y z Q := by
  have hk := repD_keys r
  have hlen : kvs.length = es.length := by have := congrArg List.length hk; simpa using this
  simp only [keyFit, Bool.or_eq_true, Bool.and_eq_true, List.all_eq_true] at f
  rcases f with ⟨f1, f2⟩ | ⟨f1, f2⟩
  · obtain ⟨key, rfl⟩ := isK_inv f1
    have hy := rep_kT ry
    subst hy
    rcases d with ⟨ks, rfl, nk, rfl⟩ | ⟨ks, rfl, ne, nk, rfl⟩
    · have lv := lookE_val kT_inj key ks
      rw [lv] at h1 h2
      refine .inl ⟨ks, key, ho, rfl, by rw [hlen] at hl; simpa using hl, h1, fun q => ?_⟩
      have nk2 := keys_put (k := key) (v := z) nk
      rw [putK_new q] at nk2 ⊢
      exact h2 q _ (.inl ⟨_, rfl, nk2, by simp⟩)
    · exfalso
      cases ks with
      | nil => exact ne rfl
      | cons p ks =>
        cases kvs with
        | nil => cases hk
        | cons q kvs =>
          simp only [List.map_cons, List.cons.injEq] at hk
          have := f2 q (by simp)
          rw [hk.1] at this
          simp [isK, kOf_tT] at this
  · obtain ⟨key, rfl⟩ := isKs_inv f1
    obtain ⟨b, rfl, hb⟩ := rep_tT ry
    rcases d with ⟨ks, rfl, nk, rfl⟩ | ⟨ks, rfl, ne, nk, rfl⟩
    · cases ks with
      | nil => exact .inr (.inr ⟨b, key, ho, rfl, hb, h2 rfl _ (.inr ⟨[(key, z)], rfl, by simp, by simp, rfl⟩)⟩)
      | cons p ks =>
        cases kvs with
        | nil => cases hk
        | cons q kvs =>
          exfalso
          simp only [List.map_cons, List.cons.injEq] at hk
          have := f2 q (by simp)
          rw [hk.1] at this
          simp [isKs, kOf_kT] at this
    · have lv := lookE_val tT_inj key ks
      rw [lv] at h1 h2
      refine .inr (.inl ⟨ks, key, b, ho, rfl, hb, by rw [hlen] at hl; simpa using hl, h1, fun q => ?_⟩)
      have nk2 := keys_put (k := key) (v := z) nk
      rw [putK_new q] at nk2 ⊢
      exact h2 q _ (.inr ⟨_, rfl, by simp, nk2, by simp⟩)
def sdA (i : Nat) (fk fe : FE) : FX := fun env => match env[i]? with
  | some (some (.dct .own kvs)) => (match fk env with
    | .ok k => if keyFit kvs k = true ∧ kvs.length < sizeLine then
        (match fe (env.set i (some (.dct .own (if (lookT kvs k).isSome = true then kvs else kvs ++ [(k, .lst .own [])])))) with
        | .ok t => if t.has .brw = false then (match apD (if (lookT kvs k).isSome = true then kvs else kvs ++ [(k, .lst .own [])]) k t with
          | some kvs2 => .ok (.non, env.set i (some (.dct .own kvs2)))
          | none => .bad) else .bad
        | _ => .bad) else .bad
    | .exc c => .exc c
    | .bad => .bad)
  | _ => .bad
section
variable {K : PySem.W.Frag} {ec : Nat → Addr} {W : WX} {B : Bx} {env : EnvT} {σ : L2.St} {H1 : Hp} {fp : Fps} {fe fk : FE} {Q : VK} {i : Nat}
/-- what is appended to a list that the dict at slot i owns -/
theorem app_tail {kvs kvs2 : List (T × T)} {es : List (T × V)} {G : List Addr} {a b : Addr} {o : HO} {k t : T} (s : Sta K B env σ H1 fp) (hi : i < env.length) (hv : σ[i]? = some (some (.ref a))) (ho : H1 a = some o) (d : DIs o es) (fpe : fp i = a :: G) (rD : RepD K H1 (Pm B.O B.C (Aw fp) Nz) kvs es G)
    (lk : lookE es k = some (.ref b)) (qe : fe env = .ok t) (hb : t.has .brw = false) (qa : apD kvs k t = some kvs2)
    (h : ∀ v H' fp' F, Sta K { B with O := fun a => B.O a ∨ a ∈ F } (env.set i (some (.dct .own kvs2))) σ H' fp' → Rep K H' (Pm B.O B.C (AF (Aw fp') F) (Aw fp')) .non v F → F.Nodup → (∀ a ∈ F, ¬ B.O a ∧ ¬ B.C a ∧ (B.H0 a = none ∨ B.F0 a)) → Q v H') :
    tyV K "list" (.ref b) H1 ∧ tD K ec W fe σ H1 (fun x H2 => rAppend (.ref b) [x] H2 Q) := by
  have ndG : (a :: G).Nodup := by rw [← fpe]; exact s.nd i
  obtain ⟨na, ng⟩ := List.nodup_cons.mp ndG
  obtain ⟨b', vs, h1, h2, h3, h4, h5⟩ := repD_app kvs es G kvs2 rD ng qa
  rw [lk] at h1
  cases h1
  refine ⟨.inl ⟨rfl, vs, SqL.of h2⟩, B, env, fp, s, ?_⟩
  rw [qe]
  intro x H2 F e2 rx nF fF
  have bA : b ∈ fp i := by rw [fpe]; exact List.mem_cons_of_mem _ h3
  have hA : Aw fp b := ⟨i, bA⟩
  have bF : b ∉ F := fun m => by have := fF b m; rw [h2] at this; cases this
  have ab : a ≠ b := fun z => na (z ▸ h3)
  have h2' : H2 b = some (.lst vs) := e2 _ _ h2
  refine ⟨b, vs, x, rfl, rfl, h2', h4, ?_⟩
  have kp := kp_upd (o' := .lst (vs ++ [x])) h2' (fun _ z => nomatch z) (fun _ _ z => nomatch z)
  obtain ⟨G2, g1, g2⟩ := h5 H2 (Pm B.O B.C (AF (Aw fp) F) Nz) x F e2 (fun g c n dd p => by
    have sub : ¬ Aw fp c → ¬ AF (Aw fp) F c := fun z y => y.elim z fun m => dd (fF c m)
    have nb : ¬ Aw fp c → ¬ c = b := fun z y => z (y ▸ hA)
    cases g with
    | own => exact absurd rfl n
    | shr => exact ⟨⟨p.1, sub p.2.1, p.2.2⟩, nb p.2.1⟩
    | prt => exact ⟨⟨p.1, sub p.2⟩, nb p.2⟩
    | brw => exact (show False from p).elim
    | fzn => exact ⟨⟨p.1, sub p.2⟩, nb p.2⟩) bF ((noBrw hb rx).past kp hA bF)
  have rn : Rep K (upd H2 b (.lst (vs ++ [x]))) (Pm B.O B.C (AF (Aw fp) F) Nz) (.dct .own kvs2) (.ref a) (a :: G2) := ⟨a, es, G2, rfl, ⟨o, by rw [upd_ne ab]; exact e2 _ _ ho, d⟩, rfl, g1⟩
  obtain ⟨st, rr, n3, n4⟩ := s.update (t' := .dct .own kvs2) (res := .non) (vr := .non) (Fr := []) e2 hi bA hv nF fF rn ⟨rfl, rfl⟩ (by
    rw [List.append_nil, fpe]
    intro c
    have := g2 c
    simp only [List.cons_append, List.count_cons, List.count_append] at *; omega)
  exact h .non _ _ [] st rr n3 n4
theorem sdA_post {H : Hp} (h : tX K ec W (sdA i fk fe) σ H Q) :
    ∃ v0, σ[i]? = some (some v0) ∧ ∃ a, v0 = .ref a ∧ IsD H a ∧ tD K ec W fk σ H fun y H2 => ([] : List V).length ≤ sizeLine ∧ ∀ p, H2 p = none → SdX (upd H2 p (.lst [])) a y (.ref p) fun v H1 => tyV K "list" v H1 ∧ tD K ec W fe σ H1 (fun x H2 => rAppend v [x] H2 Q) := by
  obtain ⟨B, env, fp, s, h⟩ := h
  unfold sdA at h
  split at h
  rotate_left
  · exact h.elim
  rename_i kvs ev
  obtain ⟨v0, hv0, rs⟩ := s.slot i _ ev
  obtain ⟨a, es, G, rfl, lo, fpe, rD⟩ := rs
  obtain ⟨o, ho, d⟩ : ∃ o, H a = some o ∧ DIs o es := lo
  have fpe : fp i = a :: G := fpe
  have hi : i < env.length := (List.getElem?_eq_some_iff.mp ev).1
  have isd : IsD H a := by
    rcases d with ⟨ks, rfl, _⟩ | ⟨ks, rfl, _⟩
    · exact .inl ⟨ks, .inl ho⟩
    · exact .inr ⟨ks, .inl ho⟩
  refine ⟨.ref a, hv0, a, rfl, isd, B, env, fp, s, ?_⟩
  cases qk : fk env with
  | exc c => rw [qk] at h; exact fun H' x => h H' fp (s.grow x)
  | bad => rw [qk] at h; exact h.elim
  | ok k =>
    rw [qk] at h
    dsimp only at h
    intro y H2 Fk e2 rk nk fk2
    refine ⟨Nat.zero_le _, fun p hp => ?_⟩
    by_cases cf : keyFit kvs k = true ∧ kvs.length < sizeLine
    rotate_left
    · rw [if_neg cf] at h; exact h.elim
    rw [if_pos cf] at h
    have e3 : Ext H (upd H2 p (.lst [])) := e2.trans (Ext.new hp)
    have hpH : H p = none := e2.none hp
    have ho3 := e3 _ _ ho
    have s3 := s.grow e3
    have rk3 := rk.ext (Ext.new (o := .lst []) hp)
    have rD3 : RepD K (upd H2 p (.lst [])) (Pm B.O B.C (Aw fp) Nz) kvs es G := RepD.keep e3.kp kvs es G (fun g a _ _ _ q => ⟨q, fun z => z⟩) (fun _ _ z => z) rD
    have ls := look_same k rD
    cases qe : fe (env.set i (some (.dct .own (if (lookT kvs k).isSome = true then kvs else kvs ++ [(k, .lst .own [])])))) with
    | exc c => rw [qe] at h; exact h.elim
    | bad => rw [qe] at h; exact h.elim
    | ok t =>
      rw [qe] at h
      dsimp only at h
      by_cases hb : t.has .brw = false
      rotate_left
      · rw [if_neg hb] at h; exact h.elim
      rw [if_pos hb] at h
      cases qa : apD (if (lookT kvs k).isSome = true then kvs else kvs ++ [(k, .lst .own [])]) k t with
      | none => rw [qa] at h; exact h.elim
      | some kvs2 =>
        rw [qa] at h
        dsimp only at h
        refine sd_ok ho3 d rD3 rk3 cf.1 cf.2 (fun v lv => ?_) fun ln o' d' => ?_
        · rw [lv] at ls
          have ls : (lookT kvs k).isSome = true := ls
          rw [if_pos ls] at qe qa
          rw [set_self ev] at qe
          obtain ⟨b, _, h1, _⟩ := repD_app kvs es G kvs2 rD (by have := s.nd i; rw [fpe] at this; exact (List.nodup_cons.mp this).2) qa
          rw [lv] at h1
          cases h1
          exact app_tail s3 hi hv0 ho3 d fpe rD3 lv qe hb qa h
        · rw [ln] at ls
          have ls : ¬ (lookT kvs k).isSome = true := by rw [ls]; simp
          rw [if_neg ls] at qe qa
          have hA : Aw fp a := ⟨i, by rw [fpe]; exact List.mem_cons_self⟩
          have aG : a ∉ G := by have := s.nd i; rw [fpe] at this; exact (List.nodup_cons.mp this).1
          have ap : a ≠ p := fun z => by rw [z, hpH] at ho; cases ho
          have pG : p ∉ G := fun m => by
            have := s.odom (a := p) ⟨i, by rw [fpe]; exact List.mem_cons_of_mem _ m⟩
            exact this hpH
          have nt : (∀ xs, o ≠ .tup xs) ∧ ∀ ob u, o ≠ .frz ob u := by
            rcases d with ⟨ks, rfl, _⟩ | ⟨ks, rfl, _⟩ <;> exact ⟨(fun _ z => nomatch z), (fun _ _ z => nomatch z)⟩
          have kp := kp_upd (o' := o') ho3 nt.1 nt.2
          have snoc : ∀ {P : Al} {Hx : Hp} {kvs : List (T × T)} {es : List (T × V)} {G : List Addr}, RepD K Hx P kvs es G → Hx p = some (.lst []) → RepD K Hx P (kvs ++ [(k, .lst .own [])]) (es ++ [(k, .ref p)]) (G ++ [p]) := by
            intro P Hx kvs
            induction kvs with
            | nil => rintro es G ⟨rfl, rfl⟩ hx; exact ⟨.ref p, [], [p], [], rfl, rfl, ⟨p, [], [], rfl, hx, rfl, rfl, rfl⟩, rfl, rfl⟩
            | cons q kvs ih =>
              obtain ⟨k0, t0⟩ := q
              rintro es G ⟨v, r, F1, F2, rfl, rfl, c, dd⟩ hx
              exact ⟨v, r ++ [(k, .ref p)], F1, F2 ++ [p], rfl, by rw [List.append_assoc], c, ih dd hx⟩
          have r4 : RepD K (upd (upd H2 p (.lst [])) a o') (Pm B.O B.C (AF (Aw fp) [p]) Nz) (kvs ++ [(k, .lst .own [])]) (es ++ [(k, .ref p)]) (G ++ [p]) := by
            refine snoc (RepD.past (RepD.keep e3.kp kvs es G (fun g c _ n dd q => ⟨?_, fun z => z⟩) (fun _ _ z => z) rD) kp hA aG) (by rw [upd_ne (Ne.symm ap)]; exact upd_same)
            have sub : ¬ Aw fp c → ¬ AF (Aw fp) [p] c := fun z y => y.elim z fun m => dd (by rw [List.mem_singleton.mp m]; exact hpH)
            cases g with
            | own => exact absurd rfl n
            | shr => exact ⟨q.1, sub q.2.1, q.2.2⟩
            | prt => exact ⟨q.1, sub q.2⟩
            | brw => exact (show False from q).elim
            | fzn => exact ⟨q.1, sub q.2⟩
          have r5 : Rep K (upd (upd H2 p (.lst [])) a o') (Pm B.O B.C (AF (Aw fp) [p]) Nz) (.dct .own (kvs ++ [(k, .lst .own [])])) (.ref a) (a :: (G ++ [p])) := ⟨a, _, _, rfl, ⟨o', upd_same, d'⟩, rfl, r4⟩
          obtain ⟨st, _⟩ := s.update (t' := .dct .own (kvs ++ [(k, .lst .own [])])) (res := .non) (vr := .non) (F := [p]) (Fr := []) e3 hi (by rw [fpe]; exact List.mem_cons_self) hv0 (by simp) (by simpa using hpH) r5 ⟨rfl, rfl⟩ (by rw [List.append_nil, fpe]; exact Le.refl _)
          have st2 : Sta K B _ σ _ _ := st.unhide fun _ z => .inl z
          obtain ⟨v', hv', rs'⟩ := st2.slot i _ (List.getElem?_set_self hi)
          obtain ⟨a', es', G', ea', lo', fpe', rD'⟩ := rs'
          rw [hv0] at hv'
          cases hv'
          cases ea'
          obtain ⟨o2, eo2, d2⟩ : ∃ o, upd (upd H2 p (.lst [])) a o' a = some o ∧ DIs o es' := lo'
          rw [upd_same] at eo2
          cases eo2
          obtain rfl := DIs.uniq d2 d'
          have ll : lookE (es ++ [(k, .ref p)]) k = some (.ref p) := by
            unfold lookE at ln ⊢
            rw [Option.map_eq_none_iff] at ln
            rw [List.find?_append, ln]
            simp
          refine app_tail st2 (by simpa using hi) hv0 upd_same d' fpe' rD' ll qe hb qa fun v H' fp' F s' r n f => h v H' fp' F ?_ r n f
          rw [List.set_set] at s'; exact s'
end
section
variable {X : Cx} {ec : Nat → Addr} {W : WX} {k e : Expr} {fk fe : FE} {pos pos2 xp lp ap ap2 : Pos} {x : Str}
theorem DX.setdApp (i : Nat) (hu : X.A.units + 1 < cLine) (hk : DE X ec W k fk) (he : DE X ec W e fe) (hN : X.N[i]? = some x := by rfl) (hv : Vis X.env.scope x := by first | exact Or.inl rfl | exact Or.inr (Or.inl rfl) | exact Or.inr (Or.inr rfl)) (hd : (x == ("__debug__" : Str)) = false := by decide) (hcd : (x == ("__classdict__" : Str)) = false := by decide)
    (m : M2 X (.Name x xp) "setdefault" ap k (.List [] lp) pos := by exact ⟨rfl, rfl, rfl, rfl⟩)
    (hbase : attributeBase (.Call (.Attribute (.Name x xp) "setdefault" ap) [k, .List [] lp] [] pos) "append" X.env (eval (.Call (.Attribute (.Name x xp) "setdefault" ap) [k, .List [] lp] [] pos) X.env) = eval (.Call (.Attribute (.Name x xp) "setdefault" ap) [k, .List [] lp] [] pos) X.env := by rfl)
    (hfew : ((backTo pos2 (starEach [e] X.env)).all (fun x => !x.1) && (backToKw pos2 (keywordEach [] X.env)).all (fun x => x.1.isSome)
      && decide (([e] : List Expr).length + ([] : List Keyword).length + (if ([] : List Keyword).isEmpty then 0 else 1) < 30)) = true := by rfl)
    (hline : (ap2.endLine == pos2.line) = true := by rfl) (hs : starEach [e] X.env = (false, eval e X.env) :: starEach [] X.env := by rfl) (hplain : (backTo pos2 (starEach [] X.env)).any (·.1) = false := by rfl) :
    DX X ec W (.Call (.Attribute (.Call (.Attribute (.Name x xp) "setdefault" ap) [k, .List [] lp] [] pos) "append" ap2) [e] [] pos2) (sdA i fk fe) :=
  ⟨pe_mono (pe_bm PySem.F.plainAttrs_list PySem.F.slot_list_append PySem.F.type_list_append mt_append (pe_xsetd hu (pe_var (i := i) hN hv hd hcd) hk.run (pe_lst pa_nil) m) (pa_cons he.run pa_nil hs) hbase hfew hline hs hplain) fun σ H Q h => by
    obtain ⟨v0, hv0, a, ea, isd, hh⟩ := sdA_post h
    exact ⟨v0, hv0, a, ea, isd, hh⟩⟩
end
end VS

namespace VS
open PySem PySem.Spec L2
open PyProof.Rows hiding St

/-! ### a dict is locked while a loop reads it -/
def isDk : HO → Prop
  | .dK _ => True
  | .dT _ => True
  | _ => False
theorem DIs.isDk {o : HO} {es : List (T × V)} (d : DIs o es) : isDk o := by
  rcases d with ⟨ks, rfl, _⟩ | ⟨ks, rfl, _⟩ <;> exact True.intro
theorem isDk.mut {u : HO} (h : isDk u) : Mut (some u) := by
  cases u <;> first | exact True.intro | exact h.elim
section
variable {K : PySem.W.Frag} {H : Hp} {P : Al} {d : Addr} {u : HO} {od : Obj}
theorem LAt.frzD (hd : H d = some u) (hu : isDk u) {g : Tg} {a : Addr} {vs : List V} (r : LAt K H P g a vs) : LAt K (upd H d (.frz od u)) P g a vs := by
  have h1 : ∀ {o}, H a = some o → (∀ z, o = z → ¬ isDk z) → upd H d (.frz od u) a = some o := fun {o} e n => by
    rw [upd_ne (fun z => by rw [z, hd] at e; exact n u (Option.some.inj e).symm hu)]; exact e
  have nl : ∀ z, (HO.lst vs) = z → ¬ isDk z := fun z e => by subst e; exact id
  cases g with
  | own => exact h1 r nl
  | shr => exact ⟨h1 r.1 nl, r.2⟩
  | prt => exact ⟨h1 r.1 nl, r.2⟩
  | brw => exact ⟨h1 r.1 nl, r.2⟩
  | fzn =>
    rcases (show FzL K H a vs from r) with ⟨ob, q⟩ | q
    · exact .inl ⟨ob, h1 q (fun z e => by subst e; exact id)⟩
    · exact .inr q
theorem DAt.frzD (hd : H d = some u) (hu : isDk u) (hP : ∀ a, ¬ P .brw a) {g : Tg} {a : Addr} {es : List (T × V)} (hn : g = .own → a ≠ d) (r : DAt H P g a es) : DAt (upd H d (.frz od u)) P g a es := by
  have hR : ∀ {o}, Rd H a o → Rd (upd H d (.frz od u)) a o := fun {o} q => by
    by_cases c : a = d
    · subst c
      rcases q with q | ⟨ob, q⟩
      · rw [hd] at q; cases q; exact .inr ⟨od, upd_same⟩
      · rw [hd] at q; cases q; exact hu.elim
    · rcases q with q | ⟨ob, q⟩
      · exact .inl (by rw [upd_ne c]; exact q)
      · exact .inr ⟨ob, by rw [upd_ne c]; exact q⟩
  cases g with
  | own => obtain ⟨o, e, x⟩ := r; exact ⟨o, by rw [upd_ne (hn rfl)]; exact e, x⟩
  | shr => obtain ⟨⟨o, e, x⟩, p⟩ := r; exact ⟨⟨o, hR e, x⟩, p⟩
  | prt => obtain ⟨⟨o, e, x⟩, p⟩ := r; exact ⟨⟨o, hR e, x⟩, p⟩
  | brw => exact absurd r.2 (hP a)
  | fzn => exact r.elim
theorem LAt.unfD (hd : H d = some (.frz od u)) (hu : isDk u) {g : Tg} {a : Addr} {vs : List V} (r : LAt K H P g a vs) : LAt K (upd H d u) P g a vs := by
  have h1 : ∀ {o}, H a = some o → (∀ ob z, o = .frz ob z → ¬ isDk z) → upd H d u a = some o := fun {o} e n => by
    rw [upd_ne (fun z => by rw [z, hd] at e; exact n od u (Option.some.inj e).symm hu)]; exact e
  have nl : ∀ ob z, (HO.lst vs) = .frz ob z → ¬ isDk z := fun ob z e => by cases e
  cases g with
  | own => exact h1 r nl
  | shr => exact ⟨h1 r.1 nl, r.2⟩
  | prt => exact ⟨h1 r.1 nl, r.2⟩
  | brw => exact ⟨h1 r.1 nl, r.2⟩
  | fzn =>
    rcases (show FzL K H a vs from r) with ⟨ob, q⟩ | q
    · exact .inl ⟨ob, h1 q (fun ob z e => by cases e; exact id)⟩
    · exact .inr q
theorem DAt.unfD (hd : H d = some (.frz od u)) (hu : isDk u) {g : Tg} {a : Addr} {es : List (T × V)} (r : DAt H P g a es) : DAt (upd H d u) P g a es := by
  have h1 : ∀ {o}, H a = some o → DIs o es → upd H d u a = some o := fun {o} e x => by
    rw [upd_ne (fun z => by rw [z, hd] at e; cases e; exact x.isDk)]; exact e
  have hR : ∀ {o}, Rd H a o → DIs o es → Rd (upd H d u) a o := fun {o} q x => by
    rcases q with q | ⟨ob, q⟩
    · exact .inl (h1 q x)
    · by_cases c : a = d
      · subst c; rw [hd] at q; cases q; exact .inl upd_same
      · exact .inr ⟨ob, by rw [upd_ne c]; exact q⟩
  cases g with
  | own => obtain ⟨o, e, x⟩ := r; exact ⟨o, h1 e x, x⟩
  | shr => obtain ⟨⟨o, e, x⟩, p⟩ := r; exact ⟨⟨o, hR e x, x⟩, p⟩
  | prt => obtain ⟨⟨o, e, x⟩, p⟩ := r; exact ⟨⟨o, hR e x, x⟩, p⟩
  | brw => obtain ⟨⟨o, e, x⟩, p⟩ := r; exact ⟨⟨o, h1 e x, x⟩, p⟩
  | fzn => exact r.elim
mutual
theorem Rep.frzD (hd : H d = some u) (hu : isDk u) (hP : ∀ a, ¬ P .brw a) : ∀ (t : T) (v : V) (F : List Addr), d ∉ F → Rep K H P t v F → Rep K (upd H d (.frz od u)) P t v F
  | .non, _, _, _, x => x
  | .bl _, _, _, _, x => x
  | .int _, _, _, _, x => x
  | .str _, _, _, _, x => x
  | .tup ts, v, F, n, ⟨a, vs, e, l, r⟩ => ⟨a, vs, e, by rw [upd_ne (fun z => by rw [z, hd] at l; cases l; exact hu)]; exact l, Reps.frzD hd hu hP ts vs F n r⟩
  | .tupN ts, v, F, n, ⟨a, vs, e, ⟨ob, l, q⟩, r⟩ => ⟨a, vs, e, ⟨ob, by rw [upd_ne (fun z => by rw [z, hd] at l; cases l; exact hu)]; exact l, q⟩, Reps.frzD hd hu hP ts vs F n r⟩
  | .lst g ts, v, F, n, ⟨a, vs, G, e, l, p, r⟩ => ⟨a, vs, G, e, l.frzD hd hu, p, Reps.frzD hd hu hP ts vs G (fun m => n (p.sub d m)) r⟩
  | .dct g kvs, v, F, n, ⟨a, es, G, e, l, p, r⟩ => ⟨a, es, G, e, l.frzD hd hu hP (fun z => by subst z; have q : F = a :: G := p; subst q; exact fun z => n (by simp [z])), p, RepD.frzD hd hu hP kvs es G (fun m => n (p.sub d m)) r⟩
theorem Reps.frzD (hd : H d = some u) (hu : isDk u) (hP : ∀ a, ¬ P .brw a) : ∀ (t : List T) (v : List V) (F : List Addr), d ∉ F → Reps K H P t v F → Reps K (upd H d (.frz od u)) P t v F
  | [], _, _, _, x => x
  | t :: ts, v, F, n, ⟨x, r, F1, F2, e, e', c, q⟩ => ⟨x, r, F1, F2, e, e', Rep.frzD hd hu hP t x F1 (fun m => n (by rw [e']; exact List.mem_append_left _ m)) c, Reps.frzD hd hu hP ts r F2 (fun m => n (by rw [e']; exact List.mem_append_right _ m)) q⟩
theorem RepD.frzD (hd : H d = some u) (hu : isDk u) (hP : ∀ a, ¬ P .brw a) : ∀ (t : List (T × T)) (v : List (T × V)) (F : List Addr), d ∉ F → RepD K H P t v F → RepD K (upd H d (.frz od u)) P t v F
  | [], _, _, _, x => x
  | (k, t) :: ts, v, F, n, ⟨x, r, F1, F2, e, e', c, q⟩ => ⟨x, r, F1, F2, e, e', Rep.frzD hd hu hP t x F1 (fun m => n (by rw [e']; exact List.mem_append_left _ m)) c, RepD.frzD hd hu hP ts r F2 (fun m => n (by rw [e']; exact List.mem_append_right _ m)) q⟩
end
mutual
theorem Rep.unfD (hd : H d = some (.frz od u)) (hu : isDk u) : ∀ (t : T) (v : V) (F : List Addr), Rep K H P t v F → Rep K (upd H d u) P t v F
  | .non, _, _, x => x
  | .bl _, _, _, x => x
  | .int _, _, _, x => x
  | .str _, _, _, x => x
  | .tup ts, v, F, ⟨a, vs, e, l, r⟩ => ⟨a, vs, e, by rw [upd_ne (fun z => by rw [z, hd] at l; cases l)]; exact l, Reps.unfD hd hu ts vs F r⟩
  | .tupN ts, v, F, ⟨a, vs, e, ⟨ob, l, q⟩, r⟩ => ⟨a, vs, e, ⟨ob, by rw [upd_ne (fun z => by rw [z, hd] at l; cases l; exact hu)]; exact l, q⟩, Reps.unfD hd hu ts vs F r⟩
  | .lst g ts, v, F, ⟨a, vs, G, e, l, p, r⟩ => ⟨a, vs, G, e, l.unfD hd hu, p, Reps.unfD hd hu ts vs G r⟩
  | .dct g kvs, v, F, ⟨a, es, G, e, l, p, r⟩ => ⟨a, es, G, e, l.unfD hd hu, p, RepD.unfD hd hu kvs es G r⟩
theorem Reps.unfD (hd : H d = some (.frz od u)) (hu : isDk u) : ∀ (t : List T) (v : List V) (F : List Addr), Reps K H P t v F → Reps K (upd H d u) P t v F
  | [], _, _, x => x
  | t :: ts, v, F, ⟨x, r, F1, F2, e, e', c, q⟩ => ⟨x, r, F1, F2, e, e', Rep.unfD hd hu t x F1 c, Reps.unfD hd hu ts r F2 q⟩
theorem RepD.unfD (hd : H d = some (.frz od u)) (hu : isDk u) : ∀ (t : List (T × T)) (v : List (T × V)) (F : List Addr), RepD K H P t v F → RepD K (upd H d u) P t v F
  | [], _, _, x => x
  | (k, t) :: ts, v, F, ⟨x, r, F1, F2, e, e', c, q⟩ => ⟨x, r, F1, F2, e, e', Rep.unfD hd hu t x F1 c, RepD.unfD hd hu ts r F2 q⟩
end
theorem upd_dom {a : Addr} {o : HO} (h : H a ≠ none) : upd H d o a ≠ none := by
  by_cases c : a = d
  · rw [c, upd_same]; simp
  · rw [upd_ne c]; exact h
end
section
variable {K : PySem.W.Frag} {B : Bx} {env : EnvT} {σ : L2.St} {H : Hp} {fp : Fps} {d : Addr} {u : HO} {od : Obj}
theorem Sta.lock (s : Sta K B env σ H fp) (hd : H d = some u) (hu : isDk u) (nA : ¬ Aw fp d) : Sta K { B with H0 := upd H d (.frz od u), F0 := Aw fp } env σ (upd H d (.frz od u)) fp :=
  ⟨s.len, fun i t e => let ⟨v, a, r⟩ := s.slot i t e; ⟨v, a, Rep.frzD hd hu (fun _ z => z) t v (fp i) (fun m => nA ⟨i, m⟩) r⟩, s.emp, s.nd, s.dj, fun a o e _ => e, fun i a ha => .inr ⟨i, ha⟩, fun a z => upd_dom (s.dom a z), s.dis⟩
theorem Sta.locked (s : Sta K B env σ H fp) (nA : ¬ Aw fp d) {env4 : EnvT} {σ4 : L2.St} {H4 : Hp} {fp4 : Fps} (s4 : Sta K { B with H0 := upd H d (.frz od u), F0 := Aw fp } env4 σ4 H4 fp4) : H4 d = some (.frz od u) :=
  s4.ext d _ upd_same nA
theorem ext_unlock (s : Sta K B env σ H fp) (hd : H d = some u) {H4 : Hp} (x : ∀ a o, upd H d (.frz od u) a = some o → ¬ Aw fp a → H4 a = some o) (a : Addr) (o : HO) (e : B.H0 a = some o) (n : ¬ B.F0 a) : upd H4 d u a = some o := by
  have q := s.ext a o e n
  by_cases c : a = d
  · subst c; rw [upd_same, ← hd, q]
  · rw [upd_ne c]
    refine x a o (by rw [upd_ne c]; exact q) fun ⟨j, hj⟩ => ?_
    rcases s.own j a hj with z | z
    · rw [e] at z; cases z
    · exact n z
theorem fr_unlock (s : Sta K B env σ H fp) (hd : H d = some u) {a : Addr} (z : upd H d (.frz od u) a = none ∨ Aw fp a) : B.H0 a = none ∨ B.F0 a := by
  rcases z with z | ⟨j, z⟩
  · by_cases c : B.F0 a
    · exact .inr c
    · cases e : B.H0 a with
      | none => exact .inl rfl
      | some o =>
        have q := s.ext a o e c
        by_cases h : a = d
        · rw [h, upd_same] at z; cases z
        · rw [upd_ne h, q] at z; cases z
  · exact s.own j a z
theorem Sta.unlock (s : Sta K B env σ H fp) (hd : H d = some u) (hu : isDk u) (nA : ¬ Aw fp d) {env4 : EnvT} {σ4 : L2.St} {H4 : Hp} {fp4 : Fps} (s4 : Sta K { B with H0 := upd H d (.frz od u), F0 := Aw fp } env4 σ4 H4 fp4) : Sta K B env4 σ4 (upd H4 d u) fp4 :=
  ⟨s4.len, fun i t e => let ⟨v, a, r⟩ := s4.slot i t e; ⟨v, a, Rep.unfD (s.locked nA s4) hu t v (fp4 i) r⟩, s4.emp, s4.nd, s4.dj, ext_unlock s hd s4.ext, fun i a ha => fr_unlock s hd (s4.own i a ha), fun a z => upd_dom (s4.dom a z), s4.dis⟩
theorem RetOk.locked {t : T} {v : V} {H4 : Hp} {F : List Addr} (nA : ¬ Aw fp d) (r : RetOk K { B with H0 := upd H d (.frz od u), F0 := Aw fp } t v H4 F) : H4 d = some (.frz od u) := r.ext d _ upd_same nA
theorem RetOk.unlock (s : Sta K B env σ H fp) (hd : H d = some u) (hu : isDk u) (nA : ¬ Aw fp d) {t : T} {v : V} {H4 : Hp} {F : List Addr} (r : RetOk K { B with H0 := upd H d (.frz od u), F0 := Aw fp } t v H4 F) : RetOk K B t v (upd H4 d u) F :=
  ⟨Rep.unfD (r.locked nA) hu t v F r.rep, r.nd, fun a ha => fr_unlock s hd (r.fr a ha), ext_unlock s hd r.ext⟩
end
def noExc : Out → Out
  | .exc _ _ => .bad
  | o => o
def lockD (D : Ends) (d : Addr) (od : Obj) (u : HO) : Ends := ⟨fun σ' H' => H' d = some (.frz od u) ∧ D.nx σ' (upd H' d u), fun v H' => H' d = some (.frz od u) ∧ D.rt v (upd H' d u), fun σ' H' => H' d = some (.frz od u) ∧ D.bk σ' (upd H' d u), fun σ' H' => H' d = some (.frz od u) ∧ D.ct σ' (upd H' d u)⟩
theorem PostS.lock {K : PySem.W.Frag} {ec : Nat → Addr} {W : WX} {B : Bx} {D : Ends} {env : EnvT} {σ : L2.St} {H : Hp} {fp : Fps} {d : Addr} {u : HO} {od : Obj} (s : Sta K B env σ H fp) (hd : H d = some u) (hu : isDk u) (nA : ¬ Aw fp d) {o : Out} (p : PostS K ec W B D (noExc o)) :
    PostS K ec W { B with H0 := upd H d (.frz od u), F0 := Aw fp } (lockD D d od u) o := by
  cases o with
  | nx e => exact fun σ' H' fp' s' => ⟨s.locked nA s', p σ' _ fp' (s.unlock hd hu nA s')⟩
  | bk e => exact fun σ' H' fp' s' => ⟨s.locked nA s', p σ' _ fp' (s.unlock hd hu nA s')⟩
  | ct e => exact fun σ' H' fp' s' => ⟨s.locked nA s', p σ' _ fp' (s.unlock hd hu nA s')⟩
  | rt t => exact fun v H' F r => ⟨r.locked nA, p v _ F (r.unlock s hd hu nA)⟩
  | exc c e => exact p.elim
  | bad => exact p.elim
theorem PostS.noExc {K : PySem.W.Frag} {ec : Nat → Addr} {W : WX} {B : Bx} {D : Ends} {o : Out} (p : PostS K ec W B D (noExc o)) : PostS K ec W B D o := by
  cases o <;> first | exact p | exact p.elim
end VS

namespace VS
open PySem PySem.Spec L2
open PyProof.Rows hiding St

/-! ### for over a dict -/
section
variable {X : Cx} {ec : Nat → Addr} {W : WX} {is : List Nat} {g : T → EnvT → Option EnvT} {body : List Stmt} {fb : FS}
theorem for_tail {J : It} {H1 : Hp} {σ : L2.St} {its : List T} {B : Bx} {D : Ends} {env : EnvT} {fp : Fps} (s1 : Sta X.K B env σ H1 fp) (it : ItOk X.K J H1 (fun a => true = true ∧ Aw fp a) B.O B.C (Aw fp) its) (p : PostS X.K ec W B D (loopS g fb its env)) :
    ∃ W' : Nat → Nat → L2.St → Hp → Prop, (∃ m, W' 0 m σ H1) ∧ ∀ i m σ H, W' i m σ H →
      (J.stop i H ∧ D.nx σ H) ∨ (J.go i H ∧ ∃ N : L2.St → Hp → Prop, (∀ σ' H', N σ' H' → ∃ m', m' < m ∧ W' (i + 1) m' σ' H') ∧ ∀ x H', J.yld i H x H' → tG X.K is g x σ H' fun σ2 H2 => tS X.K ec W fb { D with nx := N, ct := N, bk := D.nx } σ2 H2) := by
  have s1l := s1.local_
  refine ⟨fun i m σ' H' => m = its.length - i ∧ i ≤ its.length ∧ ∃ env' fp', Sta X.K { B with H0 := H1, F0 := Aw fp } env' σ' H' fp' ∧ PostS X.K ec W B D (loopS g fb (its.drop i) env'), ⟨_, rfl, Nat.zero_le _, env, fp, s1l, by simpa using p⟩, ?_⟩
  clear p
  rintro i m σ' H' ⟨rfl, hi, env', fp', s', p⟩
  have ok := it i H' (fun a o e n => s'.ext a o e (fun z => n ⟨rfl, z⟩))
  by_cases c : i < its.length
  · right
    obtain ⟨go, yl⟩ := ok.1 c
    refine ⟨go, fun σ2 H2 => ∃ env2 fp2, Sta X.K { B with H0 := H1, F0 := Aw fp } env2 σ2 H2 fp2 ∧ PostS X.K ec W B D (loopS g fb (its.drop (i + 1)) env2), fun σ2 H2 ⟨env2, fp2, s2, p2⟩ => ⟨its.length - (i + 1), by omega, rfl, by omega, env2, fp2, s2, p2⟩, ?_⟩
    intro x H2 y
    obtain ⟨e2, t, ht, r⟩ := yl x H2 y
    have hd : its.drop i = t :: its.drop (i + 1) := by
      obtain ⟨hlt, e⟩ := List.getElem?_eq_some_iff.mp ht
      rw [List.drop_eq_getElem_cons hlt, e]
    rw [hd] at p
    unfold loopS at p
    have s2 := s'.grow e2
    refine ⟨{ B with H0 := H1, F0 := Aw fp }, env', fp', t, [], s2.unhide (O' := B.O) (B := { B with H0 := H1, F0 := Aw fp, O := fun a => B.O a ∨ a ∈ [] }) (fun a z => z.elim id (by simp)), r.mono (Ext.refl _) (fun g a _ n d p => ?_), List.nodup_nil, by simp, ?_⟩
    · have nA : H1 a ≠ none → ¬ Aw fp a → ¬ AF (Aw fp') [] a := fun d n z => by
        rcases AF.nil _ z with ⟨j, hj⟩
        rcases s'.own j a hj with z | z
        · exact d z
        · exact n z
      have dd := p.2 n
      have p := p.1
      cases g with
      | own => trivial
      | shr => exact ⟨p.1, nA dd p.2.1, p.2.2⟩
      | prt => exact ⟨p.1, nA dd p.2⟩
      | brw => exact p
      | fzn => exact ⟨p.1, nA dd p.2⟩
    · cases q2 : g t env' with
      | none => rw [q2] at p; exact p.elim
      | some ea =>
        rw [q2] at p
        intro σ3 fp3 s3 _
        refine ⟨{ B with H0 := H1, F0 := Aw fp }, ea, fp3, s3, ?_⟩
        dsimp only at p
        cases q3 : fb ea with
        | nx e3 => rw [q3] at p; exact fun σ4 H4 fp4 s4 => ⟨e3, fp4, s4, p⟩
        | ct e3 => rw [q3] at p; exact fun σ4 H4 fp4 s4 => ⟨e3, fp4, s4, p⟩
        | bk e3 => rw [q3] at p; exact fun σ4 H4 fp4 s4 => p σ4 H4 fp4 (s1.back s4)
        | rt t => rw [q3] at p; exact fun v H4 F r => p v H4 F (RetOk.back s1 r)
        | exc c e3 => rw [q3] at p; exact fun σ4 H4 fp4 s4 => p σ4 H4 fp4 (s1.back s4)
        | bad => rw [q3] at p; exact p.elim
  · left
    refine ⟨ok.2 (by omega), ?_⟩
    rw [List.drop_eq_nil_of_le (by omega)] at p
    exact p σ' H' fp' (s1.back s')
end
/-- what is handed out, turn by turn: 0 the keys, 1 the values, 2 the pairs -/
def kindI : Nat → List (T × T) → List T
  | 0, kvs => kvs.map (·.1)
  | 1, kvs => kvs.map (·.2)
  | _, kvs => kvs.map fun p => .tup [p.1, p.2]
def forD (i kind : Nat) (g : T → EnvT → Option EnvT) (fb : FS) : FS := fun env => match env[i]? with
  | some (some (.dct tg kvs)) => if tg = .own ∨ (kind = 2 ∧ (kvs.all fun q => isK q.1) = false) then .bad else noExc (loopS g fb (kindI kind kvs) env)
  | _ => .bad
section
variable {K : PySem.W.Frag} {H Hc : Hp} {O C A Z : Addr → Prop}
theorem val_stand {t : T} {v : V} (r : Rep K H (Pm O C A Nz) t v []) (hm : ∀ a, A a → ∃ o, H a = some o ∧ (∀ xs, o ≠ .tup xs) ∧ ∀ ob u, o ≠ .frz ob u) (hz : ∀ a, Z a → A a) (k : ∀ a o, H a = some o → ¬ Z a → Hc a = some o) :
    Rep K Hc (fun g a => Pm O C A Nz g a ∧ (g ≠ .own → H a ≠ none)) t v [] := by
  refine Rep.keep (W := Z) ⟨k, fun a xs z q => ?_, fun a ob u z q => ?_⟩ t v [] (fun g a _ n d p => ⟨⟨p, fun _ => d⟩, fun z => ?_⟩) (by simp) r
  · obtain ⟨o, e, h1, _⟩ := hm a (hz a z); rw [e] at q; exact h1 xs (Option.some.inj q)
  · obtain ⟨o, e, _, h2⟩ := hm a (hz a z); rw [e] at q; exact h2 ob u (Option.some.inj q)
  · have := hz a z
    cases g with
    | own => exact n rfl
    | shr => exact p.2.1 this
    | prt => exact p.2 this
    | brw => exact p
    | fzn => exact p.2 this
theorem RepD.at {P : Al} : ∀ {kvs : List (T × T)} {es : List (T × V)} {i : Nat} {k : T} {v : V}, RepD K H P kvs es [] → es[i]? = some (k, v) → ∃ t, kvs[i]? = some (k, t) ∧ Rep K H P t v []
  | [], _, i, k, v, ⟨e, _⟩, h => by rw [e] at h; simp at h
  | (k0, t) :: ts, _, i, k, v, ⟨x, r, F1, F2, e, e', c, d⟩, h => by
    obtain ⟨rfl, rfl⟩ : F1 = [] ∧ F2 = [] := by simpa using e'.symm
    subst e
    cases i with
    | zero => simp at h; obtain ⟨rfl, rfl⟩ := h; exact ⟨t, rfl, c⟩
    | succ i => obtain ⟨t', h1, h2⟩ := RepD.at (i := i) d (by simpa using h); exact ⟨t', by simpa using h1, h2⟩
theorem RepD.len {P : Al} : ∀ {kvs : List (T × T)} {es : List (T × V)} {F : List Addr}, RepD K H P kvs es F → kvs.length = es.length
  | [], _, _, ⟨e, _⟩ => by rw [e]; rfl
  | (k0, t) :: ts, _, _, ⟨x, r, F1, F2, e, e', c, d⟩ => by rw [e]; simp [RepD.len d]
theorem rep_ofK {P : Al} : ∀ k : Key, Rep K H P (kT k) (kV k) []
  | .inl _ => ⟨rfl, rfl⟩
  | .inr _ => ⟨rfl, rfl⟩
theorem reps_ofK {P : Al} : ∀ ks : List Key, Reps K H P (ks.map kT) (ks.map kV) []
  | [] => ⟨rfl, rfl⟩
  | k :: ks => ⟨kV k, ks.map kV, [], [], rfl, rfl, rep_ofK k, reps_ofK ks⟩
variable {d : Addr} {od : Obj} {kvs : List (T × T)} {lp : Bool}
theorem itOk_keys {ks : List (Key × V)} (hd : H d = some (.frz od (.dK ks))) (nA : ¬ A d) (e : kvs.map (·.1) = ks.map fun p => kT p.1) : ItOk K (Itk d od ks) H (fun a => lp = true ∧ A a) O C A (kindI 0 kvs) := by
  intro i Hc k
  have hc := k d _ hd (fun z => nA z.2)
  show (i < (kvs.map (·.1)).length → _) ∧ ((kvs.map (·.1)).length ≤ i → _)
  have hl : (kvs.map (·.1)).length = ks.length := by rw [e]; simp
  refine ⟨fun hi => ⟨⟨hc, by omega⟩, ?_⟩, fun hi => ⟨hc, by omega⟩⟩
  rintro x H' ⟨rfl, q, v, hq, rfl⟩
  refine ⟨Ext.refl _, kT q, ?_, rep_ofK q⟩
  show (kvs.map (·.1))[i]? = _
  rw [e, List.getElem?_map, hq]; rfl
theorem itOk_keysT {ks : List (List Key × V)} (hd : H d = some (.frz od (.dT ks))) (nA : ¬ A d) (e : kvs.map (·.1) = ks.map fun p => tT p.1) : ItOk K (Itkt d od ks) H (fun a => lp = true ∧ A a) O C A (kindI 0 kvs) := by
  intro i Hc k
  have hc := k d _ hd (fun z => nA z.2)
  show (i < (kvs.map (·.1)).length → _) ∧ ((kvs.map (·.1)).length ≤ i → _)
  have hl : (kvs.map (·.1)).length = ks.length := by rw [e]; simp
  refine ⟨fun hi => ⟨⟨hc, by omega⟩, ?_⟩, fun hi => ⟨hc, by omega⟩⟩
  rintro x H' ⟨rfl, q, v, b, hq, rfl, hb⟩
  refine ⟨Ext.refl _, tT q, ?_, b, _, rfl, hb, reps_ofK q⟩
  show (kvs.map (·.1))[i]? = _
  rw [e, List.getElem?_map, hq]; rfl
theorem itOk_vals {ks : List (Key × V)} (hd : H d = some (.frz od (.dK ks))) (nA : ¬ A d) (r : RepD K H (Pm O C A Nz) kvs (ks.map fun p => (kT p.1, p.2)) []) (hm : ∀ a, A a → ∃ o, H a = some o ∧ (∀ xs, o ≠ .tup xs) ∧ ∀ ob u, o ≠ .frz ob u) : ItOk K (Itd d od ks) H (fun a => lp = true ∧ A a) O C A (kindI 1 kvs) := by
  intro i Hc k
  have hc := k d _ hd (fun z => nA z.2)
  have hl : (kvs.map (·.2)).length = ks.length := by have := r.len; simpa using this
  show (i < (kvs.map (·.2)).length → _) ∧ ((kvs.map (·.2)).length ≤ i → _)
  refine ⟨fun hi => ⟨⟨hc, by omega⟩, ?_⟩, fun hi => ⟨hc, by omega⟩⟩
  rintro x H' ⟨rfl, q, hq⟩
  obtain ⟨t, ht, rt⟩ := r.at (i := i) (k := kT q) (v := x) (by rw [List.getElem?_map, hq]; rfl)
  refine ⟨Ext.refl _, t, ?_, val_stand rt hm (fun a z => z.2) k⟩
  show (kvs.map (·.2))[i]? = _
  rw [List.getElem?_map, ht]; rfl
theorem itOk_items {ks : List (Key × V)} (hd : H d = some (.frz od (.dK ks))) (nA : ¬ A d) (r : RepD K H (Pm O C A Nz) kvs (ks.map fun p => (kT p.1, p.2)) []) (hm : ∀ a, A a → ∃ o, H a = some o ∧ (∀ xs, o ≠ .tup xs) ∧ ∀ ob u, o ≠ .frz ob u) : ItOk K (Iti d od ks) H (fun a => lp = true ∧ A a) O C A (kindI 2 kvs) := by
  intro i Hc k
  have hc := k d _ hd (fun z => nA z.2)
  have hl : (kvs.map fun p => T.tup [p.1, p.2]).length = ks.length := by have := r.len; simpa using this
  show (i < (kvs.map fun p => T.tup [p.1, p.2]).length → _) ∧ ((kvs.map fun p => T.tup [p.1, p.2]).length ≤ i → _)
  refine ⟨fun hi => ⟨⟨hc, by omega⟩, ?_⟩, fun hi => ⟨hc, by omega⟩⟩
  rintro x H' ⟨b, q, v, hq, rfl, hb, rfl⟩
  obtain ⟨t, ht, rt⟩ := r.at (i := i) (k := kT q) (v := v) (by rw [List.getElem?_map, hq]; rfl)
  have ex : Ext Hc (upd Hc b (.tup [kV q, v])) := fun a o e => by
    rw [upd_ne (fun z => by rw [z, hb] at e; cases e)]; exact e
  refine ⟨ex, .tup [kT q, t], ?_, b, _, rfl, upd_same, kV q, [v], [], [], rfl, rfl, rep_ofK q, v, [], [], [], rfl, rfl, (val_stand rt hm (fun a z => z.2) k).ext ex, rfl, rfl⟩
  show (kvs.map fun p => T.tup [p.1, p.2])[i]? = _
  rw [List.getElem?_map, ht]; rfl
end
/-- an iterable that hands out what the locked dict in slot i holds -/
def KI (K : PySem.W.Frag) (ti : TI) (i kind : Nat) : Prop := ∀ (σ : L2.St) (H : Hp) (d : Addr) (od : Obj) (o : HO) (kvs : List (T × T)) (es : List (T × V)) (O C A : Addr → Prop) (R' : It → Hp → Prop),
  σ[i]? = some (some (.ref d)) → H d = some (.frz od o) → DIs o es → RepD K H (Pm O C A Nz) kvs es [] → ¬ A d → (∀ a, A a → ∃ o, H a = some o ∧ (∀ xs, o ≠ .tup xs) ∧ ∀ ob u, o ≠ .frz ob u) → ¬ (kind = 2 ∧ (kvs.all fun q => isK q.1) = false) →
  (∀ J, ItOk K J H (fun a => true = true ∧ A a) O C A (kindI kind kvs) → R' J H) → ti σ H R'
section
variable {X : Cx} {ec : Nat → Addr} {W : WX} {tg iter : Expr} {is : List Nat} {g : T → EnvT → Option EnvT} {body : List Stmt} {fb : FS} {pos : Pos}
theorem DS.forD_of {ti : TI} (i kind : Nat) (hp : PassesOwn (model X.prog X.w) X.A X.env X.xe) (hc : X.calm = true) (hi : PI X tg iter ti) (hk : KI X.K ti i kind) (hg : DG X tg is g) (hb : DSs X ec W body fb) (hs : ∀ x, foldedSetIterable iter X.env x = pure x) :
    DS X ec W (.For tg iter body [] pos) (forD i kind g fb) := by
  have base := ps_for hp hc hi hg.run hb.run hs (pos := pos)
  have both : PS X (.For tg iter body [] pos) (fun D σ H => tLock (tFor ti (tG X.K is g) (tS X.K ec W fb)) D σ H ∨ tFor ti (tG X.K is g) (tS X.K ec W fb) D σ H) :=
    ⟨fun pins s σ H D I q => q.elim ((ps_lock base).run pins s σ H D I) (base.run pins s σ H D I)⟩
  refine ⟨ps_mono both fun D σ H ⟨B, env, fp, s, h⟩ => ?_⟩
  unfold forD at h
  cases e : env[i]? with
  | none => rw [e] at h; exact h.elim
  | some o =>
    rw [e] at h
    cases o with
    | none => exact h.elim
    | some t =>
      cases t with
      | dct tg kvs =>
        dsimp only at h
        by_cases c : tg = .own ∨ (kind = 2 ∧ (kvs.all fun q => isK q.1) = false)
        · rw [if_pos c] at h; exact h.elim
        · rw [if_neg c] at h
          obtain ⟨v, hv, r⟩ := s.slot i _ e
          obtain ⟨a, es, G, rfl, l, p, rD⟩ := r
          have main : ∃ o, Rd H a o ∧ DIs o es ∧ ¬ Aw fp a ∧ RepD X.K H (Pm B.O B.C (Aw fp) Nz) kvs es [] := by
            cases tg with
            | own => exact absurd (.inl rfl) c
            | shr => obtain ⟨⟨o, x, y⟩, z⟩ := l; obtain ⟨rfl, _⟩ := p; exact ⟨o, x, y, z.2.1, rD⟩
            | prt => obtain ⟨⟨o, x, y⟩, z⟩ := l; obtain ⟨rfl, _⟩ := p; exact ⟨o, x, y, z.2, rD⟩
            | brw => exact (l.2 : False).elim
            | fzn => exact (l : False).elim
          obtain ⟨o, rd, di, nA, rD⟩ := main
          have c2 : ¬ (kind = 2 ∧ (kvs.all fun q => isK q.1) = false) := fun z => c (.inr z)
          rcases rd with hd | ⟨od, hd⟩
          · left
            refine ⟨a, o, hd, di.isDk.mut, fun od => ?_⟩
            have sL := s.lock (od := od) hd di.isDk nA
            refine hk σ _ a od o kvs es B.O B.C (Aw fp) _ hv upd_same di (RepD.frzD hd di.isDk (fun _ z => z) kvs es [] (by simp) rD) nA (sL.A_mut (Ext.refl _)) c2 fun J it => ?_
            exact for_tail sL it (PostS.lock s hd di.isDk nA h)
          · right
            exact hk σ H a od o kvs es B.O B.C (Aw fp) _ hv hd di rD nA (s.A_mut (Ext.refl _)) c2 fun J it => for_tail s it h.noExc
      | _ => exact h.elim
theorem ki_keys (i : Nat) {K : PySem.W.Frag} : KI K (iKeys (tVar i)) i 0 := by
  intro σ H d od o kvs es O C A R' hv hd di r nA hm _ h
  refine ⟨.ref d, hv, d, od, rfl, ?_⟩
  have ek := repD_keys r
  rcases di with ⟨ks, rfl, nd, rfl⟩ | ⟨ks, rfl, ne, nd, rfl⟩
  · exact .inl ⟨ks, hd, h _ (itOk_keys hd nA (by rw [ek, List.map_map]; rfl))⟩
  · exact .inr ⟨ks, hd, h _ (itOk_keysT hd nA (by rw [ek, List.map_map]; rfl))⟩
theorem ki_items (i : Nat) {K : PySem.W.Frag} : KI K (iItems (tVar i)) i 2 := by
  intro σ H d od o kvs es O C A R' hv hd di r nA hm c h
  have ca : (kvs.all fun q => isK q.1) = true := by
    cases q : (kvs.all fun q => isK q.1) with
    | true => rfl
    | false => exact absurd ⟨rfl, q⟩ c
  obtain ⟨ks, rfl, _, rfl, _⟩ := repD_dk r di ca
  exact ⟨.ref d, hv, d, od, ks, rfl, hd, h _ (itOk_items hd nA r hm)⟩
theorem DS.forDkeys (i : Nat) {x : Str} {xp : Pos} (hp : PassesOwn (model X.prog X.w) X.A X.env X.xe) (hc : X.calm = true) (hg : DG X tg is g) (hb : DSs X ec W body fb) (hN : X.N[i]? = some x := by rfl) (hv : Vis X.env.scope x := by first | exact Or.inl rfl | exact Or.inr (Or.inl rfl) | exact Or.inr (Or.inr rfl)) (hd : (x == ("__debug__" : Str)) = false := by decide)
    (hcd : (x == ("__classdict__" : Str)) = false := by decide) (hs : ∀ v, foldedSetIterable (.Name x xp) X.env v = pure v := by intro _; rfl) : DS X ec W (.For tg (.Name x xp) body [] pos) (forD i 0 g fb) :=
  DS.forD_of i 0 hp hc (pi_keys (pe_var (i := i) hN hv hd hcd)) (ki_keys i) hg hb hs
theorem DS.forDitems (i : Nat) {x : Str} {xp apos cpos tpos : Pos} {elts : List Expr} {kk : Nat} (hp : PassesOwn (model X.prog X.w) X.A X.env X.xe) (hc : X.calm = true) (hg : DG X (.Tuple elts kk tpos) is g) (hb : DSs X ec W body fb) (hN : X.N[i]? = some x := by rfl) (hv : Vis X.env.scope x := by first | exact Or.inl rfl | exact Or.inr (Or.inl rfl) | exact Or.inr (Or.inr rfl)) (hd : (x == ("__debug__" : Str)) = false := by decide)
    (hcd : (x == ("__classdict__" : Str)) = false := by decide) (hbase : attributeBase (.Name x xp) "items" X.env (eval (.Name x xp) X.env) = eval (.Name x xp) X.env := by rfl) (hline : (apos.endLine == cpos.line) = true := by rfl) (hs : ∀ v, foldedSetIterable (.Call (.Attribute (.Name x xp) "items" apos) [] [] cpos) X.env v = pure v := by intro _; rfl) :
    DS X ec W (.For (.Tuple elts kk tpos) (.Call (.Attribute (.Name x xp) "items" apos) [] [] cpos) body [] pos) (forD i 2 g fb) :=
  DS.forD_of i 2 hp hc (pi_items (pe_var (i := i) hN hv hd hcd) hbase hline) (ki_items i) hg hb hs
end
end VS

namespace VS
open PySem PySem.Spec L2
open PyProof.Rows hiding St

/-! ### for over a dict's values, tuple keys too -/
def Itdt (d : Addr) (o : Obj) (kvs : List (List Key × V)) : It :=
  ⟨fun i H => H d = some (.frz o (.dT kvs)) ∧ i < kvs.length, fun i H x H' => H' = H ∧ ∃ k, kvs[i]? = some (k, x), fun i H => H d = some (.frz o (.dT kvs)) ∧ kvs.length ≤ i⟩
theorem frzTV {X : Cx} {pins : List (Addr × Obj)} {σ : L2.St} {H : Hp} {s : Shared} {d : Addr} {o : Obj} {kvs : List (List Key × V)} (I : Inv X pins σ H s) (h : H d = some (.frz o (.dT kvs))) :
    (d == sysModules) = false ∧ s.heap.get? d = some o ∧ o.ExactDict ∧ ∃ (es : Array DictEntry) (ep : Nat), o.data = .dict es ep ∧ es.size = kvs.length ∧
      ∀ (i : Nat) (k : List Key) (v : V), kvs[i]? = some (k, v) → ∃ en : DictEntry, es[i]? = some en ∧ RelV v en.val := by
  obtain ⟨hd, z, hs, xs, pr, o', es, ep, ho, hx, hdt, he, _⟩ := I.hok d _ h
  rw [hd] at ho
  cases ho
  refine ⟨hs, hd, hx, es, ep, hdt, ?_, fun i k v e => ?_⟩
  · have l1 : es.size = xs.length := by rw [← Array.length_toList, he]; simp
    have l2 : kvs.length = xs.length := Paired.length pr
    omega
  · obtain ⟨b, hb, e1, e2, e3⟩ := paired_get pr e
    have q : es[i]? = some (entryOfKey (tupleKind (mixKind X.prog X.w)) b) := by
      rw [← Array.getElem?_toList, he, List.getElem?_map, hb]; rfl
    exact ⟨_, q, e3⟩
section
variable {P : Program} {w : World} {K : PySem.W.Frag} {tg : Expr} {d : Addr} {o : Obj} {es : Array DictEntry} {ep : Nat}
theorem turn_valsT {kvs : List (List Key × V)} (it : Addr) (hod : o.data = .dict es ep) : Turn P w K tg (Itdt d o kvs) [it] it (fun i h => h.IsValIter it d i kvs.length ep) where
  mem := by simp
  obj := fun i h st b hb => by
    have e : b = it := by simpa using hb
    subst e
    obtain ⟨oi, e, c, dd⟩ := st
    exact ⟨oi, e, fun v z => by rw [dd] at z; cases z⟩
  keep := fun i h h' st k => st.at fun oi e => k it (by simp) oi e
  item := by
    intro X hP hw hK hc i pins s σ H E I hf st hg
    subst hP hw hK
    obtain ⟨hd, hi⟩ := hg
    obtain ⟨f0, f1, f2, f3, f4, f5⟩ := hf it (by simp)
    obtain ⟨hs, hgd, hx, es', ep', hdt, hsz, ent⟩ := frzTV I hd
    obtain ⟨rfl, rfl⟩ := dict_ep hod hdt
    obtain ⟨⟨k, v⟩, hkv⟩ : ∃ p, kvs[i]? = some p := ⟨kvs[i], List.getElem?_eq_getElem hi⟩
    obtain ⟨en, hen, ru⟩ := ent i k v hkv
    rw [← hsz] at st
    have hi' : i < es'.size := by omega
    refine wpAny_pyNext_values_item_raw st ⟨o, hgd, hx, hdt⟩ hi' fun h' st' sb => ?_
    have I1 : Inv X pins σ H { s with heap := h' } := I.turned (t' := s.toks) (fun b ob hb e => (sb.2 b hb).trans e) f0 f1 f3 f4 f5
    obtain ⟨oi, e, c, dd⟩ := id st'
    have ev : es'[i].val = en.val := by
      rw [Array.getElem?_eq_getElem hi'] at hen; rw [Option.some.inj hen]
    rw [ev]
    refine ⟨en.val, rfl, go_of (s := { s with heap := h' }) e c dd (by decide) ⟨v, H, I1, ru, ⟨rfl, k, hkv⟩, ?_, fun b hb => (hf b hb).1⟩⟩
    show h'.IsValIter it d (i + 1) kvs.length _
    rw [← hsz]
    exact st'
  done := by
    intro X hP hw hK hc i pins s σ H E I hf st hg
    subst hP hw hK
    obtain ⟨hd, hi⟩ := hg
    obtain ⟨f0, f1, f2, f3, f4, f5⟩ := hf it (by simp)
    obtain ⟨hs, hgd, hx, es', ep', hdt, hsz, ent⟩ := frzTV I hd
    obtain ⟨rfl, rfl⟩ := dict_ep hod hdt
    rw [← hsz] at st
    exact wpAny_pyNext_values_end_raw (I.ok.hd hc) st ⟨o, hgd, hx, hdt⟩ (by omega) fun h' eb => ⟨rfl, I.turned (t' := s.toks) (fun b ob hb e => eb b ob hb e) f0 f1 f3 f4 f5⟩
  self := fun A i s Q E st h => wpAny_pyIter_valiter st h
end
def iValsB (td : TE) : TI := fun σ H R => td σ H fun x H1 => ∃ d o, x = .ref d ∧ ((∃ kvs, H1 d = some (.frz o (.dK kvs)) ∧ R (Itd d o kvs) H1) ∨ ∃ kvs, H1 d = some (.frz o (.dT kvs)) ∧ R (Itdt d o kvs) H1)
section
variable {X : Cx} {tg e : Expr} {td : TE} {apos cpos : Pos}
theorem pi_valuesB (he : PE X e td) (hbase : attributeBase e "values" X.env (eval e X.env) = eval e X.env := by rfl) (hline : (apos.endLine == cpos.line) = true := by rfl) : PI X tg (.Call (.Attribute e "values" apos) [] [] cpos) (iValsB td) := by
  refine ⟨fun pins s σ H R I h => ?_⟩
  refine wpAny_Call_method (T := "dict") (id := "dict.values") hbase rfl hline PySem.F.plainAttrs_dict PySem.F.slot_dict_values PySem.F.type_dict_values (thn (he.run pins s σ H _ I h) fun u s1 ⟨x, H1, I1, rx, d, o, ex, q⟩ => ?_)
  subst ex
  obtain rfl : u = Value.ref d := rx
  have raw : ∃ (es : Array DictEntry) (ep : Nat) (J : It), (d == sysModules) = false ∧ s1.heap.get? d = some o ∧ o.ExactDict ∧ o.data = .dict es ep ∧ R J H1 ∧
      ∀ it, Turn X.prog X.w X.K tg J [it] it (fun i h => h.IsValIter it d i es.size ep) := by
    rcases q with ⟨kvs, hd, q⟩ | ⟨kvs, hd, q⟩
    · obtain ⟨hs, hgd, hx, es, ep, vs, hdt, hsz, kv, hm⟩ := I1.frzK hd
      exact ⟨es, ep, _, hs, hgd, hx, hdt, q, fun it => by rw [hsz]; exact turn_vals it hdt⟩
    · obtain ⟨hs, hgd, hx, es, ep, hdt, hsz, _⟩ := frzTV I1 hd
      exact ⟨es, ep, _, hs, hgd, hx, hdt, q, fun it => by rw [hsz]; exact turn_valsT it hdt⟩
  obtain ⟨es, ep, J, hs, hgd, hx, hdt, q, tn⟩ := raw
  have hm : s1.heap.DictRaw d es ep := ⟨o, hgd, hx, hdt⟩
  refine ⟨hm.typeIs, fun a z => by cases z; exact ⟨o, hgd, hx.2.1⟩, ?_⟩
  have I2 : Inv X pins σ H1 { s1 with heap := s1.heap.push { cls := .type "dict_values", data := .fields #[.ref d] } } := I1.kept (t' := s1.toks) fun b ob q => Heap.get?_push_of_some _ q
  have fin : wpAny (model X.prog X.w) X.A (pyIter (.ref s1.heap.objs.size)) (PIE X pins σ tg R) X.xe { s1 with heap := s1.heap.push { cls := .type "dict_values", data := .fields #[.ref d] } } := by
    exact wpAny_pyIter_values_raw (d := d) (es := es) (ep := ep) ⟨_, Heap.get?_push_size _ rfl, rfl, rfl⟩ (hm.at fun o e => Heap.get?_push_of_some _ e) (pi_one (tk := s1.toks) I2 _ (tn _) ⟨_, Heap.get?_push_size _ rfl, rfl, rfl⟩ q)
  show wpAny _ _ (callWith cpos (.builtin "dict.values") [.ref d] [] []) _ X.xe s1
  exact method_meetsIn PySem.F.slot_dict_values PySem.F.entry_dict_values rfl (PySem.evalArgs_none ⟨rfl, hm.typeIs, PySem.F.args_dict_values_1 _, _, meets_dict_values_raw d hs, ⟨es, ep, hm⟩, fin⟩)
end
theorem itOk_valsT {K : PySem.W.Frag} {H : Hp} {O C A : Addr → Prop} {d : Addr} {od : Obj} {kvs : List (T × T)} {lp : Bool} {ks : List (List Key × V)} (hd : H d = some (.frz od (.dT ks))) (nA : ¬ A d) (r : RepD K H (Pm O C A Nz) kvs (ks.map fun p => (tT p.1, p.2)) []) (hm : ∀ a, A a → ∃ o, H a = some o ∧ (∀ xs, o ≠ .tup xs) ∧ ∀ ob u, o ≠ .frz ob u) : ItOk K (Itdt d od ks) H (fun a => lp = true ∧ A a) O C A (kindI 1 kvs) := by
  intro i Hc k
  have hc := k d _ hd (fun z => nA z.2)
  have hl : (kvs.map (·.2)).length = ks.length := by have := r.len; simpa using this
  show (i < (kvs.map (·.2)).length → _) ∧ ((kvs.map (·.2)).length ≤ i → _)
  refine ⟨fun hi => ⟨⟨hc, by omega⟩, ?_⟩, fun hi => ⟨hc, by omega⟩⟩
  rintro x H' ⟨rfl, q, hq⟩
  obtain ⟨t, ht, rt⟩ := r.at (i := i) (k := tT q) (v := x) (by rw [List.getElem?_map, hq]; rfl)
  refine ⟨Ext.refl _, t, ?_, val_stand rt hm (fun a z => z.2) k⟩
  show (kvs.map (·.2))[i]? = _
  rw [List.getElem?_map, ht]; rfl
theorem ki_vals (i : Nat) {K : PySem.W.Frag} : KI K (iValsB (tVar i)) i 1 := by
  intro σ H d od o kvs es O C A R' hv hd di r nA hm _ h
  refine ⟨.ref d, hv, d, od, rfl, ?_⟩
  rcases di with ⟨ks, rfl, nd, rfl⟩ | ⟨ks, rfl, ne, nd, rfl⟩
  · exact .inl ⟨ks, hd, h _ (itOk_vals hd nA r hm)⟩
  · exact .inr ⟨ks, hd, h _ (itOk_valsT hd nA r hm)⟩
section
variable {X : Cx} {ec : Nat → Addr} {W : WX} {tg : Expr} {is : List Nat} {g : T → EnvT → Option EnvT} {body : List Stmt} {fb : FS} {pos : Pos}
theorem DS.forDvals (i : Nat) {x : Str} {xp apos cpos : Pos} (hp : PassesOwn (model X.prog X.w) X.A X.env X.xe) (hc : X.calm = true) (hg : DG X tg is g) (hb : DSs X ec W body fb) (hN : X.N[i]? = some x := by rfl) (hv : Vis X.env.scope x := by first | exact Or.inl rfl | exact Or.inr (Or.inl rfl) | exact Or.inr (Or.inr rfl)) (hd : (x == ("__debug__" : Str)) = false := by decide)
    (hcd : (x == ("__classdict__" : Str)) = false := by decide) (hbase : attributeBase (.Name x xp) "values" X.env (eval (.Name x xp) X.env) = eval (.Name x xp) X.env := by rfl) (hline : (apos.endLine == cpos.line) = true := by rfl) (hs : ∀ v, foldedSetIterable (.Call (.Attribute (.Name x xp) "values" apos) [] [] cpos) X.env v = pure v := by intro _; rfl) :
    DS X ec W (.For tg (.Call (.Attribute (.Name x xp) "values" apos) [] [] cpos) body [] pos) (forD i 1 g fb) :=
  DS.forD_of i 1 hp hc (pi_valuesB (pe_var (i := i) hN hv hd hcd) hbase hline) (ki_vals i) hg hb hs
end
end VS

namespace VS
open PySem PySem.Spec L2
open PyProof.Rows hiding St

/-! ### x[k].m(..): a method of a list that the dict at x owns -/
def chD : List (T × T) → T → (List T → Option (List T × T)) → Option (List (T × T) × T)
  | [], _, _ => none
  | (kk, v) :: r, k, f => if kOf kk = kOf k then (match v with
      | .lst .own ts => (f ts).map fun p => ((kk, .lst .own p.1) :: r, p.2)
      | _ => none) else (chD r k f).map fun p => ((kk, v) :: p.1, p.2)
theorem chD_eq {kk v k res : T} {r r' : List (T × T)} {f : List T → Option (List T × T)} (h : kOf kk = kOf k) (e : chD ((kk, v) :: r) k f = some (r', res)) : ∃ ts ts', v = .lst .own ts ∧ f ts = some (ts', res) ∧ r' = (kk, .lst .own ts') :: r := by
  cases v with
  | lst g ts =>
    cases g with
    | own =>
      simp only [chD, if_pos h] at e
      cases q : f ts with
      | none => rw [q] at e; cases e
      | some p =>
        obtain ⟨ts', res'⟩ := p
        rw [q] at e
        simp only [Option.map_some, Option.some.injEq, Prod.mk.injEq] at e
        obtain ⟨rfl, rfl⟩ := e
        exact ⟨ts, ts', rfl, q, rfl⟩
    | _ => simp [chD, h] at e
  | _ => simp [chD, h] at e
theorem chD_ne {kk v k : T} {r : List (T × T)} {f : List T → Option (List T × T)} (h : ¬ kOf kk = kOf k) : chD ((kk, v) :: r) k f = (chD r k f).map fun p => ((kk, v) :: p.1, p.2) := by
  cases v <;> simp [chD, h]
theorem repD_ch {K : PySem.W.Frag} {H : Hp} {P : Al} {k res : T} {f : List T → Option (List T × T)} : ∀ (kvs : List (T × T)) (es : List (T × V)) (G : List Addr) (kvs' : List (T × T)), RepD K H P kvs es G → G.Nodup → chD kvs k f = some (kvs', res) →
    ∃ b vs ts ts' G1, lookE es k = some (.ref b) ∧ H b = some (.lst vs) ∧ b ∈ G ∧ Reps K H P ts vs G1 ∧ f ts = some (ts', res) ∧ b ∉ G1 ∧ (∀ a ∈ G1, a ∈ G) ∧
    ∀ (H1 : Hp) (P' : Al) (vs' : List V) (G2 F Fr : List Addr), Ext H H1 → (∀ g c, g ≠ .own → H c ≠ none → P g c → P' g c ∧ ¬ c = b) → Reps K (upd H1 b (.lst vs')) P' ts' vs' G2 → Le (G2 ++ Fr) (G1 ++ F) → ∃ G3, RepD K (upd H1 b (.lst vs')) P' kvs' es G3 ∧ Le (G3 ++ Fr) (G ++ F)
  | [], _, _, _, _, _, e => by simp [chD] at e
  | (kk, u) :: r, _, _, kvs', ⟨v0, es, F1, F2, rfl, rfl, c, d⟩, nd, e => by
    obtain ⟨n1, n2, n3⟩ := List.nodup_append.mp nd
    by_cases q : kOf kk = kOf k
    · obtain ⟨ts, ts', rfl, ef, rfl⟩ := chD_eq q e
      obtain ⟨b, vs, G1, rfl, l, fp, rr⟩ := c
      have l : H b = some (.lst vs) := l
      have fp : F1 = b :: G1 := fp
      subst fp
      obtain ⟨m1, m2⟩ := List.nodup_cons.mp n1
      refine ⟨b, vs, ts, ts', G1, by unfold lookE; rw [List.find?_cons_of_pos (by simpa using q)]; rfl, l, by simp, rr, ef, m1, fun a ha => by simp [ha], fun H1 P' vs' G2 F Fr ex hP rt le => ?_⟩
      have kp : Kp (fun a => a = b) H (upd H1 b (.lst vs')) := ⟨fun a o h n => by rw [upd_ne n]; exact ex a o h, fun a xs w z => (by rw [w, l] at z; cases z), fun a ob x w z => (by rw [w, l] at z; cases z)⟩
      refine ⟨(b :: G2) ++ F2, ⟨.ref b, es, b :: G2, F2, rfl, rfl, ⟨b, vs', G2, rfl, upd_same, rfl, rt⟩, RepD.keep kp r es F2 (fun g a _ n d p => hP g a n d p) (fun a ha z => n3 b (by simp) a ha z.symm) d⟩, fun a => ?_⟩
      have := le a
      simp only [List.cons_append, List.count_cons, List.count_append] at *; omega
    · rw [chD_ne q] at e
      cases e2 : chD r k f with
      | none => rw [e2] at e; cases e
      | some p2 =>
        obtain ⟨r2, res2⟩ := p2
        rw [e2] at e
        simp only [Option.map_some, Option.some.injEq, Prod.mk.injEq] at e
        obtain ⟨rfl, rfl⟩ := e
        obtain ⟨b, vs, ts, ts', G1, h1, h2, h3, h4, h5, h6, h7, h8⟩ := repD_ch r es F2 r2 d n2 e2
        refine ⟨b, vs, ts, ts', G1, by unfold lookE at *; rw [List.find?_cons_of_neg (by simpa using q)]; exact h1, h2, List.mem_append_right _ h3, h4, h5, h6, fun a ha => List.mem_append_right _ (h7 a ha), fun H1 P' vs' G2 F Fr ex hP rt le => ?_⟩
        obtain ⟨G3, g1, g2⟩ := h8 H1 P' vs' G2 F Fr ex hP rt le
        have kp : Kp (fun a => a = b) H (upd H1 b (.lst vs')) := ⟨fun a o h n => by rw [upd_ne n]; exact ex a o h, fun a xs w z => (by rw [w, h2] at z; cases z), fun a ob x w z => (by rw [w, h2] at z; cases z)⟩
        refine ⟨F1 ++ G3, ⟨v0, es, F1, G3, rfl, rfl, Rep.keep kp u v0 F1 (fun g a _ n d p => hP g a n d p) (fun a ha z => n3 a ha b h3 z) c, g1⟩, ?_⟩
        rw [List.append_assoc, List.append_assoc]; exact (Le.refl F1).append g2
theorem dget_E {K : PySem.W.Frag} {H : Hp} {P P' : Al} {a : Addr} {o : HO} {es : List (T × V)} {kvs : List (T × T)} {G Fk : List Addr} {k : T} {y v : V} (ho : Rd H a o) (d : DIs o es) (r : RepD K H P kvs es G) (ry : Rep K H P' k y Fk) (f : keyFit kvs k = true) (lk : lookE es k = some v) : DGet H a y (some v) := by
  have hk := repD_keys r
  simp only [keyFit, Bool.or_eq_true, Bool.and_eq_true, List.all_eq_true] at f
  rcases f with ⟨f1, f2⟩ | ⟨f1, f2⟩
  · obtain ⟨key, rfl⟩ := isK_inv f1
    have hy := rep_kT ry
    subst hy
    rcases d with ⟨ks, rfl, nk, rfl⟩ | ⟨ks, rfl, ne, nk, rfl⟩
    · rw [lookE_val kT_inj key ks] at lk
      exact .inl ⟨ks, key, ho, rfl, lk.symm⟩
    · exfalso
      cases ks with
      | nil => exact ne rfl
      | cons p ks =>
        cases kvs with
        | nil => cases hk
        | cons q kvs =>
          simp only [List.map_cons, List.cons.injEq] at hk
          have := f2 q (by simp)
          rw [hk.1] at this
          simp [isK, kOf_tT] at this
  · obtain ⟨key, rfl⟩ := isKs_inv f1
    obtain ⟨b, rfl, hb⟩ := rep_tT ry
    rcases d with ⟨ks, rfl, nk, rfl⟩ | ⟨ks, rfl, ne, nk, rfl⟩
    · cases ks with
      | nil => cases lk
      | cons p ks =>
        cases kvs with
        | nil => cases hk
        | cons q kvs =>
          exfalso
          simp only [List.map_cons, List.cons.injEq] at hk
          have := f2 q (by simp)
          rw [hk.1] at this
          simp [isKs, kOf_kT] at this
    · rw [lookE_val tT_inj key ks] at lk
      exact .inr ⟨ks, key, b, ho, rfl, hb, lk.symm⟩
def methD (i : Nat) (g : List T → List T → Option (List T × T)) (fk : FE) (fs : EnvT → R (List T)) : FX := fun env => match env[i]? with
  | some (some (.dct .own kvs)) => (match fk env with
    | .ok k => if keyFit kvs k = true then (match fs env with
      | .ok as => if T.hasL .brw as = true then .bad else (match chD kvs k (fun ts => g ts as) with
        | some (kvs', res) => .ok (res, env.set i (some (.dct .own kvs')))
        | none => .bad)
      | _ => .bad) else .bad
    | .exc c => .exc c
    | .bad => .bad)
  | _ => .bad
section
variable {K : PySem.W.Frag} {ec : Nat → Addr} {W : WX} {σ : L2.St} {H : Hp} {i : Nat} {g : List T → List T → Option (List T × T)} {r : V → List V → Hp → VK → Prop} {fk : FE} {fs : EnvT → R (List T)} {Q : VK}
theorem methD_post (hg : OwnL K r g) (h : tX K ec W (methD i g fk fs) σ H Q) :
    ∃ v0, σ[i]? = some (some v0) ∧ tD K ec W fk σ H fun y H2 => ∃ a v, v0 = .ref a ∧ DGet H2 a y (some v) ∧ tyV K "list" v H2 ∧ tDA K ec W fs σ H2 (fun xs H3 => r v xs H3 Q) := by
  obtain ⟨B, env, fp, s, h⟩ := h
  unfold methD at h
  split at h
  rotate_left
  · exact h.elim
  rename_i kvs ev
  obtain ⟨v0, hv0, rs⟩ := s.slot i _ ev
  obtain ⟨a, es, G, rfl, lo, fpe, rD⟩ := rs
  obtain ⟨o, ho, d⟩ : ∃ o, H a = some o ∧ DIs o es := lo
  have fpe : fp i = a :: G := fpe
  have hi : i < env.length := (List.getElem?_eq_some_iff.mp ev).1
  refine ⟨.ref a, hv0, B, env, fp, s, ?_⟩
  cases qk : fk env with
  | exc c => rw [qk] at h; exact fun H' x => h H' fp (s.grow x)
  | bad => rw [qk] at h; exact h.elim
  | ok k =>
    rw [qk] at h
    dsimp only at h
    intro y H2 Fk e2 rk nk fk2
    by_cases cf : keyFit kvs k = true
    rotate_left
    · rw [if_neg cf] at h; exact h.elim
    rw [if_pos cf] at h
    cases qs : fs env with
    | exc c => rw [qs] at h; exact h.elim
    | bad => rw [qs] at h; exact h.elim
    | ok as =>
      rw [qs] at h
      dsimp only at h
      by_cases hb : T.hasL .brw as = true
      · rw [if_pos hb] at h; exact h.elim
      rw [if_neg hb] at h
      have hb' : T.hasL .brw as = false := by simpa using hb
      cases qc : chD kvs k (fun ts => g ts as) with
      | none => rw [qc] at h; exact h.elim
      | some pr =>
        obtain ⟨kvs', res⟩ := pr
        rw [qc] at h
        have ndG : (a :: G).Nodup := by rw [← fpe]; exact s.nd i
        obtain ⟨na, ng⟩ := List.nodup_cons.mp ndG
        obtain ⟨b, vs, ts, ts', G1, h1, h2, h3, h4, h5, h6, h7, h8⟩ := repD_ch kvs es G kvs' rD ng qc
        have ho2 := e2 _ _ ho
        have rD2 : RepD K H2 (Pm B.O B.C (Aw fp) Nz) kvs es G := RepD.keep e2.kp kvs es G (fun g a _ _ _ q => ⟨q, fun z => z⟩) (fun _ _ z => z) rD
        have h22 := e2 _ _ h2
        refine ⟨a, .ref b, rfl, dget_E (.inl ho2) d rD2 rk cf h1, .inl ⟨rfl, vs, SqL.of h22⟩, B, env, fp, s.grow e2, ?_⟩
        rw [qs]
        intro us H3 F e3 ra nd f
        have e23 := e2.trans e3
        have f0 : ∀ c ∈ F, H c = none := fun c m => e2.none (f c m)
        have bA : b ∈ fp i := by rw [fpe]; exact List.mem_cons_of_mem _ h3
        have hA : Aw fp b := ⟨i, bA⟩
        have bF : b ∉ F := fun m => by have := f0 b m; rw [h2] at this; cases this
        have ab : a ≠ b := fun z => na (z ▸ h3)
        have h23 : H3 b = some (.lst vs) := e23 _ _ h2
        have r1 : Reps K H3 (Pm B.O B.C (AF (Aw fp) F) Nz) ts vs G1 := h4.mono e23 fun g a _ _ d p => Pm.to id (fun z => z.elim id fun m => absurd (f0 a m) d) id p
        refine hg H3 _ b vs ts G1 as us F Q ts' res h23 r1 (noBrwL hb' ra) h5 fun vs' G' v Fr rts rr le => ?_
        have bn : b ∉ G' ++ Fr := fun m => (List.mem_append.mp (le.mem m)).elim h6 bF
        have kp := kp_upd (o' := .lst vs') h23 (fun _ z => nomatch z) (fun _ _ z => nomatch z)
        have rts2 := rts.past kp hA (fun m => bn (List.mem_append_left _ m))
        have rr2 := rr.past kp hA (fun m => bn (List.mem_append_right _ m))
        obtain ⟨G3, g1, g2⟩ := h8 H3 (Pm B.O B.C (AF (Aw fp) F) Nz) vs' G' F Fr e23 (fun g c n dd p => by
          have sub : ¬ Aw fp c → ¬ AF (Aw fp) F c := fun z y => y.elim z fun m => dd (f0 c m)
          have nb : ¬ Aw fp c → ¬ c = b := fun z y => z (y ▸ hA)
          cases g with
          | own => exact absurd rfl n
          | shr => exact ⟨⟨p.1, sub p.2.1, p.2.2⟩, nb p.2.1⟩
          | prt => exact ⟨⟨p.1, sub p.2⟩, nb p.2⟩
          | brw => exact (show False from p).elim
          | fzn => exact ⟨⟨p.1, sub p.2⟩, nb p.2⟩) rts2 le
        have rn : Rep K (upd H3 b (.lst vs')) (Pm B.O B.C (AF (Aw fp) F) Nz) (.dct .own kvs') (.ref a) (a :: G3) := ⟨a, es, G3, rfl, ⟨o, by rw [upd_ne ab]; exact e23 _ _ ho, d⟩, rfl, g1⟩
        obtain ⟨st, r3, n3, n4⟩ := s.update (t' := .dct .own kvs') (res := res) (vr := v) (Fr := Fr) e23 hi bA hv0 nd f0 rn rr2 (by
          rw [fpe]
          intro c
          have := g2 c
          simp only [List.cons_append, List.count_cons, List.count_append] at *; omega)
        exact h v _ _ Fr st r3 n3 n4
end
section
variable {X : Cx} {ec : Nat → Addr} {W : WX} {k e : Expr} {es : List Expr} {fk : FE} {fs : EnvT → R (List T)} {pos xp sp apos : Pos} {x name : Str} {id : String} {r : V → List V → Hp → VK → Prop} {g : List T → List T → Option (List T × T)}
theorem DX.methD (i : Nat) (slot : Slot "list" name id) (hty : typeOf (.builtin id) = pure (.type "method_descriptor")) (hm : MtR X id r) (hg : OwnL X.K r g) (hu : X.A.units + 1 < cLine) (hk : DE X ec W k fk) (ha : DA X ec W (e :: es) fs)
    (hN : X.N[i]? = some x := by rfl) (hv : Vis X.env.scope x := by first | exact Or.inl rfl | exact Or.inr (Or.inl rfl) | exact Or.inr (Or.inr rfl)) (hd : (x == ("__debug__" : Str)) = false := by decide) (hcd : (x == ("__classdict__" : Str)) = false := by decide) (hs : PlainIx k := by exact fun _ _ => rfl)
    (hbase : attributeBase (.Subscript (.Name x xp) k sp) name X.env (eval (.Subscript (.Name x xp) k sp) X.env) = eval (.Subscript (.Name x xp) k sp) X.env := by rfl)
    (hfew : ((backTo pos (starEach (e :: es) X.env)).all (fun x => !x.1) && (backToKw pos (keywordEach [] X.env)).all (fun x => x.1.isSome)
      && decide ((e :: es).length + ([] : List Keyword).length + (if ([] : List Keyword).isEmpty then 0 else 1) < 30)) = true := by rfl)
    (hline : (apos.endLine == pos.line) = true := by rfl) (hs2 : starEach (e :: es) X.env = (false, eval e X.env) :: starEach es X.env := by rfl) (hplain : (backTo pos (starEach es X.env)).any (·.1) = false := by rfl) :
    DX X ec W (.Call (.Attribute (.Subscript (.Name x xp) k sp) name apos) (e :: es) [] pos) (VS.methD i g fk fs) :=
  ⟨pe_mono (pe_bm PySem.F.plainAttrs_list slot hty hm (pe_dget (pos := sp) hu (pe_var (i := i) hN hv hd hcd) hk.run hs) ha.run hbase hfew hline hs2 hplain) fun σ H Q h => by
    obtain ⟨v0, hv0, q⟩ := methD_post hg h
    exact ⟨v0, hv0, q⟩⟩
end
end VS

namespace VS
open PySem PySem.Spec L2
open PyProof.Rows hiding St

/-! ### {'a': x, 'b': y, ..} -/
theorem tDA_cons {K : PySem.W.Frag} {ec : Nat → Addr} {W : WX} {fa : FE} {fs : EnvT → R (List T)} {σ : L2.St} {H : Hp} {Q : List V → Hp → Prop} (h : tDA K ec W (consE fa fs) σ H Q) :
    tD K ec W fa σ H fun v H1 => tDA K ec W fs σ H1 fun vs H2 => Q (v :: vs) H2 := by
  obtain ⟨B, env, fp, s, h⟩ := h
  unfold consE at h
  refine ⟨B, env, fp, s, ?_⟩
  cases e : fa env with
  | ok t =>
    rw [e] at h
    intro v H1 F e1 r1 n1 f1
    refine ⟨{ B with O := fun a => B.O a ∨ a ∈ F }, env, fp, s.push e1 (fun a ha => ⟨f1 a ha, r1.own_dom _ _ _ a ha⟩), ?_⟩
    cases e2 : fs env with
    | ok ts =>
      rw [e2] at h
      intro vs H2 G x2 r2 n2 f2
      refine h (v :: vs) H2 (F ++ G) (e1.trans x2) ⟨v, vs, F, G, rfl, rfl, r1.more x2 (fun _ _ z => z) (fun a ha => (List.mem_append.mp ha).elim .inl fun z => .inr (f2 a z)), ?_⟩ (List.nodup_append.mpr ⟨n1, n2, fun a ha b hb q => ?_⟩) (fun a ha => ?_)
      · refine r2.mono (Ext.refl _) fun g a _ _ d p => ?_
        cases g with
        | own => trivial
        | shr => exact ⟨fun z => p.1 (.inl z), fun z => z.elim (fun z => p.2.1 (.inl z)) (fun m => (List.mem_append.mp m).elim (fun m => p.1 (.inr m)) fun m => p.2.1 (.inr m)), p.2.2⟩
        | prt => exact ⟨fun z => p.1 (.inl z), fun z => z.elim (fun z => p.2 (.inl z)) (fun m => (List.mem_append.mp m).elim (fun m => p.1 (.inr m)) fun m => p.2 (.inr m))⟩
        | brw => exact p
        | fzn => exact ⟨fun z => p.1 (.inl z), fun z => z.elim (fun z => p.2 (.inl z)) (fun m => (List.mem_append.mp m).elim (fun m => p.1 (.inr m)) fun m => p.2 (.inr m))⟩
      · subst q; exact r1.own_dom _ _ _ a ha (f2 a hb)
      · exact (List.mem_append.mp ha).elim (f1 a) fun z => e1.none (f2 a z)
    | exc c => rw [e2] at h; exact fun H' x => h H' (e1.trans x)
    | bad => rw [e2] at h; exact h
  | exc c => rw [e] at h; exact h
  | bad => rw [e] at h; exact h
structure DD (X : Cx) (ec : Nat → Addr) (W : WX) (pos : Pos) (keys : List (Option Expr)) (vals : List Expr) (ks : List Str) (fs : EnvT → R (List T)) : Prop where
  run : ∃ trs, PPs X pos keys vals trs ∧ ∀ σ H (Q : List V → Hp → Prop) (R' : List (V × V) → Hp → Prop), tDA X.K ec W fs σ H Q → (∀ vs H', ks.length = vs.length → Q vs H' → R' ((ks.map V.str).zip vs) H') → tPairs trs σ H R'
section
variable {X : Cx} {ec : Nat → Addr} {W : WX} {pos : Pos}
theorem DD.nil : DD X ec W pos [] [] [] (fun _ => .ok []) :=
  ⟨[], pps_nil, fun σ H Q R' ⟨_, _, _, _, h⟩ k => k [] H rfl (h [] H [] (Ext.refl _) ⟨rfl, rfl⟩ List.nodup_nil (by simp))⟩
theorem DD.cons {keys : List (Option Expr)} {vals : List Expr} {v : Expr} {k : Str} {jj : Nat} {kp : Pos} {ks : List Str} {f : FE} {fs : EnvT → R (List T)} (hv : DE X ec W v f) (hr : DD X ec W pos keys vals ks fs) :
    DD X ec W pos (some (.Constant (.str k) jj kp) :: keys) (v :: vals) (k :: ks) (consE f fs) := by
  obtain ⟨trs, p, q⟩ := hr.run
  refine ⟨(_, tD X.K ec W f) :: trs, pps_cons pe_str hv.run p, fun σ H Q R' h hk => ?_⟩
  have h1 := tDA_cons h
  show tD X.K ec W f σ H fun y H2 => tPairs trs σ H2 fun ps H3 => R' ((V.str k, y) :: ps) H3
  obtain ⟨B, env, fp, s, h2⟩ := h1
  refine ⟨B, env, fp, s, ?_⟩
  cases e : f env with
  | exc c => rw [e] at h2; exact h2
  | bad => rw [e] at h2; exact h2
  | ok t =>
    rw [e] at h2
    intro y H2 F e1 r n fr
    exact q σ H2 (fun vs H3 => Q (y :: vs) H3) _ (h2 y H2 F e1 r n fr) fun vs H3 hl hq => hk (y :: vs) H3 (by simp [hl]) hq
end
def dispN (ks : List Str) (fs : EnvT → R (List T)) : FE := fun env => do
  let ts ← fs env
  if ks.length = ts.length ∧ ks.Nodup then .ok (.dct .own ((ks.map T.str).zip ts)) else .bad
theorem mergeK_app : ∀ (more kvs : List (Key × V)), ((kvs ++ more).map (·.1)).Nodup → mergeK kvs more = kvs ++ more
  | [], kvs, _ => by simp [mergeK]
  | p :: r, kvs, h => by
    have hn : valV kvs p.1 = none := by
      cases q : valV kvs p.1 with
      | none => rfl
      | some v =>
        have m : p.1 ∈ kvs.map (·.1) := by
          unfold valV at q
          cases q2 : kvs.find? fun kv => decide (kv.1 = p.1) with
          | none => rw [q2] at q; cases q
          | some kv =>
            have h1 := List.find?_some q2
            have h2 := List.mem_of_find?_eq_some q2
            exact List.mem_map.mpr ⟨kv, h2, by simpa using h1⟩
        rw [List.map_append] at h
        exact absurd rfl ((List.nodup_append.mp h).2.2 p.1 m p.1 (by simp))
    have e : mergeK kvs (p :: r) = mergeK (putK kvs p.1 p.2) r := rfl
    rw [e, putK_new hn, mergeK_app r _ (by simpa using h)]
    simp
theorem repD_zip {K : PySem.W.Frag} {H : Hp} {P : Al} : ∀ (ks : List Str) {ts : List T} {vs : List V} {F : List Addr}, ks.length = ts.length → Reps K H P ts vs F → RepD K H P ((ks.map T.str).zip ts) ((ks.map T.str).zip vs) F
  | [], [], _, _, _, ⟨e, e'⟩ => ⟨by simp, e'⟩
  | [], _ :: _, _, _, h, _ => by simp at h
  | _ :: _, [], _, _, h, _ => by simp at h
  | k :: ks, t :: ts, _, _, h, ⟨v, r, F1, F2, e, e', c, d⟩ => by
    subst e
    exact ⟨v, (ks.map T.str).zip r, F1, F2, rfl, e', c, repD_zip ks (by simpa using h) d⟩
section
variable {X : Cx} {ec : Nat → Addr} {W : WX} {pos : Pos}
theorem DE.dispN {keys : List (Option Expr)} {vals : List Expr} {ks : List Str} {fs : EnvT → R (List T)} (h : DD X ec W pos keys vals ks fs) (hall : keys.all (·.isSome) = true := by rfl) (hl : keys.length = vals.length := by rfl) (h0 : keys ≠ [] := by simp) (h15 : keys.length ≤ 15 := by simp) (k15 : ks.length ≤ 15 := by simp) :
    DE X ec W (.Dict keys vals pos) (VS.dispN ks fs) := by
  obtain ⟨trs, p, q⟩ := h.run
  refine ⟨pe_mono (pe_disp p hall hl h0 h15) fun σ H Q ⟨B, env, fp, s, h⟩ => ?_⟩
  intro p hp
  have s1 := s.push (F := fun a => a = p) (Ext.new (o := .dK []) hp) (fun a ha => by subst ha; exact ⟨hp, by rw [upd_same]; simp⟩)
  have np0 : ∀ a, Aw fp a → a ≠ p := fun a ha z => by subst z; exact s.odom ha hp
  have go : tDA X.K ec W fs σ (upd H p (.dK [])) (fun vs H2 => ks.length = vs.length → H2 p = some (.dK []) ∧ ks.Nodup ∧ Q (.ref p) (upd H2 p (.dK ((ks.map Sum.inr).zip vs)))) := by
    refine ⟨_, env, fp, s1, ?_⟩
    unfold VS.dispN at h
    cases e : fs env with
    | exc c => rw [e] at h; exact fun H' x => h H' ((Ext.new hp).trans x)
    | bad => rw [e] at h; exact h
    | ok ts =>
      rw [e] at h
      simp only [R.ok_bind] at h
      intro vs H2 F e2 r n f hlv
      have eH : H2 p = some (.dK []) := e2 _ _ upd_same
      have e02 : Ext H H2 := (Ext.new hp).trans e2
      by_cases c : ks.length = ts.length ∧ ks.Nodup
      rotate_left
      · rw [if_neg c] at h; exact h.elim
      rw [if_pos c] at h
      refine ⟨eH, c.2, ?_⟩
      have np : ∀ a ∈ F, a ≠ p := fun a ha z => by
        subst z
        have := f a ha
        rw [upd_same] at this
        cases this
      refine h (.ref p) _ (p :: F) (fun a o ho => ?_) ⟨p, (ks.map T.str).zip vs, F, rfl, ⟨_, upd_same, .inl ⟨_, rfl, ?_, ?_⟩⟩, rfl, ?_⟩ (List.nodup_cons.mpr ⟨fun m => np p m rfl, n⟩) fun a ha => ?_
      · have : a ≠ p := fun z => by subst z; rw [hp] at ho; cases ho
        rw [upd_ne this]
        exact e02 a o ho
      · rw [List.map_fst_zip (by simp [hlv])]
        exact List.Pairwise.map _ (fun a b n z => n (by cases z; rfl)) c.2
      · clear h q r
        have : ∀ (ks : List Str) (vs : List V), (ks.map T.str).zip vs = ((ks.map Sum.inr).zip vs).map fun (p : Key × V) => (kT p.1, p.2) := by
          intro ks
          induction ks with
          | nil => intro vs; simp
          | cons k ks ih => intro vs; cases vs with
            | nil => simp
            | cons v vs => simp only [List.map_cons, List.zip_cons_cons, ih]; rfl
        exact this ks vs
      · refine RepD.keep (W := fun a => a = p) ⟨fun a o ho n => by rw [upd_ne n]; exact ho, fun a xs z => by subst z; rw [eH]; simp, fun a ob u z => by subst z; rw [eH]; simp⟩ _ _ _ (fun g a _ n d q => ?_) (fun a ha z => np a ha z) (repD_zip ks c.1 r)
        have up : a ≠ p → AF (Aw fp) (p :: F) a → AF (Aw fp) F a := fun n z => z.elim .inl fun m => (List.mem_cons.mp m).elim (fun e => absurd e n) fun m => .inr m
        cases g with
        | own => exact absurd rfl n
        | shr => exact ⟨⟨fun z => q.1 (.inl z), fun z => q.2.1 (up (fun e => q.1 (.inr e)) z), q.2.2⟩, fun z => q.1 (.inr z)⟩
        | prt => exact ⟨⟨fun z => q.1 (.inl z), fun z => q.2 (up (fun e => q.1 (.inr e)) z)⟩, fun z => q.1 (.inr z)⟩
        | brw => exact ⟨q, np0 a q⟩
        | fzn => exact ⟨⟨fun z => q.1 (.inl z), fun z => q.2 (up (fun e => q.1 (.inr e)) z)⟩, fun z => q.1 (.inr z)⟩
      · rcases List.mem_cons.mp ha with rfl | m
        · exact hp
        · have := f a m
          rw [upd_ne (np a m)] at this
          exact this
  refine q σ _ _ _ go fun vs H2 hlv hq => ?_
  obtain ⟨eH, hnd, hq⟩ := hq hlv
  refine ⟨eH, (ks.map Sum.inr).zip vs, ?_, by simp; omega, ?_⟩
  · clear go q h hq
    have : ∀ (ks : List Str) (vs : List V), (ks.map V.str).zip vs = ((ks.map Sum.inr).zip vs).map fun (kv : Key × V) => (kV kv.1, kv.2) := by
      intro ks
      induction ks with
      | nil => intro vs; simp
      | cons k ks ih => intro vs; cases vs with
        | nil => simp
        | cons v vs => simp only [List.map_cons, List.zip_cons_cons, ih]; rfl
    exact this ks vs
  · rw [mergeK_app _ [] ?_]
    · exact hq
    · rw [List.nil_append, List.map_fst_zip (by simp [hlv])]
      exact List.Pairwise.map _ (fun a b n z => n (by cases z; rfl)) hnd
end
@[simp] theorem dispN_def (ks : List Str) (fs : EnvT → R (List T)) (env : EnvT) : VS.dispN ks fs env = (fs env >>= fun ts => if ks.length = ts.length ∧ ks.Nodup then .ok (.dct .own ((ks.map T.str).zip ts)) else .bad) := id rfl
end VS

namespace VS
open PySem PySem.Spec L2
open PyProof.Rows hiding St
open PySem.W (alike dataLe Sortable AllAlike EachIs dataKind SortsAt dataKind_some dataKind_inv dataLt dataLt_tuple sortingHeap copyHeap sortVals sortVals_data sortVals_length)

/-! ### sorted([()]) -/
theorem unit_sorts {P : Program} {w : World} {A : Around} {s : Shared} {v : Value} {as : List Addr} (hu : A.units < cLine) (r : PySem.Reads s.heap v (.tuple []) as) : SortsAt P w A s (dataKind s.heap [.tuple []]) [v] := by
  have hal : AllAlike [PyData.tuple []] := fun d hd e he => by
    rw [List.mem_singleton.mp hd, List.mem_singleton.mp he]; rfl
  refine ⟨fun u m => by rw [List.mem_singleton.mp m]; exact ⟨_, dataKind_some hal (by simp) r⟩, tuples' true, fun E x y a b Q ha hb hq => ?_, fun h2 => absurd h2 (by simp)⟩
  obtain ⟨d, as1, hd, ra, rfl⟩ := dataKind_inv ha
  obtain ⟨e, as2, he, rb, rfl⟩ := dataKind_inv hb
  cases List.mem_singleton.mp hd
  cases List.mem_singleton.mp he
  have hq2 : Q (dataLt (.tuple []) (.tuple [])) s := hq
  rw [dataLt_tuple] at hq2
  cases ra with
  | @tuple l o xs n _ _ h1 h2 h3 h4 =>
    cases rb with
    | @tuple l2 o2 ys m _ _ k1 k2 k3 k4 =>
      have n1 : xs.size = 0 := by simpa using SeqAt.ReadsAll.length _ _ _ h4
      have n2 : ys.size = 0 := by simpa using SeqAt.ReadsAll.length _ _ _ k4
      exact PySem.W.kat_lt h1 h3 k1 k3 (PySem.W.katLex_alike [] [] 0 _ _ _ _ h4 k4 rfl (by simpa [PyData.depthAll] using hu) (fun _ _ x r t ex => nomatch ex) (by rw [n1, n2]; rfl) hq2)
theorem call_sortedU {X : Cx} (hu : X.A.units + 64 < cLine) : CallR X (.builtin "sorted") (fun xs H Q => ∃ (a : Addr) (vs : List V) (P : Al), xs = [.ref a] ∧ SqL X.K H a vs ∧ Reps X.K H P [.tup []] vs [] ∧
    ∀ ws p, Reps X.K H P [.tup []] ws [] → H p = none → Q (.ref p) (upd H p (.lst ws))) := by
  intro pins s σ H xs us Q I r h
  obtain ⟨a, vs, P, rfl, hs, hr, q⟩ := h
  obtain ⟨its, rv, pl, hl⟩ := I.list hs
  have := Vals.ref1 r
  subst this
  have e1 := each_vals (ts := [.tup []]) rfl hr rv
  have e2 := each_reads (ts := [.tup []]) I (fun t m => by rw [List.mem_singleton.mp m]; rfl) e1
  obtain ⟨v, rfl⟩ : ∃ v, its = [v] := by
    cases e1 with
    | cons _ t => cases t; exact ⟨_, rfl⟩
  obtain ⟨as, ra⟩ : ∃ as, PySem.Reads s.heap v (.tuple []) as := by
    cases e2 with
    | cons h _ => exact h
  have rk : PySem.Reads (sortingHeap (copyHeap s.heap [v]) (s.heap.objs.size + 1) [v]) v (.tuple []) as := PyProof.Rows.Reads.keeps (fun _ _ => PySem.W.sorting_copy_old) ra
  have S := unit_sorts (P := X.prog) (w := X.w) (A := X.A.in1.in1) (s := { s with heap := sortingHeap (copyHeap s.heap [v]) (s.heap.objs.size + 1) [v] }) (by show X.A.units + 1 + 1 < cLine; omega) rk
  refine PySem.W.sorted_vals pl.isList S (by rw [sizeLine_eq]; simp) ?_
  have hal : AllAlike ([T.tup []].map T.toD) := fun d hd e he => by
    have hd : d ∈ [PyData.tuple []] := hd
    have he : e ∈ [PyData.tuple []] := he
    rw [List.mem_singleton.mp hd, List.mem_singleton.mp he]; rfl
  have er2 : EachIs (fun u (t : T) => ∃ as, PySem.Reads (sortingHeap (copyHeap s.heap [v]) (s.heap.objs.size + 1) [v]) u t.toD as) [v] [.tup []] := .cons ⟨as, rk⟩ .nil
  have he := sortVals_data (h' := sortingHeap (copyHeap s.heap [v]) (s.heap.objs.size + 1) [v]) (enc := T.toD) false e1 er2 hal
  have hm : ([T.tup []] : List T).mergeSort (dataLe false T.toD) = [.tup []] := List.mergeSort_singleton _
  rw [hm] at he
  obtain ⟨ws, hv, hw⟩ := each_back he
  obtain ⟨ep, he'⟩ := PyProof.Rows.sortedAll_at s.heap [v] (List.toArray (sortVals (dataKind (sortingHeap (copyHeap s.heap [v]) (s.heap.objs.size + 1) [v]) ([T.tup []].map T.toD)) false [v] [v]))
  have lw : ws.length ≤ sizeLine := by
    have := hw.length
    rw [← this, sizeLine_eq]; simp
  exact ⟨.ref (s.heap.objs.size + 1), upd H (s.heap.objs.size + 1) (.lst ws), I.laid (t' := s.toks) (fun _ _ => PyProof.Rows.sortedAll_old) (Nat.le_succ _) ⟨lw, _, ep, hv, he'⟩, rfl, q ws _ hw (I.hok.fresh (Nat.le_succ _))⟩
def isUnit1 : List T → Bool
  | [.tup []] => true
  | _ => false
theorem isUnit1_iff {ts : List T} (h : isUnit1 ts = true) : ts = [.tup []] := by
  unfold isUnit1 at h
  split at h
  · rfl
  · cases h
def sortedYT (ts : List T) : Option T := match ts with
  | [.lst _ us] => if isUnit1 us = true then some (.lst .own us) else sortedXT ts
  | _ => sortedXT ts
section
variable {X : Cx} {ec : Nat → Addr} {W : WX} {e : Expr} {es : List Expr} {fs : EnvT → R (List T)} {p pos : Pos}
theorem DE.sortedY (hu : X.A.units + 64 < cLine) (hl : Gl X "sorted") (hm : X.mg "sorted" = none) (ha : DA X ec W (e :: es) fs) (he : starEach (e :: es) X.env = (false, eval e X.env) :: starEach es X.env := by rfl) (hpl : (backTo pos (starEach es X.env)).any (·.1) = false := by rfl) : DE X ec W (.Call (.Name "sorted" p) (e :: es) [] pos) (ap sortedYT fs) := by
  refine DE.callB (CallR.or (CallR.or (call_sortedL hu) (call_sortedT2 hu)) (call_sortedU hu)) (fun H O C A vs ts F Q t cz r e h => ?_) hl hm (by decide +kernel) ha (by decide) (by decide) he hpl
  rcases ts with _ | ⟨t1, _ | ⟨t2, ts⟩⟩
  · simp [sortedYT, sortedXT] at e
  · obtain ⟨v, r', F1, F2, rfl, rfl, c, d⟩ := r
    obtain ⟨rfl, rfl⟩ := d
    cases t1 with
    | lst g xs =>
      obtain ⟨a, us, G, rfl, l, p, r⟩ := c
      simp only [sortedYT] at e
      by_cases q : isUnit1 xs = true
      · rw [if_pos q] at e
        obtain rfl := isUnit1_iff q
        simp only [Option.some.injEq] at e
        subst e
        have := vals_foot (ts := [.tup []]) rfl r
        subst this
        exact .inr ⟨a, us, _, rfl, l.sq, r, fun ws p hw hp => h.lst cz hw (List.nil_sublist _) p hp⟩
      · rw [if_neg q] at e
        simp only [sortedXT] at e
        split at e
        · rename_i q; simp only [Option.some.injEq] at e; subst e
          have := vals_foot (sortable_vals q.1) r
          subst this
          exact .inl (.inl ⟨a, us, xs, _, rfl, l.sq, r, q.1, q.2, fun ws p hw hp => h.lst cz hw (List.nil_sublist _) p hp⟩)
        · cases e
    | tup xs =>
      obtain ⟨a, us, rfl, l, r⟩ := c
      simp only [sortedYT, sortedXT] at e
      split at e
      · rename_i q; simp only [Option.some.injEq] at e; subst e
        have := vals_foot (sortable_vals q.1) r
        subst this
        exact .inl (.inr ⟨a, us, xs, _, rfl, SqT.of l, r, q.1, q.2, fun ws p hw hp => h.lst cz hw (List.nil_sublist _) p hp⟩)
      · cases e
    | tupN xs =>
      obtain ⟨a, us, rfl, l, r⟩ := c
      simp only [sortedYT, sortedXT] at e
      split at e
      · rename_i q; simp only [Option.some.injEq] at e; subst e
        have := vals_foot (sortable_vals q.1) r
        subst this
        exact .inl (.inr ⟨a, us, xs, _, rfl, l.sqt, r, q.1, q.2, fun ws p hw hp => h.lst cz hw (List.nil_sublist _) p hp⟩)
      · cases e
    | _ => simp [sortedYT, sortedXT] at e
  · cases t1 <;> simp [sortedYT, sortedXT] at e
end
end VS

namespace VS
open PySem PySem.Spec L2
open PyProof.Rows hiding St

/-! ### list(x.values()) -/
theorem kv_vals : ∀ {kvs : List (Key × V)} {vs : List (Key × Value)}, KV kvs vs → Vals (kvs.map (·.2)) (vs.map (·.2))
  | _, _, .nil => .nil
  | _, _, .cons r t => .cons r.2 (kv_vals t)
theorem items_snd {vs : List (Key × Value)} {ys : Array Value} (h : ItemsOf (fun i v => ∃ k, vs[i]? = some (k, v)) ys vs.length) : ys.toList = vs.map (·.2) := by
  refine List.ext_getElem? fun i => ?_
  rw [List.getElem?_map, Array.getElem?_toList]
  by_cases c : i < vs.length
  · have c2 : i < ys.size := by rw [h.1]; exact c
    obtain ⟨k, e⟩ := h.2 i ys[i] (Array.getElem?_eq_getElem c2)
    rw [Array.getElem?_eq_getElem c2, e]; rfl
  · rw [Array.getElem?_eq_none (by rw [h.1]; omega), List.getElem?_eq_none (by omega)]; rfl
def tListVals (td : TE) : TE := fun σ H Q => td σ H fun x H1 => ∃ (d : Addr) (kvs : List (Key × V)), x = .ref d ∧ Rd H1 d (.dK kvs) ∧ ∀ q, H1 q = none → Q (.ref q) (upd H1 q (.lst (kvs.map (·.2))))
section
variable {X : Cx} {e : Expr} {td : TE} {p pos apos cpos : Pos}
theorem pe_listVals (hc : X.calm = true) (hg : Gl X "list") (hm : X.mg "list" = none) (he : PE X e td) (hbase : attributeBase e "values" X.env (eval e X.env) = eval e X.env) (hline : (apos.endLine == cpos.line) = true)
    (nb : starEach [.Call (.Attribute e "values" apos) [] [] cpos] X.env = (false, eval (.Call (.Attribute e "values" apos) [] [] cpos) X.env) :: starEach [] X.env) :
    PE X (.Call (.Name "list" p) [.Call (.Attribute e "values" apos) [] [] cpos] [] pos) (tListVals td) := by
  refine ⟨fun pins s σ H Q I h => ?_⟩
  refine Call_ (ld_blt I hg hm PyProof.Rows.boot_list (PyProof.Rows.callWith_type1 (args_cons (wpAny_Call_method (T := "dict") (id := "dict.values") hbase rfl hline PySem.F.plainAttrs_dict PySem.F.slot_dict_values PySem.F.type_dict_values (thn (he.run pins s σ H _ I h) fun u s1 ⟨x, H1, I1, rx, d, kvs, ex, hd, q⟩ => ?_)) nb) nb rfl))
  subst ex
  obtain rfl : u = Value.ref d := rx
  have ok : ObjOk X.prog X.w H1 s1.heap d (.dK kvs) := by
    rcases hd with hd | ⟨ob, hd⟩
    · exact I1.hok d _ hd
    · exact (I1.hok d _ hd).2
  obtain ⟨z, hs, vs, kv, hm1⟩ := ok
  have hl : kvs.length = vs.length := Paired.length kv
  obtain ⟨o, es, ep, ho, hx, hdt, kk, pp, nd⟩ := id hm1
  have hat : s1.heap.DictAt (mixKind X.prog X.w) d vs ep := ⟨o, es, ho, hx, hdt, kk, pp, nd⟩
  refine ⟨hm1.typeIs, hm1.mapOf.noDict, ?_⟩
  have keep : ∀ b ob, s1.heap.get? b = some ob → (s1.heap.push { cls := .type "dict_values", data := .fields #[.ref d] }).get? b = some ob := fun b ob e => Heap.get?_push_of_some _ e
  show wpAny _ _ (callWith cpos (.builtin "dict.values") [.ref d] [] []) _ X.xe s1
  refine method_meetsIn PySem.F.slot_dict_values PySem.F.entry_dict_values rfl (PySem.evalArgs_none ⟨rfl, hm1.typeIs, PySem.F.args_dict_values_1 _, _, meets_dict_values (mixKind X.prog X.w) d hs, ⟨vs, hm1⟩, args_nil ?_⟩)
  refine PySem.W.kdl_call (PySem.W.kdl_values (knd := mixKind X.prog X.w) (d := d) (r := s1.heap.objs.size) (kvs := vs) (ep := ep)) (I1.ok.hd hc) ⟨⟨_, Heap.get?_push_size _ rfl, rfl, rfl⟩, hat.push _⟩ (by rw [← hl]; exact z) fun h' tk acc c' k at' its => ?_
  have up : s1.heap.objs.size ≤ (s1.heap.push { cls := .type "dict_values", data := .fields #[.ref d] }).objs.size := by rw [Heap.size_push]; exact Nat.le_succ _
  refine ⟨.ref (s1.heap.push { cls := .type "dict_values", data := .fields #[.ref d] }).objs.size, upd H1 (s1.heap.push { cls := .type "dict_values", data := .fields #[.ref d] }).objs.size (.lst (kvs.map (·.2))), I1.laid (t' := tk) (fun b o e => k b o (keep b o e)) up
    ⟨by rw [List.length_map]; exact z, acc.toList, c', by rw [items_snd its]; exact kv_vals kv, by simpa using at'⟩, rfl, q _ (I1.hok.fresh up)⟩
end
theorem repD_vals {K : PySem.W.Frag} {H : Hp} {P : Al} : ∀ {kvs : List (T × T)} {es : List (T × V)} {G : List Addr}, RepD K H P kvs es G → Reps K H P (kvs.map (·.2)) (es.map (·.2)) G
  | [], _, _, ⟨e, e'⟩ => ⟨by rw [e]; rfl, e'⟩
  | (k0, t) :: ts, _, _, ⟨x, r, F1, F2, e, e', c, d⟩ => ⟨x, r.map (·.2), F1, F2, by rw [e]; rfl, e', c, repD_vals d⟩
def valsT : T → Option T
  | .dct _ kvs => if (kvs.all fun q => isK q.1) = true ∧ T.vals (kvs.map (·.2)) = true then some (.lst .own (kvs.map (·.2))) else none
  | _ => none
section
variable {X : Cx} {ec : Nat → Addr} {W : WX} {e : Expr} {fe : FE} {p pos apos cpos : Pos}
theorem DE.listVals (hc : X.calm = true) (hg : Gl X "list") (hm : X.mg "list" = none) (he : DE X ec W e fe) (hbase : attributeBase e "values" X.env (eval e X.env) = eval e X.env := by rfl) (hline : (apos.endLine == cpos.line) = true := by rfl)
    (nb : starEach [.Call (.Attribute e "values" apos) [] [] cpos] X.env = (false, eval (.Call (.Attribute e "values" apos) [] [] cpos) X.env) :: starEach [] X.env := by rfl) :
    DE X ec W (.Call (.Name "list" p) [.Call (.Attribute e "values" apos) [] [] cpos] [] pos) (un1 valsT fe) := by
  refine ⟨pe_mono (pe_listVals hc hg hm he.run hbase hline nb) fun σ H Q h => ?_⟩
  refine one_op (r := fun x H1 Q => ∃ (d : Addr) (kvs : List (Key × V)), x = .ref d ∧ Rd H1 d (.dK kvs) ∧ ∀ q, H1 q = none → Q (.ref q) (upd H1 q (.lst (kvs.map (·.2))))) (fun H O C A x tx F Q t cz r e h => ?_) h
  cases tx with
  | dct g kvs =>
    obtain ⟨a, es, G, rfl, l, fpp, rD⟩ := r
    simp only [valsT] at e
    split at e
    · rename_i q
      simp only [Option.some.injEq] at e
      subst e
      have main : ∃ o, Rd H a o ∧ DIs o es := by
        cases g with
        | own => obtain ⟨o, x, y⟩ := l; exact ⟨o, .inl x, y⟩
        | shr => obtain ⟨⟨o, x, y⟩, _⟩ := l; exact ⟨o, x, y⟩
        | prt => obtain ⟨⟨o, x, y⟩, _⟩ := l; exact ⟨o, x, y⟩
        | brw => obtain ⟨⟨o, x, y⟩, _⟩ := l; exact ⟨o, .inl x, y⟩
        | fzn => exact (l : False).elim
      obtain ⟨o, rd, di⟩ := main
      obtain ⟨ks, rfl, _, rfl, _⟩ := repD_dk rD di q.1
      have rv := repD_vals rD
      have := vals_foot q.2 rv
      subst this
      rw [List.map_map] at rv
      exact ⟨a, ks, rfl, rd, fun p hp => h.lst cz rv (List.nil_sublist _) p hp⟩
    · cases e
  | _ => simp [valsT] at e
end
end VS

namespace VS
open PySem PySem.Spec L2
open PyProof.Rows hiding St

/-! ### len of a dict with tuple keys -/
def rLenD : List V → Hp → VK → Prop := fun xs H Q => ∃ (a : Addr) (kvs : List (List Key × V)), xs = [.ref a] ∧ Rd H a (.dT kvs) ∧ Q (.int ((kvs.length : Nat) : Int)) H
theorem call_lenDT {X : Cx} : CallR X (.builtin "len") rLenD := fun pins s σ H xs us Q I r h => by
  obtain ⟨a, kvs, rfl, rd, q⟩ := h
  cases Vals.ref1 r
  obtain ⟨z, hd, ys, rel, dd⟩ := dt_rd I.hok rd
  have hl : kvs.length = ys.length := Paired.length rel
  rw [sizeLine_eq] at z
  refine call_len_dictH hd dd (by omega) ?_
  rw [← hl]
  exact ⟨.int _, H, I.tok _, ⟨_, rfl⟩, q⟩
theorem repD_dt {K : PySem.W.Frag} {H : Hp} {P : Al} {kvs : List (T × T)} {es : List (T × V)} {G : List Addr} {o : HO} (r : RepD K H P kvs es G) (d : DIs o es) (n : kvs ≠ []) (h : (kvs.all fun q => isKs q.1) = true) : ∃ ks : List (List Key × V), o = .dT ks ∧ ks.length = kvs.length := by
  have hk := repD_keys r
  rcases d with ⟨ks, rfl, nk, rfl⟩ | ⟨ks, rfl, ne, nk, rfl⟩
  · exfalso
    cases kvs with
    | nil => exact n rfl
    | cons p kvs =>
      cases ks with
      | nil => cases hk
      | cons q ks =>
        simp only [List.map_cons, List.cons.injEq] at hk
        have := List.all_eq_true.mp h p (by simp)
        rw [hk.1] at this
        simp [isKs, kOf_kT] at this
  · exact ⟨ks, rfl, by have := congrArg List.length hk; simpa using this.symm⟩
def lenYT : List T → Option T
  | [.dct g kvs] => if (kvs.all fun q => isK q.1) = true then lenT [.dct g kvs] else if kvs ≠ [] ∧ (kvs.all fun q => isKs q.1) = true then some (.int kvs.length) else none
  | ts => lenT ts
theorem lenYT_ok {K : PySem.W.Frag} : OpL K (fun xs H Q => rLen K xs H Q ∨ rLenD xs H Q) lenYT := by
  intro H O C A vs ts F Q t cz r e h
  have old : lenT ts = some t → rLen K vs H Q ∨ rLenD vs H Q := fun e => .inl (lenT_ok H O C A vs ts F Q t cz r e h)
  rcases ts with _ | ⟨t1, _ | ⟨t2, ts⟩⟩
  · exact old e
  · cases t1 with
    | dct g kvs =>
      simp only [lenYT] at e
      split at e
      · exact old e
      · split at e
        · rename_i q
          simp only [Option.some.injEq] at e
          subst e
          obtain ⟨v, r', F1, F2, rfl, rfl, c, d⟩ := r
          obtain ⟨rfl, rfl⟩ := d
          obtain ⟨a, es, G, rfl, l, p, rD⟩ := c
          obtain ⟨o, rd, di⟩ := l.rd
          obtain ⟨ks, rfl, hl⟩ := repD_dt rD di q.1 q.2
          exact .inr ⟨a, ks, rfl, rd, by rw [hl]; exact h.int⟩
        · cases e
    | _ => exact old e
  · exact old (by cases t1 <;> exact e)
section
variable {X : Cx} {ec : Nat → Addr} {W : WX} {e : Expr} {es : List Expr} {fs : EnvT → R (List T)} {p pos : Pos}
theorem DE.lenY (hl : Gl X "len") (hm : X.mg "len" = none) (ha : DA X ec W (e :: es) fs) (he : starEach (e :: es) X.env = (false, eval e X.env) :: starEach es X.env := by rfl) (hpl : (backTo pos (starEach es X.env)).any (·.1) = false := by rfl) : DE X ec W (.Call (.Name "len" p) (e :: es) [] pos) (ap lenYT fs) :=
  DE.callB (CallR.or (CallR.or call_len call_lenD) call_lenDT) lenYT_ok hl hm PySem.boot_len ha (by decide) (by decide) he hpl
end
end VS

namespace VS
open PySem PySem.Spec L2
open PyProof.Rows hiding St

/-! ### ys = d.setdefault(k, []); .. ; if c: ys.append(x): a second name for a list that a dict owns -/
def prtv : Tg → Tg
  | .own => .prt
  | .brw => .prt
  | g => g
mutual
theorem has_prtv : ∀ t : T, T.has .brw (T.tag prtv t) = false
  | .non => rfl
  | .bl _ => rfl
  | .int _ => rfl
  | .str _ => rfl
  | .tup ts => hasL_prtv ts
  | .tupN ts => hasL_prtv ts
  | .lst g ts => by
    show (decide (prtv g = .brw) || T.hasL .brw (T.tags prtv ts)) = false
    rw [hasL_prtv ts]; cases g <;> rfl
  | .dct g kvs => by
    show (decide (prtv g = .brw) || T.hasD .brw (T.tagD prtv kvs)) = false
    rw [hasD_prtv kvs]; cases g <;> rfl
theorem hasL_prtv : ∀ ts : List T, T.hasL .brw (T.tags prtv ts) = false
  | [] => rfl
  | t :: ts => by
    show (T.has .brw (T.tag prtv t) || T.hasL .brw (T.tags prtv ts)) = false
    rw [has_prtv t, hasL_prtv ts]; rfl
theorem hasD_prtv : ∀ ts : List (T × T), T.hasD .brw (T.tagD prtv ts) = false
  | [] => rfl
  | (k, t) :: ts => by
    show (T.has .brw (T.tag prtv t) || T.hasD .brw (T.tagD prtv ts)) = false
    rw [has_prtv t, hasD_prtv ts]; rfl
end
section
variable {K : PySem.W.Frag} {B : Bx} {env : EnvT} {σ : L2.St} {H H' : Hp} {fp : Fps}
/-- a slot of which nothing is known any more -/
theorem Sta.dropAt (s : Sta K B env σ H fp) (i : Nat) {σ' : L2.St} (hl : σ'.length = σ.length) (hσ : ∀ j, j ≠ i → σ'[j]? = σ[j]?) : Sta K B (env.set i none) σ' H (fset fp i []) := by
  have sub : ∀ a, Aw (fset fp i []) a → Aw fp a := fun a ⟨j, hj⟩ => by
    by_cases c : j = i
    · subst c; rw [fset_same] at hj; cases hj
    · rw [fset_ne c] at hj; exact ⟨j, hj⟩
  refine ⟨by rw [List.length_set, s.len, hl], fun j t e => ?_, fun j e => ?_, fun j => ?_, fun j l a hjl ha => ?_, s.ext, fun j a ha => ?_, s.dom, fun j a ha => ?_⟩
  · by_cases c : j = i
    · subst c
      by_cases q : j < env.length
      · rw [List.getElem?_set_self q] at e; cases e
      · rw [List.getElem?_eq_none (by simp; omega)] at e; cases e
    · rw [List.getElem?_set_ne (Ne.symm c)] at e
      obtain ⟨v, e', r⟩ := s.slot j t e
      refine ⟨v, by rw [hσ j c]; exact e', ?_⟩
      rw [fset_ne c]
      exact r.mono (Ext.refl _) fun g a _ _ _ p => Pm.to id (sub a) id p
  · by_cases c : j = i
    · subst c; exact fset_same
    · rw [fset_ne c]; exact s.emp j fun t z => e t (by rw [List.getElem?_set_ne (Ne.symm c)]; exact z)
  · by_cases c : j = i
    · subst c; rw [fset_same]; exact List.nodup_nil
    · rw [fset_ne c]; exact s.nd j
  · by_cases c : j = i
    · subst c; rw [fset_same] at ha; cases ha
    · rw [fset_ne c] at ha
      by_cases d : l = i
      · subst d; rw [fset_same]; simp
      · rw [fset_ne d]; exact s.dj j l a hjl ha
  · by_cases c : j = i
    · subst c; rw [fset_same] at ha; cases ha
    · rw [fset_ne c] at ha; exact s.own j a ha
  · by_cases c : j = i
    · subst c; rw [fset_same] at ha; cases ha
    · rw [fset_ne c] at ha; exact s.dis j a ha
theorem repD_at {P : Al} {k : T} {xs : List T} : ∀ {kvs : List (T × T)} {es : List (T × V)} {G : List Addr}, RepD K H P kvs es G → lookT kvs k = some (.lst .own xs) →
    ∃ b vs G1, lookE es k = some (.ref b) ∧ H b = some (.lst vs) ∧ b ∈ G ∧ Reps K H P xs vs G1 ∧ ∀ c ∈ G1, c ∈ G
  | [], _, _, _, e => by simp [lookT] at e
  | (kk, u) :: r, _, _, ⟨v, es, F1, F2, rfl, rfl, c, d⟩, e => by
    unfold lookT at e
    rw [List.find?_cons] at e
    by_cases q : kOf kk = kOf k
    · simp only [q, decide_true, Option.map_some, Option.some.injEq] at e
      subst e
      obtain ⟨b, vs, G1, rfl, l, fpe, rr⟩ := c
      have l : H b = some (.lst vs) := l
      have fpe : F1 = b :: G1 := fpe
      subst fpe
      exact ⟨b, vs, G1, by unfold lookE; rw [List.find?_cons_of_pos (by simpa using q)]; rfl, l, by simp, rr, fun c hc => by simp [hc]⟩
    · simp only [q, decide_false] at e
      obtain ⟨b, vs, G1, h1, h2, h3, h4, h5⟩ := repD_at d e
      exact ⟨b, vs, G1, by unfold lookE at *; rw [List.find?_cons_of_neg (by simpa using q)]; exact h1, h2, List.mem_append_right _ h3, h4, fun c hc => List.mem_append_right _ (h5 c hc)⟩
end
/-- slot r names the list that the dict at slot i holds under k -/
structure Lent (K : PySem.W.Frag) (B : Bx) (env : EnvT) (σ : L2.St) (H : Hp) (fp : Fps) (i r : Nat) (a b : Addr) (kvs : List (T × T)) (k : T) (xs : List T) : Prop where
  s : Sta K B env σ H fp
  ne : r ≠ i
  ei : env[i]? = some (some (.dct .own kvs))
  er : env[r]? = some none
  hv : σ[i]? = some (some (.ref a))
  hr : σ[r]? = some (some (.ref b))
  dd : ∃ o es G, H a = some o ∧ DIs o es ∧ fp i = a :: G ∧ RepD K H (Pm B.O B.C (Aw fp) Nz) kvs es G ∧ lookE es k = some (.ref b)
  lt : lookT kvs k = some (.lst .own xs)
def lentE (i r : Nat) (xs : List T) (env : EnvT) : EnvT := (env.set i none).set r (some (.lst .prt (T.tags prtv xs)))
section
variable {K : PySem.W.Frag} {B : Bx} {env : EnvT} {σ : L2.St} {H H' : Hp} {fp : Fps} {i r : Nat} {a b : Addr} {kvs : List (T × T)} {k : T} {xs : List T}
theorem Lent.peek (l : Lent K B env σ H fp i r a b kvs k xs) : ∃ fp', Sta K B (lentE i r xs env) σ H fp' := by
  obtain ⟨o, es, G, ho, d, fpe, rD, lk⟩ := l.dd
  obtain ⟨b', vs, G1, h1, h2, h3, h4, h5⟩ := repD_at rD l.lt
  rw [lk] at h1
  cases h1
  have s1 := l.s.dropAt i rfl (fun _ _ => rfl)
  have inI : ∀ c, c ∈ G → c ∈ fp i := fun c hc => by rw [fpe]; exact List.mem_cons_of_mem _ hc
  have nA : ∀ c, c ∈ fp i → ¬ Aw (fset fp i []) c := fun c hc ⟨j, hj⟩ => by
    by_cases q : j = i
    · subst q; rw [fset_same] at hj; cases hj
    · rw [fset_ne q] at hj; exact l.s.dj j i c q hj hc
  have sub : ∀ c, AF (Aw (fset fp i [])) [] c → Aw fp c := fun c z => by
    obtain ⟨j, hj⟩ := AF.nil _ z
    by_cases q : j = i
    · subst q; rw [fset_same] at hj; cases hj
    · rw [fset_ne q] at hj; exact ⟨j, hj⟩
  have rr : Rep K H (Pm B.O B.C (AF (Aw (fset fp i [])) []) (Aw (fset fp i []))) (.lst .prt (T.tags prtv xs)) (.ref b) [] := by
    refine ⟨b, vs, [], rfl, ⟨h2, (l.s.dis i b (inI b h3)).1, fun z => nA b (inI b h3) (AF.nil _ z)⟩, ⟨rfl, rfl⟩, Reps.tagN (f := prtv) (fun g => by cases g <;> simp [prtv]) ⟨rfl, fun g => by cases g <;> simp [prtv], fun g => by cases g <;> simp [prtv]⟩ (fun g c n p => ?_) xs vs G1 (fun c hc => ⟨(l.s.dis i c (inI c (h5 c hc))).1, fun z => nA c (inI c (h5 c hc)) (AF.nil _ z)⟩) h4⟩
    cases g with
    | own => exact absurd rfl n
    | shr => exact ⟨p.1, fun z => p.2.1 (sub c z), p.2.2⟩
    | prt => exact ⟨p.1, fun z => p.2 (sub c z)⟩
    | brw => exact (show False from p).elim
    | fzn => exact ⟨p.1, fun z => p.2 (sub c z)⟩
  have hb : T.has .brw (.lst .prt (T.tags prtv xs)) = false := by
    have h := hasL_prtv xs
    show (decide (Tg.prt = Tg.brw) || T.hasL .brw (T.tags prtv xs)) = false
    rw [h]; simp
  have st := s1.store (i := r) (Ext.refl _) (by simpa using (List.getElem?_eq_some_iff.mp l.er).1) rr List.nodup_nil (by simp) hb
  rw [set_self l.hr] at st
  exact ⟨_, st⟩
theorem Lent.grow (l : Lent K B env σ H fp i r a b kvs k xs) (e : Ext H H') : Lent K B env σ H' fp i r a b kvs k xs := by
  obtain ⟨o, es, G, ho, d, fpe, rD, lk⟩ := l.dd
  exact ⟨l.s.grow e, l.ne, l.ei, l.er, l.hv, l.hr, ⟨o, es, G, e _ _ ho, d, fpe, RepD.keep e.kp kvs es G (fun g a _ _ _ q => ⟨q, fun z => z⟩) (fun _ _ z => z) rD, lk⟩, l.lt⟩
theorem Lent.keep {w : Nat} {t : T} {y : V} {P : Al} {F : List Addr} (l : Lent K B env σ H fp i r a b kvs k xs) (hw : w < env.length) (hi : w ≠ i) (hr : w ≠ r) (hv : t.val = true) (ry : Rep K H P t y F) :
    Lent K B (env.set w (some t)) (σ.set w (some y)) H (fset fp w []) i r a b kvs k xs := by
  obtain ⟨o, es, G, ho, d, fpe, rD, lk⟩ := l.dd
  have st := l.s.store (i := w) (t := t) (v := y) (F := []) (Ext.refl _) hw (val_any hv ry) List.nodup_nil (by simp) (val_has .brw hv)
  refine ⟨st, l.ne, by rw [List.getElem?_set_ne hi]; exact l.ei, by rw [List.getElem?_set_ne hr]; exact l.er, by rw [List.getElem?_set_ne hi]; exact l.hv, by rw [List.getElem?_set_ne hr]; exact l.hr, ⟨o, es, G, ho, d, by rw [fset_ne (Ne.symm hi)]; exact fpe, ?_, lk⟩, l.lt⟩
  refine RepD.keep (Ext.refl _).kp kvs es G (fun g c _ _ _ p => ⟨Pm.to id (fun ⟨j, hj⟩ => ?_) id p, fun z => z⟩) (fun _ _ z => z) rD
  by_cases q : j = w
  · subst q; rw [fset_same] at hj; cases hj
  · rw [fset_ne q] at hj; exact ⟨j, hj⟩
theorem Lent.app {x : T} {y : V} {P : Al} {F : List Addr} {kvs2 : List (T × T)} {Q : VK} (l : Lent K B env σ H fp i r a b kvs k xs) (hv : x.val = true) (ry : Rep K H P x y F) (qa : apD kvs k x = some kvs2)
    (h : ∀ H' fp', Sta K B (env.set i (some (.dct .own kvs2))) σ H' fp' → Q .non H') : tyV K "list" (.ref b) H ∧ rAppend (.ref b) [y] H Q := by
  obtain ⟨o, es, G, ho, d, fpe, rD, lk⟩ := l.dd
  have s := l.s
  have hi : i < env.length := (List.getElem?_eq_some_iff.mp l.ei).1
  have ndG : (a :: G).Nodup := by rw [← fpe]; exact s.nd i
  obtain ⟨na, ng⟩ := List.nodup_cons.mp ndG
  obtain ⟨b', vs, h1, h2, h3, h4, h5⟩ := repD_app kvs es G kvs2 rD ng qa
  rw [lk] at h1
  cases h1
  refine ⟨.inl ⟨rfl, vs, SqL.of h2⟩, ?_⟩
  have bA : b ∈ fp i := by rw [fpe]; exact List.mem_cons_of_mem _ h3
  have hA : Aw fp b := ⟨i, bA⟩
  have ab : a ≠ b := fun z => na (z ▸ h3)
  refine ⟨b, vs, y, rfl, rfl, h2, h4, ?_⟩
  have kp := kp_upd (o' := .lst (vs ++ [y])) h2 (fun _ z => nomatch z) (fun _ _ z => nomatch z)
  have ry0 : Rep K H (Pm B.O B.C (AF (Aw fp) []) Nz) x y [] := val_any hv ry
  obtain ⟨G2, g1, g2⟩ := h5 H (Pm B.O B.C (AF (Aw fp) []) Nz) y [] (Ext.refl _) (fun g c n dd p => by
    have sub : ¬ Aw fp c → ¬ AF (Aw fp) [] c := fun z y => y.elim z fun m => by cases m
    have nb : ¬ Aw fp c → ¬ c = b := fun z y => z (y ▸ hA)
    cases g with
    | own => exact absurd rfl n
    | shr => exact ⟨⟨p.1, sub p.2.1, p.2.2⟩, nb p.2.1⟩
    | prt => exact ⟨⟨p.1, sub p.2⟩, nb p.2⟩
    | brw => exact (show False from p).elim
    | fzn => exact ⟨⟨p.1, sub p.2⟩, nb p.2⟩) (by simp) (ry0.past kp hA (by simp))
  have rn : Rep K (upd H b (.lst (vs ++ [y]))) (Pm B.O B.C (AF (Aw fp) []) Nz) (.dct .own kvs2) (.ref a) (a :: G2) := ⟨a, es, G2, rfl, ⟨o, by rw [upd_ne ab]; exact ho, d⟩, rfl, g1⟩
  obtain ⟨st, _, _, _⟩ := s.update (t' := .dct .own kvs2) (res := .non) (vr := .non) (F := []) (Fr := []) (Ext.refl _) hi bA l.hv List.nodup_nil (by simp) rn ⟨rfl, rfl⟩ (by
    rw [List.append_nil, List.append_nil, fpe]
    intro c
    have := g2 c
    simp only [List.append_nil, List.count_cons] at *; omega)
  exact h _ _ (st.unhide fun _ z => .inl z)
end

def alA (i r : Nat) (ft : EnvT → R Bool) (fx : FE) (kvs : List (T × T)) (k : T) (xs : List T) : FS := fun env => match ft (lentE i r xs env) with
  | .ok true => (match fx (lentE i r xs env) with
    | .ok x => if x.val = true then (match apD kvs k x with
      | some kvs2 => .nx (env.set i (some (.dct .own kvs2)))
      | none => .bad) else .bad
    | _ => .bad)
  | .ok false => .nx env
  | _ => .bad
def alM (i r w : Nat) (fe : FE) (f : List (T × T) → T → List T → FS) (kvs : List (T × T)) (k : T) (xs : List T) : FS := fun env => match fe (lentE i r xs env) with
  | .ok t => if t.val = true ∧ w < env.length ∧ w ≠ i ∧ w ≠ r then f kvs k xs (env.set w (some t)) else .bad
  | _ => .bad
def sdK (kvs : List (T × T)) (k : T) : List (T × T) := if (lookT kvs k).isSome = true then kvs else kvs ++ [(k, .lst .own [])]
def alB (i r : Nat) (fk : FE) (f : List (T × T) → T → List T → FS) : FS := fun env => match env[i]? with
  | some (some (.dct .own kvs)) => (match fk env with
    | .ok k => if keyFit kvs k = true ∧ kvs.length < sizeLine ∧ r < env.length ∧ r ≠ i then (match lookT (sdK kvs k) k with
      | some (.lst .own xs) => f (sdK kvs k) k xs ((env.set i (some (.dct .own (sdK kvs k)))).set r none)
      | _ => .bad) else .bad
    | .exc c => .exc c env
    | .bad => .bad)
  | _ => .bad
section
variable {K : PySem.W.Frag} {ec : Nat → Addr} {W : WX} {B : Bx} {env : EnvT} {σ : L2.St} {H : Hp} {fp : Fps} {i r w : Nat} {a b : Addr} {kvs : List (T × T)} {k : T} {xs : List T} {D : Ends} {ft : EnvT → R Bool} {fx fe fk : FE} {f : List (T × T) → T → List T → FS}
theorem alA_post (l : Lent K B env σ H fp i r a b kvs k xs) (h : PostS K ec W B D (alA i r ft fx kvs k xs env)) :
    tIfS (tDT K ec W ft) (tDrop (tBM K "list" rAppend (tVar r) (tCons (tD K ec W fx) tNil))) tNext D σ H := by
  obtain ⟨fp', s'⟩ := l.peek
  refine ⟨B, _, fp', s', ?_⟩
  unfold alA at h
  cases q : ft (lentE i r xs env) with
  | exc c => rw [q] at h; exact h.elim
  | bad => rw [q] at h; exact h.elim
  | ok c =>
    rw [q] at h
    intro H1 e1
    cases c with
    | false => exact h σ H1 fp (l.s.grow e1)
    | true =>
      rw [if_pos rfl]
      have l1 := l.grow e1
      obtain ⟨fp1, s1⟩ := l1.peek
      cases q2 : fx (lentE i r xs env) with
      | exc c => rw [q2] at h; exact h.elim
      | bad => rw [q2] at h; exact h.elim
      | ok x =>
        rw [q2] at h
        dsimp only at h
        by_cases hv : x.val = true
        rotate_left
        · rw [if_neg hv] at h; exact h.elim
        rw [if_pos hv] at h
        cases qa : apD kvs k x with
        | none => rw [qa] at h; exact h.elim
        | some kvs2 =>
          rw [qa] at h
          obtain ⟨o, es, G, ho, d, fpe, rD, lk⟩ := l1.dd
          obtain ⟨b', vs, h1, h2, _⟩ := repD_app kvs es G kvs2 rD (by have := l1.s.nd i; rw [fpe] at this; exact (List.nodup_cons.mp this).2) qa
          rw [lk] at h1
          cases h1
          refine ⟨.ref b, l.hr, .inl ⟨rfl, vs, SqL.of h2⟩, B, _, fp1, s1, ?_⟩
          rw [q2]
          intro y H2 F e2 ry nF fF
          exact ((l1.grow e2).app (Q := fun _ H' => D.nx σ H') hv ry qa fun H' fp' s' => h σ H' fp' s').2
theorem alM_post {T' : TS} (l : Lent K B env σ H fp i r a b kvs k xs) (h : PostS K ec W B D (alM i r w fe f kvs k xs env))
    (hf : ∀ env σ H fp, Lent K B env σ H fp i r a b kvs k xs → PostS K ec W B D (f kvs k xs env) → T' D σ H) : tSeq (tAsg (tD K ec W fe) (gName w)) T' D σ H := by
  obtain ⟨fp', s'⟩ := l.peek
  refine ⟨B, _, fp', s', ?_⟩
  unfold alM at h
  cases q : fe (lentE i r xs env) with
  | exc c => rw [q] at h; exact h.elim
  | bad => rw [q] at h; exact h.elim
  | ok t =>
    rw [q] at h
    dsimp only at h
    by_cases c : t.val = true ∧ w < env.length ∧ w ≠ i ∧ w ≠ r
    rotate_left
    · rw [if_neg c] at h; exact h.elim
    rw [if_pos c] at h
    intro y H1 F e1 ry nF fF
    exact hf _ _ _ _ ((l.grow e1).keep c.2.1 c.2.2.1 c.2.2.2 c.1 ry) h
theorem alB_post {T' : TS} (h : tS K ec W (alB i r fk f) D σ H) (hf : ∀ B env σ H fp a b kvs k xs, Lent K B env σ H fp i r a b kvs k xs → PostS K ec W B D (f kvs k xs env) → T' D σ H) :
    ∃ v0, σ[i]? = some (some v0) ∧ ∃ a, v0 = .ref a ∧ IsD H a ∧ tD K ec W fk σ H fun y H2 => ([] : List V).length ≤ sizeLine ∧ ∀ p, H2 p = none → SdX (upd H2 p (.lst [])) a y (.ref p) fun v H1 => T' D (σ.set r (some v)) H1 := by
  obtain ⟨B, env, fp, s, h⟩ := h
  unfold alB at h
  split at h
  rotate_left
  · exact h.elim
  rename_i kvs ev
  obtain ⟨v0, hv0, rs⟩ := s.slot i _ ev
  obtain ⟨a, es, G, rfl, lo, fpe, rD⟩ := rs
  obtain ⟨o, ho, d⟩ : ∃ o, H a = some o ∧ DIs o es := lo
  have fpe : fp i = a :: G := fpe
  have hi : i < env.length := (List.getElem?_eq_some_iff.mp ev).1
  have isd : IsD H a := by
    rcases d with ⟨ks, rfl, _⟩ | ⟨ks, rfl, _⟩
    · exact .inl ⟨ks, .inl ho⟩
    · exact .inr ⟨ks, .inl ho⟩
  refine ⟨.ref a, hv0, a, rfl, isd, B, env, fp, s, ?_⟩
  cases qk : fk env with
  | exc c => rw [qk] at h; exact fun H' x => h σ H' fp (s.grow x)
  | bad => rw [qk] at h; exact h.elim
  | ok k =>
    rw [qk] at h
    dsimp only at h
    intro y H2 Fk e2 rk nk fk2
    refine ⟨Nat.zero_le _, fun p hp => ?_⟩
    by_cases cf : keyFit kvs k = true ∧ kvs.length < sizeLine ∧ r < env.length ∧ r ≠ i
    rotate_left
    · rw [if_neg cf] at h; exact h.elim
    rw [if_pos cf] at h
    obtain ⟨c1, c2, hr, hne⟩ := cf
    have e3 : Ext H (upd H2 p (.lst [])) := e2.trans (Ext.new hp)
    have hpH : H p = none := e2.none hp
    have ho3 := e3 _ _ ho
    have s3 := s.grow e3
    have rk3 := rk.ext (Ext.new (o := .lst []) hp)
    have rD3 : RepD K (upd H2 p (.lst [])) (Pm B.O B.C (Aw fp) Nz) kvs es G := RepD.keep e3.kp kvs es G (fun g a _ _ _ q => ⟨q, fun z => z⟩) (fun _ _ z => z) rD
    have ls := look_same k rD
    split at h
    rotate_left
    · exact h.elim
    rename_i xs lt
    -- the end, alike both ways
    have tail : ∀ (b : Addr) (H1 : Hp) (fp1 : Fps) (env1 : EnvT) (o1 : HO) (es1 : List (T × V)) (G1 : List Addr), env1 = env.set i (some (.dct .own (sdK kvs k))) → Sta K B env1 σ H1 fp1 → H1 a = some o1 → DIs o1 es1 → fp1 i = a :: G1 → RepD K H1 (Pm B.O B.C (Aw fp1) Nz) (sdK kvs k) es1 G1 → lookE es1 k = some (.ref b) → T' D (σ.set r (some (.ref b))) H1 := by
      intro b H1 fp1 env1 o1 es1 G1 ee s1 ho1 d1 fpe1 rD1 lk1
      subst ee
      have hlen : r < (env.set i (some (T.dct .own (sdK kvs k)))).length := by simpa using hr
      have hσ : r < σ.length := by rw [← s.len]; exact hr
      have sd := s1.dropAt r (σ' := σ.set r (some (.ref b))) (by simp) (fun j c => List.getElem?_set_ne (Ne.symm c))
      refine hf B _ _ _ _ a b (sdK kvs k) k xs ⟨sd, hne, ?_, ?_, ?_, ?_, ⟨o1, es1, G1, ho1, d1, by rw [fset_ne (Ne.symm hne)]; exact fpe1, ?_, lk1⟩, lt⟩ h
      · rw [List.getElem?_set_ne hne, List.getElem?_set_self hi]
      · rw [List.getElem?_set_self hlen]
      · rw [List.getElem?_set_ne hne]; exact hv0
      · rw [List.getElem?_set_self hσ]
      · refine RepD.keep (Ext.refl _).kp (sdK kvs k) es1 G1 (fun g c _ _ _ p => ⟨Pm.to id (fun ⟨j, hj⟩ => ?_) id p, fun z => z⟩) (fun _ _ z => z) rD1
        by_cases q : j = r
        · subst q; rw [fset_same] at hj; cases hj
        · rw [fset_ne q] at hj; exact ⟨j, hj⟩
    refine sd_ok ho3 d rD3 rk3 c1 c2 (fun v lv => ?_) fun ln o' d' => ?_
    · rw [lv] at ls
      have ls : (lookT kvs k).isSome = true := ls
      have sk : sdK kvs k = kvs := if_pos ls
      rw [sk] at tail lt
      obtain ⟨b, vs, G1, h1, _⟩ := repD_at rD lt
      rw [lv] at h1
      cases h1
      exact tail b _ fp env o es G (set_self ev).symm s3 ho3 d fpe rD3 lv
    · rw [ln] at ls
      have ls : ¬ (lookT kvs k).isSome = true := by rw [ls]; simp
      have sk : sdK kvs k = kvs ++ [(k, .lst .own [])] := if_neg ls
      rw [sk] at tail
      have hA : Aw fp a := ⟨i, by rw [fpe]; exact List.mem_cons_self⟩
      have aG : a ∉ G := by have := s.nd i; rw [fpe] at this; exact (List.nodup_cons.mp this).1
      have ap : a ≠ p := fun z => by rw [z, hpH] at ho; cases ho
      have nt : (∀ xs, o ≠ .tup xs) ∧ ∀ ob u, o ≠ .frz ob u := by
        rcases d with ⟨ks, rfl, _⟩ | ⟨ks, rfl, _⟩ <;> exact ⟨(fun _ z => nomatch z), (fun _ _ z => nomatch z)⟩
      have kp := kp_upd (o' := o') ho3 nt.1 nt.2
      have snoc : ∀ {P : Al} {Hx : Hp} {kvs : List (T × T)} {es : List (T × V)} {G : List Addr}, RepD K Hx P kvs es G → Hx p = some (.lst []) → RepD K Hx P (kvs ++ [(k, .lst .own [])]) (es ++ [(k, .ref p)]) (G ++ [p]) := by
        intro P Hx kvs
        induction kvs with
        | nil => rintro es G ⟨rfl, rfl⟩ hx; exact ⟨.ref p, [], [p], [], rfl, rfl, ⟨p, [], [], rfl, hx, rfl, rfl, rfl⟩, rfl, rfl⟩
        | cons q kvs ih =>
          obtain ⟨k0, t0⟩ := q
          rintro es G ⟨v, r, F1, F2, rfl, rfl, c, dd⟩ hx
          exact ⟨v, r ++ [(k, .ref p)], F1, F2 ++ [p], rfl, by rw [List.append_assoc], c, ih dd hx⟩
      have r4 : RepD K (upd (upd H2 p (.lst [])) a o') (Pm B.O B.C (AF (Aw fp) [p]) Nz) (kvs ++ [(k, .lst .own [])]) (es ++ [(k, .ref p)]) (G ++ [p]) := by
        refine snoc (RepD.past (RepD.keep e3.kp kvs es G (fun g c _ n dd q => ⟨?_, fun z => z⟩) (fun _ _ z => z) rD) kp hA aG) (by rw [upd_ne (Ne.symm ap)]; exact upd_same)
        have sub : ¬ Aw fp c → ¬ AF (Aw fp) [p] c := fun z y => y.elim z fun m => dd (by rw [List.mem_singleton.mp m]; exact hpH)
        cases g with
        | own => exact absurd rfl n
        | shr => exact ⟨q.1, sub q.2.1, q.2.2⟩
        | prt => exact ⟨q.1, sub q.2⟩
        | brw => exact (show False from q).elim
        | fzn => exact ⟨q.1, sub q.2⟩
      have r5 : Rep K (upd (upd H2 p (.lst [])) a o') (Pm B.O B.C (AF (Aw fp) [p]) Nz) (.dct .own (kvs ++ [(k, .lst .own [])])) (.ref a) (a :: (G ++ [p])) := ⟨a, _, _, rfl, ⟨o', upd_same, d'⟩, rfl, r4⟩
      obtain ⟨st, _⟩ := s.update (t' := .dct .own (kvs ++ [(k, .lst .own [])])) (res := .non) (vr := .non) (F := [p]) (Fr := []) e3 hi (by rw [fpe]; exact List.mem_cons_self) hv0 (by simp) (by simpa using hpH) r5 ⟨rfl, rfl⟩ (by rw [List.append_nil, fpe]; exact Le.refl _)
      have st2 : Sta K B _ σ _ _ := st.unhide fun _ z => .inl z
      obtain ⟨v', hv', rs'⟩ := st2.slot i _ (List.getElem?_set_self hi)
      obtain ⟨a', es', G', ea', lo', fpe', rD'⟩ := rs'
      rw [hv0] at hv'
      cases hv'
      cases ea'
      obtain ⟨o2, eo2, d2⟩ : ∃ o, upd (upd H2 p (.lst [])) a o' a = some o ∧ DIs o es' := lo'
      rw [upd_same] at eo2
      cases eo2
      obtain rfl := DIs.uniq d2 d'
      have ll : lookE (es ++ [(k, .ref p)]) k = some (.ref p) := by
        unfold lookE at ln ⊢
        rw [Option.map_eq_none_iff] at ln
        rw [List.find?_append, ln]
        simp
      exact tail p _ _ _ _ _ _ rfl st2 upd_same d' fpe' rD' ll
end
section
variable {X : Cx} {ec : Nat → Addr} {W : WX} {k e c z : Expr} {fk fe fx : FE} {ft : EnvT → R Bool} {pos pos2 xp lp ap ap2 pr pr2 pw p1 p2 p3 p4 : Pos} {x y u : Str}
theorem DSs.al1 (i r : Nat) (hu : X.A.units + 1 < cLine) (hX : X.N.Nodup) (hk : DE X ec W k fk) (hc : DT X ec W c ft) (hz : DE X ec W z fx)
    (hN : X.N[i]? = some x := by rfl) (hv : Vis X.env.scope x := by first | exact Or.inl rfl | exact Or.inr (Or.inl rfl) | exact Or.inr (Or.inr rfl)) (hd : (x == ("__debug__" : Str)) = false := by decide) (hcd : (x == ("__classdict__" : Str)) = false := by decide)
    (hNy : X.N[r]? = some y := by rfl) (hvy : Vis X.env.scope y := by first | exact Or.inl rfl | exact Or.inr (Or.inl rfl) | exact Or.inr (Or.inr rfl)) (hdy : (y == ("__debug__" : Str)) = false := by decide) (hcdy : (y == ("__classdict__" : Str)) = false := by decide)
    (hxy : Loc X.env.scope y := by first | exact Or.inl rfl | exact Or.inr rfl)
    (hsw : swapsWith (.Call (.Attribute (.Name x xp) "setdefault" ap) [k, .List [] lp] [] pos) (some (.Name y pr)) p1.line X.env = pure false := by rfl) (hf : X.fn y = true ∨ X.env.scope.names.lookup y = some .local := by first | exact .inl rfl | exact .inr rfl)
    (m : M2 X (.Name x xp) "setdefault" ap k (.List [] lp) pos := by exact ⟨rfl, rfl, rfl, rfl⟩)
    (hbase : attributeBase (.Name y pr2) "append" X.env (eval (.Name y pr2) X.env) = eval (.Name y pr2) X.env := by rfl)
    (hfew : ((backTo pos2 (starEach [z] X.env)).all (fun x => !x.1) && (backToKw pos2 (keywordEach [] X.env)).all (fun x => x.1.isSome)
      && decide (([z] : List Expr).length + ([] : List Keyword).length + (if ([] : List Keyword).isEmpty then 0 else 1) < 30)) = true := by rfl)
    (hline : (ap2.endLine == pos2.line) = true := by rfl) (hs : starEach [z] X.env = (false, eval z X.env) :: starEach [] X.env := by rfl) (hplain : (backTo pos2 (starEach [] X.env)).any (·.1) = false := by rfl)
    (hsw2 : swapsWith (.Call (.Attribute (.Name y pr2) "append" ap2) [z] [] pos2) none p4.line X.env = pure false := by rfl) :
    DSs X ec W [.Assign [.Name y pr] (.Call (.Attribute (.Name x xp) "setdefault" ap) [k, .List [] lp] [] pos) p1, .If c [.Expr (.Call (.Attribute (.Name y pr2) "append" ap2) [z] [] pos2) p4] [] p3] (alB i r fk (alA i r ft fx)) := by
  have h1 := ps_set (pos := p1) (pos' := pr) hX hNy hxy (pe_xsetd hu (pe_var (i := i) hN hv hd hcd) hk.run (pe_lst pa_nil) m) hsw hf
  have h2 := pe_bm PySem.F.plainAttrs_list PySem.F.slot_list_append PySem.F.type_list_append mt_append (pe_var (i := r) (pos := pr2) hNy hvy hdy hcdy) (pa_cons hz.run pa_nil hs) hbase hfew hline hs hplain
  have h3 := ps_if (pos := p3) hc.run (pss_one (ps_expr (pos := p4) h2 hsw2)) pss_nil
  exact ⟨pss_mono (pss_cons h1 (pss_one h3)) fun D σ H h => alB_post (T' := tIfS (tDT X.K ec W ft) (tDrop (tBM X.K "list" rAppend (tVar r) (tCons (tD X.K ec W fx) tNil))) tNext) h fun B env σ H fp a b kvs k xs l p => alA_post l p⟩
theorem DSs.al2 (i r w : Nat) (hu : X.A.units + 1 < cLine) (hX : X.N.Nodup) (hk : DE X ec W k fk) (he : DE X ec W e fe) (hc : DT X ec W c ft) (hz : DE X ec W z fx)
    (hN : X.N[i]? = some x := by rfl) (hv : Vis X.env.scope x := by first | exact Or.inl rfl | exact Or.inr (Or.inl rfl) | exact Or.inr (Or.inr rfl)) (hd : (x == ("__debug__" : Str)) = false := by decide) (hcd : (x == ("__classdict__" : Str)) = false := by decide)
    (hNy : X.N[r]? = some y := by rfl) (hvy : Vis X.env.scope y := by first | exact Or.inl rfl | exact Or.inr (Or.inl rfl) | exact Or.inr (Or.inr rfl)) (hdy : (y == ("__debug__" : Str)) = false := by decide) (hcdy : (y == ("__classdict__" : Str)) = false := by decide)
    (hxy : Loc X.env.scope y := by first | exact Or.inl rfl | exact Or.inr rfl)
    (hsw : swapsWith (.Call (.Attribute (.Name x xp) "setdefault" ap) [k, .List [] lp] [] pos) (some (.Name y pr)) p1.line X.env = pure false := by rfl) (hf : X.fn y = true ∨ X.env.scope.names.lookup y = some .local := by first | exact .inl rfl | exact .inr rfl)
    (m : M2 X (.Name x xp) "setdefault" ap k (.List [] lp) pos := by exact ⟨rfl, rfl, rfl, rfl⟩)
    (hNw : X.N[w]? = some u := by rfl) (hlw : Loc X.env.scope u := by first | exact Or.inl rfl | exact Or.inr rfl)
    (hsww : swapsWith e (some (.Name u pw)) p2.line X.env = pure false := by rfl) (hfw : X.fn u = true ∨ X.env.scope.names.lookup u = some .local := by first | exact .inl rfl | exact .inr rfl)
    (hbase : attributeBase (.Name y pr2) "append" X.env (eval (.Name y pr2) X.env) = eval (.Name y pr2) X.env := by rfl)
    (hfew : ((backTo pos2 (starEach [z] X.env)).all (fun x => !x.1) && (backToKw pos2 (keywordEach [] X.env)).all (fun x => x.1.isSome)
      && decide (([z] : List Expr).length + ([] : List Keyword).length + (if ([] : List Keyword).isEmpty then 0 else 1) < 30)) = true := by rfl)
    (hline : (ap2.endLine == pos2.line) = true := by rfl) (hs : starEach [z] X.env = (false, eval z X.env) :: starEach [] X.env := by rfl) (hplain : (backTo pos2 (starEach [] X.env)).any (·.1) = false := by rfl)
    (hsw2 : swapsWith (.Call (.Attribute (.Name y pr2) "append" ap2) [z] [] pos2) none p4.line X.env = pure false := by rfl) :
    DSs X ec W [.Assign [.Name y pr] (.Call (.Attribute (.Name x xp) "setdefault" ap) [k, .List [] lp] [] pos) p1, .Assign [.Name u pw] e p2, .If c [.Expr (.Call (.Attribute (.Name y pr2) "append" ap2) [z] [] pos2) p4] [] p3] (alB i r fk (alM i r w fe (alA i r ft fx))) := by
  have h1 := ps_set (pos := p1) (pos' := pr) hX hNy hxy (pe_xsetd hu (pe_var (i := i) hN hv hd hcd) hk.run (pe_lst pa_nil) m) hsw hf
  have h0 := ps_set (pos := p2) (pos' := pw) hX hNw hlw he.run hsww hfw
  have h2 := pe_bm PySem.F.plainAttrs_list PySem.F.slot_list_append PySem.F.type_list_append mt_append (pe_var (i := r) (pos := pr2) hNy hvy hdy hcdy) (pa_cons hz.run pa_nil hs) hbase hfew hline hs hplain
  have h3 := ps_if (pos := p3) hc.run (pss_one (ps_expr (pos := p4) h2 hsw2)) pss_nil
  exact ⟨pss_mono (pss_cons h1 (pss_cons h0 (pss_one h3))) fun D σ H h => alB_post (T' := tSeq (tAsg (tD X.K ec W fe) (gName w)) (tIfS (tDT X.K ec W ft) (tDrop (tBM X.K "list" rAppend (tVar r) (tCons (tD X.K ec W fx) tNil))) tNext)) h fun B env σ H fp a b kvs k xs l p =>
    alM_post l p fun env σ H fp l p => alA_post l p⟩
end
end VS

namespace VS
open PySem PySem.Spec L2
open PyProof.Rows hiding St

/-! ### tuples of which it is known that they have no dict: made by tuple(..), asked by .index -/
def rTupN (K : PySem.W.Frag) : List V → Hp → VK → Prop := fun xs H Q => ∃ p ys, xs = [.ref p] ∧ SqL K H p ys ∧ ∀ l (ob : Obj), H l = none → ob.dict = none → Q (.ref l) (upd H l (.frz ob (.tup ys)))
theorem call_tupN {X : Cx} : CallR X (.type "tuple") (rTupN X.K) := by
  intro pins s σ H xs us Q I r h
  obtain ⟨p, ys, rfl, hq, q⟩ := h
  cases Vals.ref1 r
  obtain ⟨its, r', pl, hz⟩ := I.list hq
  have hlen := r'.length
  refine call_tuple_list pl.isList (fun h' kp => ?_) (by simp only [List.size_toArray] <;> omega)
  have I1 : Inv X pins σ H { s with heap := h' } := I.kept (t' := s.toks) kp
  have I2 : Inv X pins σ (upd H h'.objs.size (.frz { cls := .type "tuple", data := .seq its.toArray } (.tup ys))) { s with heap := h'.push { cls := .type "tuple", data := .seq its.toArray } } :=
    I1.laid (t' := s.toks) (fun b o e => Heap.get?_push_of_some _ e) (Nat.le_refl _) (show ObjOk X.prog X.w _ _ _ (.frz _ (.tup ys)) from ⟨Heap.get?_push_size _ rfl, hz, its, r', IsTup.new _ _⟩)
  exact ⟨.ref h'.objs.size, _, I2, rfl, q _ _ (I1.hok.fresh (Nat.le_refl _)) rfl⟩
def tupleNT : List T → Option T
  | [.lst _ ts] => some (.tupN ts)
  | _ => none
theorem Fin.tupN {K : PySem.W.Frag} {H : Hp} {O C A : Addr → Prop} {F0 G : List Addr} {Q : VK} {ts : List T} {vs : List V} (h : Fin K H O C A F0 Q (.tupN ts)) (cz : Cz H O C A F0) (r : Reps K H (Pm O C (AF A F0) A) ts vs G) (hG : G.Sublist F0) : ∀ p (ob : Obj), H p = none → ob.dict = none → Q (.ref p) (upd H p (.frz ob (.tup vs))) := fun p ob hp hd =>
  h (.ref p) (upd H p (.frz ob (.tup vs))) G (Ext.new hp) ⟨p, vs, rfl, ⟨ob, upd_same, hd⟩, r.more (Ext.new hp) (fun _ _ z => z) (fun a ha => .inl (hG.subset ha))⟩ (cz.nd.sublist hG) (fun a ha => .inr (hG.subset ha))
theorem tupleNT_ok {K : PySem.W.Frag} : OpL K (rTupN K) tupleNT := by
  intro H O C A vs ts F Q t cz r e h
  rcases ts with _ | ⟨t1, _ | ⟨t2, ts⟩⟩
  · simp [tupleNT] at e
  · obtain ⟨v, r', F1, F2, rfl, rfl, c, d⟩ := r
    obtain ⟨rfl, rfl⟩ := d
    cases t1 with
    | lst g xs =>
      obtain ⟨a, vs, G, rfl, l, p, r⟩ := c
      simp only [tupleNT, Option.some.injEq] at e; subst e
      exact ⟨a, vs, rfl, l.sq, fun l ob hl hd => Fin.tupN h cz r (by simpa using p.sublist) l ob hl hd⟩
    | _ => simp [tupleNT] at e
  · cases t1 <;> simp [tupleNT] at e
def rIndexT (K : PySem.W.Frag) : V → List V → Hp → VK → Prop := fun x xs H Q => ∃ (a : Addr) (ys : List V) (y : V) (j : Nat) (z : V), x = V.ref a ∧ xs = [y] ∧ SqT K H a ys ∧ flatV y = true ∧ ys.all flatV = true ∧ ys[j]? = some z ∧ eqV z y = true ∧
  (∀ (m : Nat) (z' : V), m < j → ys[m]? = some z' → eqV z' y = false) ∧ Q (.int (j : Nat)) H
theorem mt_tindex {X : Cx} : MtR X "tuple.index" (rIndexT X.K) := by
  intro pins s σ H x xs v us Q I rx rxs h
  obtain ⟨a, ys, y, j, z, rfl, rfl, hs, fy, fys, hz, hzj, hno, q⟩ := h
  cases rx
  cases rxs with
  | cons ry rt =>
    rename_i uy ut
    cases rt
    obtain ⟨its, rv, ⟨⟨cls, dd, data, sl⟩, ho, hc, n, hd⟩, hlen⟩ := I.tuple hs
    simp only at hc hd
    subst hc hd
    have hvl := rv.length
    obtain ⟨u, hu, ru⟩ := rv.get hz
    obtain ⟨hjl, hje⟩ := List.getElem?_eq_some_iff.mp hu
    have hj : j < its.toArray.size := by simpa using hjl
    have at_ : ∀ m (hm : m < its.length), ∃ y', ys[m]? = some y' ∧ RelV y' its[m] := fun m hm => by
      have hmy : m < ys.length := by omega
      have hy' : ys[m]? = some ys[m] := List.getElem?_eq_getElem hmy
      obtain ⟨u2, hu2, ru2⟩ := rv.get hy'
      obtain ⟨_, hme⟩ := List.getElem?_eq_some_iff.mp hu2
      exact ⟨_, hy', by rw [hme]; exact ru2⟩
    refine call_meets PySem.F.slot_tuple_index ⟨_, ho, rfl⟩ PySem.F.entry_tuple_index (PySem.F.args_tuple_index_2 _ _)
      (SeqAt.tuple_index2_found a its.toArray n dd sl uy (fun m => match ys[m]? with | some y' => eqV y' y | none => false) j hj (Nat.zero_le _) hj ?_ ?_) ⟨ho, fun m hm => ?_, ?_⟩
    · simp only [hz]; exact hzj
    · intro m hm _ hmj
      obtain ⟨y', hy', _⟩ := at_ m (by simpa using hm)
      simp only [hy']
      exact hno m _ hmj hy'
    · obtain ⟨y', hy', ry'⟩ := at_ m (by simpa using hm)
      simp only [hy']
      have h1 := mem_eqAt (A := X.A.in1) (s := s) ry fy rv fys (its[m]'(by simpa using hm)) (List.getElem_mem _)
      rw [eqU_of ry' (flat_at fys hy')] at h1
      simpa using h1
    · exact ⟨.int (j : Nat), H, I.tok _, ⟨_, rfl⟩, q⟩
def tBMN (r : V → List V → Hp → VK → Prop) (to : TE) (t : TA) : TE := fun σ H Q => to σ H fun x H1 => (∃ a vs, x = .ref a ∧ NAt H1 a vs) ∧ t σ H1 fun xs H2 => r x xs H2 Q
section
variable {X : Cx} {ec : Nat → Addr} {W : WX} {o e : Expr} {es : List Expr} {to : TE} {t : TA} {fo fe : FE} {fs : EnvT → R (List T)} {name : Str} {p apos pos : Pos} {id : String} {r : V → List V → Hp → VK → Prop}
theorem pe_bmN (slot : Slot "tuple" name id) (hty : typeOf (.builtin id) = pure (.type "method_descriptor")) (hm : MtR X id r) (ho : PE X o to) (ha : PA X (e :: es) t)
    (hbase : attributeBase o name X.env (eval o X.env) = eval o X.env := by rfl)
    (hfew : ((backTo pos (starEach (e :: es) X.env)).all (fun x => !x.1) && (backToKw pos (keywordEach [] X.env)).all (fun x => x.1.isSome)
      && decide ((e :: es).length + ([] : List Keyword).length + (if ([] : List Keyword).isEmpty then 0 else 1) < 30)) = true := by rfl)
    (hline : (apos.endLine == pos.line) = true := by rfl) (hs : starEach (e :: es) X.env = (false, eval e X.env) :: starEach es X.env := by rfl) (hplain : (backTo pos (starEach es X.env)).any (·.1) = false := by rfl) :
    PE X (.Call (.Attribute o name apos) (e :: es) [] pos) (tBMN r to t) := by
  refine ⟨fun pins s σ H Q I h => ?_⟩
  refine wpAny_Call_method_late hbase hfew hline rfl (thn (ho.run pins s σ H _ I h) fun v s1 ⟨x, H1, I1, r1, ty, q1⟩ => ?_)
  obtain ⟨a, vs, rfl, ob, ha1, hd⟩ := ty
  obtain rfl : v = Value.ref a := r1
  obtain ⟨hg, _, its, rv, o', ho', hc, _⟩ : s1.heap.get? a = some ob ∧ ObjOk X.prog X.w H1 s1.heap a (.tup vs) := I1.hok a _ ha1
  refine ⟨"tuple", id, PySem.F.plainAttrs_tuple, slot, hty, ⟨o', ho', hc⟩, fun b e => by cases e; exact ⟨ob, hg, hd⟩, ?_⟩
  have hA := ha.run pos pins s1 σ H1 _ I1 q1
  rw [hs] at hA ⊢
  refine Calls.callWith_builtin (by show (false || (backTo pos (starEach es X.env)).any (·.1)) = false; rw [hplain] <;> rfl) (Calls.evalArgs_plain ?_)
  exact thn hA fun us s2 ⟨vs, H2, I2, r2, q2⟩ => hm pins s2 σ H2 (.ref a) vs _ us Q I2 rfl r2 q2
/-- x.index(y) at such a tuple -/
def lN1F (g : List T → T → Option T) (fo fe : FE) : FE := fun env => do
  let x ← fo env
  match x with
  | .tupN ts => do let y ← fe env; R.ofO (g ts y)
  | _ => .bad
theorem DE.indexN (ho : DE X ec W o fo) (he : DE X ec W e fe) (hbase : attributeBase o "index" X.env (eval o X.env) = eval o X.env := by rfl)
    (hfew : ((backTo pos (starEach [e] X.env)).all (fun x => !x.1) && (backToKw pos (keywordEach [] X.env)).all (fun x => x.1.isSome)
      && decide (([e] : List Expr).length + ([] : List Keyword).length + (if ([] : List Keyword).isEmpty then 0 else 1) < 30)) = true := by rfl)
    (hline : (apos.endLine == pos.line) = true := by rfl) (hs : starEach [e] X.env = (false, eval e X.env) :: starEach [] X.env := by rfl) (hplain : (backTo pos (starEach [] X.env)).any (·.1) = false := by rfl) :
    DE X ec W (.Call (.Attribute o "index" apos) [e] [] pos) (lN1F idxT fo fe) := by
  refine ⟨pe_mono (pe_bmN PySem.F.slot_tuple_index PySem.F.type_tuple_index mt_tindex ho.run (DA.cons he DA.nil hs).run hbase hfew hline hs hplain) fun σ H Q ⟨B, env, fp, s, h⟩ => ?_⟩
  refine tD.one (k := fun x => match x with | .tupN ts => (do let y ← fe env; R.ofO (idxT ts y)) | _ => .bad) (Q := Q) s h fun x tx Fx H1 e1 rx nx fx _ p => ?_
  cases tx with
  | tupN ts =>
    obtain ⟨a, vs, rfl, l, r⟩ := rx
    refine ⟨⟨a, vs, rfl, l⟩, ?_⟩
    have q := tD.one (k := fun y => R.ofO (idxT ts y)) (Q := Q) (R' := fun y H2 => rIndexT X.K (.ref a) [y] H2 Q) (s.grow e1) (p.ext e1) fun y ty Fy H2 e2 ry ny fy _ p' => ?_
    · obtain ⟨B', env', fp', s', h'⟩ := tDA_one q
      refine ⟨B', env', fp', s', ?_⟩
      unfold consE at h' ⊢
      cases q2 : fe env' with
      | exc c => rw [q2] at h'; exact h'
      | bad => rw [q2] at h'; exact h'
      | ok t =>
        rw [q2] at h'
        intro vs H2 F e2 r2 n f
        obtain ⟨v, rfl, z⟩ := h' vs H2 F e2 r2 n f
        exact z
    · unfold idxT at p'
      split at p'
      · rename_i c
        cases q : eqAt ty ts with
        | none => rw [q] at p'; exact p'.elim
        | some j =>
          rw [q] at p'
          obtain ⟨t, h1, h2, h3⟩ := eqAt_at q
          have sq : SqT X.K H2 a vs := by
            obtain ⟨ob, w, _⟩ := l
            exact .inl (.inr ⟨ob, e2 _ _ w⟩)
          have ey := rep_flat c.1 ry
          have ev := reps_flat c.2 r
          subst ey ev
          refine ⟨a, _, fV ty, j, fV t, rfl, rfl, sq, fV_flat ty, all_fV ts, by rw [List.getElem?_map, h1]; rfl, ?_, fun m z' hm hz => ?_, ?_⟩
          · rw [fV_eq (List.all_eq_true.mp c.2 t (List.mem_of_getElem? h1)) c.1]; exact h2
          · rw [List.getElem?_map] at hz
            obtain ⟨u, hu, rfl⟩ := Option.map_eq_some_iff.mp hz
            rw [fV_eq (List.all_eq_true.mp c.2 u (List.mem_of_getElem? hu)) c.1]
            exact h3 m u hm hu
          · have p2 : ∀ v H' F, Ext H1 H' → Rep X.K H' (Pm B.O B.C (AF (Aw fp) F) (Aw fp)) (.int (j : Nat)) v F → F.Nodup → (∀ a ∈ F, H1 a = none) → Q v H' := p'
            exact p2 _ H2 [] e2 ⟨rfl, rfl⟩ List.nodup_nil (by simp)
      · exact p'.elim
  | _ => exact p.elim
theorem DE.tupleN (hl : Gl X "tuple") (hm : X.mg "tuple" = none) (ha : DA X ec W (e :: es) fs) (he : starEach (e :: es) X.env = (false, eval e X.env) :: starEach es X.env := by rfl) (hpl : (backTo pos (starEach es X.env)).any (·.1) = false := by rfl) : DE X ec W (.Call (.Name "tuple" p) (e :: es) [] pos) (ap tupleNT fs) :=
  DE.callT call_tupN tupleNT_ok hl hm (by decide +kernel) ha (by decide) (by decide) he hpl
end
@[simp] theorem tupleNT_lst (g : Tg) (ts : List T) : tupleNT [.lst g ts] = some (.tupN ts) := id rfl
@[simp] theorem lenT_tupN (ts : List T) : lenT [.tupN ts] = some (.int ts.length) := id rfl
@[simp] theorem listT_tupN (ts : List T) : listT [.tupN ts] = some (.lst .own ts) := id rfl
@[simp] theorem isT_tupN (n : String) (i : List T) : isT n (.tupN i) = some (.bl ("tuple" == n || ("tuple" == "bool" && n == "int"))) := id rfl
theorem ixT_tupN {xs : List T} {i : Int} (h0 : 0 ≤ i) (h1 : i < xs.length) : ixT (.tupN xs) (.int i) = some (xs.getD i.toNat .non) := atI_ok _ h0 h1
theorem ixT_tupNM {α : Type} {L : List α} {f : α → T} {i : Int} (d : α) (h0 : 0 ≤ i) (h1 : i < L.length) : ixT (.tupN (L.map f)) (.int i) = some (f (L.getD i.toNat d)) := ixT_tupM (f := f) d h0 h1
@[simp] theorem itemsOf_tupN {lp : Bool} {ts : List T} (h : T.vals ts = true) : itemsOf lp (.tupN ts) = .ok ts := itemsOf_tup (lp := lp) h
theorem inT_tupN (k : Key) (ks : List Key) : inT (kT k) (.tupN (ks.map kT)) = some (decide (k ∈ ks)) := inT_kT (x := .tup (ks.map kT)) (.inl rfl)
@[simp] theorem inO_tupN (k : Key) (ks : List Key) : inO (kT k) (.tupN (ks.map kT)) = some (.bl (decide (k ∈ ks))) := by simp [inO, inT_tupN]
@[simp] theorem ninO_tupN (k : Key) (ks : List Key) : ninO (kT k) (.tupN (ks.map kT)) = some (.bl (!decide (k ∈ ks))) := by simp [ninO, inT_tupN]
def nO (x : T) (k : List T → R T) : R T := match x with
  | .tupN ts => k ts
  | _ => .bad
@[simp] theorem nO_tupN (ts : List T) (k : List T → R T) : nO (.tupN ts) k = k ts := id rfl
@[simp] theorem lN1F_def (g : List T → T → Option T) (fo fe : FE) (env : EnvT) : lN1F g fo fe env = (fo env >>= fun x => nO x fun ts => fe env >>= fun y => R.ofO (g ts y)) := by
  unfold lN1F nO; rfl
end VS

namespace VS
open PySem PySem.Spec L2
open PyProof.Rows hiding St

/-! ### x[c], x[d] = e, f : two places of a list of one's own -/
def swS (i : Nat) (c d : Int) (fs : EnvT → R (List T)) : FS := fun env => match env[i]? with
  | some (some (.lst .own xs)) => bS env (fs env) fun ts => match ts with
    | [t, u] => if t.val = true ∧ u.val = true then (match ixN xs.length c, ixN xs.length d with
      | some j, some k => .nx (env.set i (some (.lst .own ((xs.set j t).set k u))))
      | _, _ => .bad) else .bad
    | _ => .bad
  | _ => .bad
def parK (i j : Nat) (env : EnvT) (ts : List T) : Out := match ts with
  | [t, u] => if t.val = true ∧ u.val = true ∧ i < env.length ∧ j < env.length then .nx ((env.set i (some t)).set j (some u)) else .bad
  | _ => .bad
def parS (i j : Nat) (fs : EnvT → R (List T)) : FS := fun env => bS env (fs env) (parK i j env)
@[simp] theorem parS_def (i j : Nat) (fs : EnvT → R (List T)) (env : EnvT) : parS i j fs env = bS env (fs env) (parK i j env) := id rfl
@[simp] theorem parK_2 (i j : Nat) (env : EnvT) (t u : T) : parK i j env [t, u] = if t.val = true ∧ u.val = true ∧ i < env.length ∧ j < env.length then .nx ((env.set i (some t)).set j (some u)) else .bad := id rfl
section
variable {X : Cx} {ec : Nat → Addr} {W : WX} {es : List Expr} {fs : EnvT → R (List T)} {x : Str} {xp xp2 pos p1 p2 tp ep cp cp2 : Pos} {kk k2 : Nat} {k3 k4 : Option Str}
theorem DS.swap (i : Nat) (c d : Int) {ec1 ec2 : Expr} (hcl : X.calm = true) (ha : DA X ec W es fs) (h1 : PE X ec1 (tC (.int c))) (h2 : PE X ec2 (tC (.int d)))
    (hN : X.N[i]? = some x := by rfl) (hv : Vis X.env.scope x := by first | exact Or.inl rfl | exact Or.inr (Or.inl rfl) | exact Or.inr (Or.inr rfl)) (hd : (x == ("__debug__" : Str)) = false := by decide) (hcd : (x == ("__classdict__" : Str)) = false := by decide)
    (a1 : ∀ v, assign (.Subscript (.Name x xp) ec1 p1) X.env v = (do
      let ov ← holding [v] (eval (.Name x xp) X.env)
      let iv ← holding [v, ov] (eval ec1 X.env)
      standAt p1
      holding [v, ov, iv] (setItem ov iv v)
      release [v, ov, iv] []) := by intro _; rfl)
    (a2 : ∀ v, assign (.Subscript (.Name x xp2) ec2 p2) X.env v = (do
      let ov ← holding [v] (eval (.Name x xp2) X.env)
      let iv ← holding [v, ov] (eval ec2 X.env)
      standAt p2
      holding [v, ov, iv] (setItem ov iv v)
      release [v, ov, iv] []) := by intro _; rfl)
    (as1 : (assignEach [.Subscript (.Name x xp) ec1 p1, .Subscript (.Name x xp2) ec2 p2] X.env).map (·.2) = assign (.Subscript (.Name x xp) ec1 p1) X.env :: (assignEach [.Subscript (.Name x xp2) ec2 p2] X.env).map (·.2) := by rfl)
    (as2 : (assignEach [.Subscript (.Name x xp2) ec2 p2] X.env).map (·.2) = assign (.Subscript (.Name x xp2) ec2 p2) X.env :: (assignEach [] X.env).map (·.2) := by rfl)
    (hn : (assignEach [.Subscript (.Name x xp) ec1 p1, .Subscript (.Name x xp2) ec2 p2] X.env).length = 2 := by rfl) (hst : (assignEach [.Subscript (.Name x xp) ec1 p1, .Subscript (.Name x xp2) ec2 p2] X.env).findIdx? (·.1) = none := by rfl)
    (hs : swapsWithSole [.Tuple [.Subscript (.Name x xp) ec1 p1, .Subscript (.Name x xp2) ec2 p2] kk tp] (.Tuple es k2 ep) pos.line X.env = pure false := by rfl)
    (hw : swappedStores [.Tuple [.Subscript (.Name x xp) ec1 p1, .Subscript (.Name x xp2) ec2 p2] kk tp] (.Tuple es k2 ep) X.env = pure none := by rfl)
    (hst2 : (assignEach [.Tuple [.Subscript (.Name x xp) ec1 p1, .Subscript (.Name x xp2) ec2 p2] kk tp] X.env).map (·.2) = [assign (.Tuple [.Subscript (.Name x xp) ec1 p1, .Subscript (.Name x xp2) ec2 p2] kk tp) X.env] := by rfl) :
    DS X ec W (.Assign [.Tuple [.Subscript (.Name x xp) ec1 p1, .Subscript (.Name x xp2) ec2 p2] kk tp] (.Tuple es k2 ep) pos) (swS i c d fs) := by
  have g1 := pg_sub (pos := p1) (pe_var (i := i) (pos := xp) hN hv hd hcd) h1 (set_list (X := X)) a1
  have g2 := pg_sub (pos := p2) (pe_var (i := i) (pos := xp2) hN hv hd hcd) h2 (set_list (X := X)) a2
  have g := pg_tup (pos := tp) (k := kk) hcl (pgs_cons g1 (pgs_cons g2 pgs_nil as2) as1) hn hst
  refine ⟨ps_mono (ps_asg (pe_tup ha.run) g hs hw hst2) fun D σ H ⟨B, env, fp, s, h⟩ => ?_⟩
  unfold swS at h
  split at h
  rotate_left
  · exact h.elim
  rename_i xs ev
  obtain ⟨v0, hv0, rs⟩ := s.slot i _ ev
  obtain ⟨p, vs, G, rfl, lo, fpe, r0⟩ := rs
  have hp : H p = some (.lst vs) := lo
  have fpe : fp i = p :: G := fpe
  have hi : i < env.length := (List.getElem?_eq_some_iff.mp ev).1
  refine ⟨B, env, fp, s, ?_⟩
  cases q : fs env with
  | exc c => rw [q] at h; exact fun H' z => h σ H' fp (s.grow z)
  | bad => rw [q] at h; exact h.elim
  | ok ts =>
    rw [q] at h
    simp only [bS_ok] at h
    split at h
    rotate_left
    · exact h.elim
    rename_i t u
    by_cases hval : t.val = true ∧ u.val = true
    rotate_left
    · rw [if_neg hval] at h; exact h.elim
    rw [if_pos hval] at h
    cases e1 : ixN xs.length c with
    | none => rw [e1] at h; exact h.elim
    | some j =>
      cases e2 : ixN xs.length d with
      | none => rw [e1, e2] at h; exact h.elim
      | some k =>
        rw [e1, e2] at h
        rintro us H1 F ex ⟨w1, r', F1, F2, rfl, rfl, rt, w2, r'', F3, F4, rfl, rfl, ru, rfl, rfl⟩ _ _
        refine ⟨by rw [sizeLine_eq]; simp, fun a ha => ?_⟩
        have ex2 : Ext H (upd H1 a (.tup [w1, w2])) := ex.trans (Ext.new ha)
        have hp2 := ex2 _ _ hp
        have hl := r0.length
        refine ⟨a, [w1, w2], rfl, SqT.of upd_same, rfl, w1, [w2], rfl, .ref p, hv0, ?_⟩
        refine ⟨p, vs, c, j, rfl, rfl, hp2, by rw [← hl]; exact e1, ?_⟩
        refine ⟨w2, [], rfl, .ref p, hv0, ?_⟩
        refine ⟨p, vs.set j w1, d, k, rfl, rfl, upd_same, by rw [List.length_set, ← hl]; exact e2, ?_⟩
        refine ⟨rfl, ?_⟩
        rw [upd_upd]
        have pA : Aw fp p := ⟨i, by rw [fpe]; exact List.mem_cons_self⟩
        have ndG : (p :: G).Nodup := by rw [← fpe]; exact s.nd i
        have pG := (List.nodup_cons.mp ndG).1
        have kp := kp_upd (o' := .lst ((vs.set j w1).set k w2)) hp2 (fun _ z => nomatch z) (fun _ _ z => nomatch z)
        have rt0 : Rep X.K H1 (Pm B.O B.C (AF (Aw fp) []) Nz) t w1 [] := val_any hval.1 rt
        have ru0 : Rep X.K H1 (Pm B.O B.C (AF (Aw fp) []) Nz) u w2 [] := val_any hval.2 ru
        have r00 : Reps X.K H1 (Pm B.O B.C (AF (Aw fp) []) Nz) xs vs G := r0.mono ex fun g a _ _ _ p => Pm.to id (fun z => AF.nil _ z) id p
        obtain ⟨G', rs1, le1⟩ := reps_set (j := j) r00 rt0
        obtain ⟨G2, rs2, le2⟩ := reps_set (j := k) rs1 ru0
        rw [List.append_nil] at le1 le2
        have rs3 := rs2.ext (Ext.new (o := .tup [w1, w2]) ha)
        have pG2 : p ∉ G2 := fun m => pG (le1.mem (le2.mem m))
        have rn : Rep X.K (upd (upd H1 a (.tup [w1, w2])) p (.lst ((vs.set j w1).set k w2))) (Pm B.O B.C (AF (Aw fp) []) Nz) (.lst .own ((xs.set j t).set k u)) (.ref p) (p :: G2) :=
          ⟨p, _, G2, rfl, upd_same, rfl, rs3.past kp pA pG2⟩
        obtain ⟨st, _, _, _⟩ := s.update (t' := .lst .own ((xs.set j t).set k u)) (res := .non) (vr := .non) (F := []) (Fr := []) ex2 hi (by rw [fpe]; exact List.mem_cons_self) hv0 List.nodup_nil (by simp) rn ⟨rfl, rfl⟩ (by
          rw [List.append_nil, List.append_nil, fpe]
          intro b
          have := le1 b
          have := le2 b
          simp only [List.count_cons] at *; omega)
        exact h _ _ _ (st.unhide fun _ z => .inl z)
theorem DS.par (i j : Nat) {y : Str} {a b : Expr} {px py pt pt2 : Pos} {kt k5 : Nat} (hcl : X.calm = true) (hX : X.N.Nodup) (ha : DA X ec W [a, b] fs) (hij : i ≠ j := by decide)
    (hN : X.N[i]? = some x := by rfl) (hNy : X.N[j]? = some y := by rfl) (hx : X.env.scope.names.lookup x = some .local := by rfl) (hy : X.env.scope.names.lookup y = some .local := by rfl)
    (hw : swappedStores [.Tuple [.Name x px, .Name y py] kt pt] (.Tuple [a, b] k5 pt2) X.env = pure (some [x, y]) := by rfl)
    (hs : swapsWithSole [.Tuple [.Name x px, .Name y py] kt pt] (.Tuple [a, b] k5 pt2) pos.line X.env = pure false := by rfl) :
    DS X ec W (.Assign [.Tuple [.Name x px, .Name y py] kt pt] (.Tuple [a, b] k5 pt2) pos) (parS i j fs) := by
  refine ⟨ps_mono (ps_par hcl hX hN hNy hij hx hy ha.run hw hs) fun D σ H ⟨B, env, fp, s, h⟩ => ⟨B, env, fp, s, ?_⟩⟩
  have h : PostS X.K ec W B D (bS env (fs env) (parK i j env)) := h
  cases q : fs env with
  | exc c => rw [q] at h; exact fun H' z => h σ H' fp (s.grow z)
  | bad => rw [q] at h; exact h.elim
  | ok ts =>
    rw [q] at h
    simp only [bS_ok] at h
    unfold parK at h
    split at h
    rotate_left
    · exact h.elim
    rename_i t u
    by_cases c : t.val = true ∧ u.val = true ∧ i < env.length ∧ j < env.length
    rotate_left
    · rw [if_neg c] at h; exact h.elim
    rw [if_pos c] at h
    rintro us H1 F ex ⟨w1, r', F1, F2, rfl, rfl, rt, w2, r'', F3, F4, rfl, rfl, ru, rfl, rfl⟩ _ _
    refine ⟨w1, w2, rfl, ?_⟩
    have s1 := s.store (i := i) (t := t) (v := w1) (F := []) ex c.2.2.1 (val_any c.1 rt) List.nodup_nil (by simp) (val_has .brw c.1)
    have s2 := s1.store (i := j) (t := u) (v := w2) (F := []) (Ext.refl _) (by simpa using c.2.2.2) (val_any c.2.1 ru) List.nodup_nil (by simp) (val_has .brw c.2.1)
    exact h _ _ _ s2
end
/-- the same for swS -/
def swK (i : Nat) (c d : Int) (env : EnvT) (xs : List T) (ts : List T) : Out := match ts with
  | [t, u] => if t.val = true ∧ u.val = true then (match ixN xs.length c, ixN xs.length d with
      | some j, some k => .nx (env.set i (some (.lst .own ((xs.set j t).set k u))))
      | _, _ => .bad) else .bad
  | _ => .bad
theorem swS_at {i : Nat} {c d : Int} {fs : EnvT → R (List T)} {env : EnvT} {xs : List T} {t u : T} {j k : Nat} (e : env[i]? = some (some (.lst .own xs))) (ef : fs env = .ok [t, u]) (ht : t.val = true) (hu : u.val = true) (hj : ixN xs.length c = some j) (hk : ixN xs.length d = some k) :
    swS i c d fs env = .nx (env.set i (some (.lst .own ((xs.set j t).set k u)))) := by
  unfold swS
  rw [e]
  simp only [ef, bS_ok, ht, hu, and_self, if_true, hj, hk]
end VS

namespace VS
open PySem PySem.Spec L2
open PyProof.Rows hiding St

/-! ### f'..{x}', [x] * n -/
def fmtT (lit : Str) : T → Option T
  | .int i => if i.natAbs.log2 < 1920 ∧ (Str.empty ++ lit).length ≤ sizeLine ∧ (Str.empty ++ lit ++ (toString i : Str)).length ≤ sizeLine then some (.str (Str.empty ++ lit ++ (toString i : Str))) else none
  | _ => none
def repT : T → T → Option T
  | .lst .own ts, .int k => if (ts.all flatT = true ∧ 0 ≤ k ∧ k < 2 ^ 63) ∧ ts.length * k.toNat ≤ 16777216 then some (.lst .own (List.replicate k.toNat ts).flatten) else none
  | _, _ => none
section
variable {X : Cx} {ec : Nat → Addr} {W : WX} {a b : Expr} {fa fb : FE} {pos : Pos}
theorem DE.fstr2 {lit : Str} {kk : Nat} {cp fp : Pos} (ha : DE X ec W a fa) (hl : (Str.empty ++ lit).length ≤ sizeLine := by decide +kernel) : DE X ec W (.JoinedStr [.Constant (.str lit) kk cp, .FormattedValue a (-1) none fp] pos) (un1 (fmtT lit) fa) := by
  refine ⟨pe_mono (pe_joined (PJ.cons pe_str (PJ.cons (pe_fmt ha.run) PJ.nil))) fun σ H Q h => ?_⟩
  refine ⟨lit, rfl, hl, ?_⟩
  have z := one_op (r := fun x H1 Q => (∃ y : Str, x = V.str y ∧ y.length ≤ sizeLine ∧ ∃ y', V.str y = V.str y' ∧ (Str.empty ++ lit ++ y').length ≤ sizeLine ∧ Q (V.str (Str.empty ++ lit ++ y')) H1) ∨ ∃ i : Int, x = V.int i ∧ i.natAbs.log2 < 1920 ∧ ∃ y', V.str (toString i : Str) = V.str y' ∧ (Str.empty ++ lit ++ y').length ≤ sizeLine ∧ Q (V.str (Str.empty ++ lit ++ y')) H1) (fun H O C A x tx F Q t cz r e h => ?_) h
  · exact z
  cases tx with
  | int i =>
    obtain ⟨rfl, _⟩ := r
    simp only [fmtT] at e
    split at e
    · rename_i c
      simp only [Option.some.injEq] at e; subst e
      exact .inr ⟨i, rfl, c.1, _, rfl, c.2.2, h.str⟩
    · cases e
  | _ => simp [fmtT] at e
theorem reps_flatM {K : PySem.W.Frag} {H : Hp} {P : Al} : ∀ {ts : List T}, ts.all flatT = true → Reps K H P ts (ts.map fV) []
  | [], _ => ⟨rfl, rfl⟩
  | t :: ts, h => by
    rw [List.all_cons, Bool.and_eq_true] at h
    refine ⟨fV t, ts.map fV, [], [], rfl, rfl, ?_, reps_flatM h.2⟩
    have h1 := h.1
    cases t <;> first | (cases h1; done) | exact ⟨rfl, rfl⟩
theorem reps_rep {K : PySem.W.Frag} {H : Hp} {P : Al} {ts : List T} {vs : List V} (r : Reps K H P ts vs []) : ∀ k : Nat, Reps K H P (List.replicate k ts).flatten (List.replicate k vs).flatten []
  | 0 => ⟨rfl, rfl⟩
  | k + 1 => by
    rw [List.replicate_succ, List.replicate_succ, List.flatten_cons, List.flatten_cons]
    exact r.append (reps_rep r k)
theorem DE.rep (ha : DE X ec W a fa) (hb : DE X ec W b fb) : DE X ec W (.BinOp a .Mult b pos) (bin2 repT fa fb) := by
  refine DE.op2 op_rep (fun H O C A x y tx ty Fx Fy Q t cz rx ry e h => ?_) ha hb
  match tx, ty, e with
  | .lst .own ts, .int k, e =>
    obtain ⟨p, vs, G, rfl, l, fe, r⟩ := rx
    obtain ⟨rfl, _⟩ := ry
    have l : H p = some (.lst vs) := l
    have e : (if (ts.all flatT = true ∧ 0 ≤ k ∧ k < 2 ^ 63) ∧ ts.length * k.toNat ≤ 16777216 then some (T.lst .own (List.replicate k.toNat ts).flatten) else none) = some t := e
    split at e
    · rename_i c
      simp only [Option.some.injEq] at e; subst e
      obtain ⟨⟨c1, c2, c3⟩, c4⟩ := c
      have hv := reps_flat c1 r
      refine ⟨p, k, vs, rfl, rfl, l, by omega, c3, by rw [← r.length, sizeLine_eq]; exact c4, ?_⟩
      rw [hv]
      exact h.lst cz (reps_rep (reps_flatM c1) k.toNat) (by simp)
    · cases e
end
end VS

namespace VS
open PySem PySem.Spec L2
open PyProof.Rows hiding St

/-! ### return x, e: a pair that owns what the name owns -/
def retTupE (i : Nat) (fe : FE) : FS := fun env => match env[i]? with
  | some (some a) => bS env (fe env) fun b => if b.val = true then .rt (.tup [a, b]) else .bad
  | _ => .bad
section
variable {X : Cx} {ec : Nat → Addr} {W : WX} {pos : Pos}
theorem DS.retTupE (i : Nat) {e : Expr} {fe : FE} (he : DE X ec W e fe) {x : Str} {px pt : Pos} {x1 : Nat} (hx : X.N[i]? = some x := by rfl)
    (hvx : Vis X.env.scope x := by first | exact Or.inl rfl | exact Or.inr (Or.inl rfl) | exact Or.inr (Or.inr rfl)) (hdx : (x == ("__debug__" : Str)) = false := by decide) (hcx : (x == ("__classdict__" : Str)) = false := by decide)
    (h1 : starEach [.Name x px, e] X.env = (false, eval (.Name x px) X.env) :: starEach [e] X.env := by rfl) (h2 : starEach [e] X.env = (false, eval e X.env) :: starEach [] X.env := by rfl) :
    DS X ec W (.Return (some (.Tuple [.Name x px, e] x1 pt)) pos) (VS.retTupE i fe) := by
  refine ⟨ps_mono (ps_ret (pe_tup (pa_cons (pe_var (i := i) hx hvx hdx hcx) (pa_cons he.run pa_nil h2) h1))) fun D σ H ⟨B, env, fp, s, h⟩ => ?_⟩
  unfold VS.retTupE at h
  cases e1 : env[i]? with
  | none => rw [e1] at h; exact h.elim
  | some o1 =>
    cases o1 with
    | none => rw [e1] at h; exact h.elim
    | some t1 =>
      rw [e1] at h
      obtain ⟨v1, hv1, r1⟩ := s.slot i t1 e1
      refine ⟨v1, hv1, B, env, fp, s, ?_⟩
      cases q : fe env with
      | exc c => rw [q] at h; exact fun H' z => h σ H' fp (s.grow z)
      | bad => rw [q] at h; exact h.elim
      | ok b =>
        rw [q] at h
        simp only [bS_ok] at h
        by_cases hb : b.val = true
        rotate_left
        · rw [if_neg hb] at h; exact h.elim
        rw [if_pos hb] at h
        intro y H1 F ex rb nF fF
        refine ⟨by simp [sizeLine_eq], fun p hp => h (.ref p) (upd H1 p (.tup [v1, y])) (fp i) ⟨?_, s.nd i, fun a ha => s.own i a ha, ?_⟩⟩
        · have ex2 : Ext H1 (upd H1 p (.tup [v1, y])) := Ext.new hp
          refine ⟨p, [v1, y], rfl, upd_same, v1, [y], fp i, [], by simp, by simp, ?_, y, [], [], [], rfl, by simp, ?_, rfl, rfl⟩
          · exact r1.mono (ex.trans ex2) fun g a _ _ _ q => Pm.to id (fun z => ⟨i, z⟩) id q
          · exact (val_any hb rb).ext ex2
        · intro a o e n
          exact (Ext.new hp) a o (ex a o (s.ext a o e n))
end
/-! ### for k in x[0]: x[0][k].append((c,)), x not used any more -/
def appOk (p : T × T) : Bool := isK p.1 && (match p.2 with
  | .lst .own ts => decide (ts.length ≤ 1000)
  | _ => false)
def killOk : T → Bool
  | .tup (.dct .own kvs :: _) => kvs.all appOk && decide (kvs.length ≤ 1000)
  | _ => false
def killF (i j : Nat) : FS := fun env => match env[i]? with
  | some (some t) => if killOk t = true ∧ i ≠ j ∧ j < env.length then .nx ((env.set i none).set j none) else .bad
  | _ => .bad
theorem list_at {K : PySem.W.Frag} {H : Hp} {P : Al} : ∀ {kvs : List (T × T)} {es : List (T × V)} {G : List Addr}, RepD K H P kvs es G → kvs.all appOk = true →
    ∀ p ∈ es, ∃ b vs, p.2 = .ref b ∧ H b = some (.lst vs) ∧ vs.length ≤ 1000 ∧ b ∈ G
  | [], _, _, ⟨e, _⟩, _, p, m => by rw [e] at m; cases m
  | (k, t) :: r, _, _, ⟨v, es, F1, F2, rfl, rfl, c, d⟩, h, p, m => by
    rw [List.all_cons, Bool.and_eq_true] at h
    rcases List.mem_cons.mp m with rfl | m
    · have h1 := h.1
      cases t with
      | lst g ts =>
        cases g with
        | own =>
          obtain ⟨b, vs, G, rfl, l, fe, rr⟩ := c
          have l : H b = some (.lst vs) := l
          have fe : F1 = b :: G := fe
          subst fe
          have hl : ts.length ≤ 1000 := by simpa [appOk] using (by simpa [appOk, Bool.and_eq_true] using h1 : isK k = true ∧ ts.length ≤ 1000).2
          exact ⟨b, vs, rfl, l, by rw [← rr.length]; exact hl, by simp⟩
        | _ => simp [appOk] at h1
      | _ => simp [appOk] at h1
    · obtain ⟨b, vs, h1, h2, h3, h4⟩ := list_at d h.2 p m
      exact ⟨b, vs, h1, h2, h3, List.mem_append_right _ h4⟩
section
variable {X : Cx} {ec : Nat → Addr} {W : WX} {pos : Pos}
theorem valV_at {ks : List (Key × V)} {n : Nat} {k : Key} {v : V} (nd : (ks.map (·.1)).Nodup) (h : ks[n]? = some (k, v)) : valV ks k = some v := by
  induction ks generalizing n with
  | nil => simp at h
  | cons p ks ih =>
    rw [List.map_cons, List.nodup_cons] at nd
    cases n with
    | zero =>
      simp only [List.getElem?_cons_zero, Option.some.injEq] at h
      subst h
      exact valV_pos rfl
    | succ n =>
      simp only [List.getElem?_cons_succ] at h
      have ne : ¬ p.1 = k := fun z => nd.1 (by rw [z]; exact List.mem_map_of_mem (f := Prod.fst) (List.mem_of_getElem? h))
      rw [valV_neg ne]
      exact ih nd.2 h
/-- slots i, j are given up -/
theorem Sta.kill {K : PySem.W.Frag} {B : Bx} {env : EnvT} {σ σ' : L2.St} {H H2 : Hp} {fp : Fps} {i j : Nat} (s : Sta K B env σ H fp) (ij : i ≠ j) (hl : σ'.length = σ.length) (hσ : ∀ k, k ≠ j → σ'[k]? = σ[k]?) (hH : ∀ c o, H c = some o → c ∉ fp i → H2 c = some o) :
    Sta K B ((env.set i none).set j none) σ' H2 (fset (fset fp i []) j []) := by
  have sub : ∀ k a, a ∈ fset (fset fp i []) j [] k → a ∈ fp k ∧ k ≠ i ∧ k ≠ j := fun k a m => by
    by_cases c : k = j
    · subst c; rw [fset_same] at m; cases m
    · rw [fset_ne c] at m
      by_cases c2 : k = i
      · subst c2; rw [fset_same] at m; cases m
      · rw [fset_ne c2] at m; exact ⟨m, c2, c⟩
  have am := s.A_mut (Ext.refl H)
  have kp : Kp (fun a => a ∈ fp i) H H2 := ⟨fun a o e n => hH a o e n, fun a xs w e => by
    obtain ⟨o, e2, h1, _⟩ := am a ⟨i, w⟩
    rw [e] at e2; exact h1 xs (Option.some.inj e2).symm, fun a ob u w e => by
    obtain ⟨o, e2, _, h1⟩ := am a ⟨i, w⟩
    rw [e] at e2; exact h1 ob u (Option.some.inj e2).symm⟩
  refine ⟨by simp [hl, s.len], fun k t ek => ?_, fun k hk => ?_, fun k => ?_, fun k l a kl m m2 => ?_, fun a o e n => ?_, fun k a m => s.own k a (sub k a m).1, fun a z => ?_, fun k a m => s.dis k a (sub k a m).1⟩
  · have kj : k ≠ j := fun z => by subst z; rw [List.getElem?_set] at ek; split at ek <;> (try split at ek) <;> simp_all
    have ki : k ≠ i := fun z => by subst z; rw [List.getElem?_set_ne (Ne.symm kj), List.getElem?_set] at ek; split at ek <;> (try split at ek) <;> simp_all
    rw [List.getElem?_set_ne (Ne.symm kj), List.getElem?_set_ne (Ne.symm ki)] at ek
    obtain ⟨v, hv, r⟩ := s.slot k t ek
    refine ⟨v, by rw [hσ k kj]; exact hv, ?_⟩
    rw [fset_ne kj, fset_ne ki]
    have nA : ∀ a, ¬ Aw fp a → a ∉ fp i := fun a n m => n ⟨i, m⟩
    refine Rep.keep kp t v (fp k) (fun g a _ n _ p => ⟨Pm.to id (fun ⟨l, m⟩ => ⟨l, (sub l a m).1⟩) id p, ?_⟩) (fun a ha m => s.dj k i a ki ha m) r
    cases g with
    | own => exact absurd rfl n
    | shr => exact nA a p.2.1
    | prt => exact nA a p.2
    | brw => exact (show False from p).elim
    | fzn => exact nA a p.2
  · by_cases c : k = j
    · subst c; exact fset_same
    · rw [fset_ne c]
      by_cases c2 : k = i
      · subst c2; exact fset_same
      · rw [fset_ne c2]
        refine s.emp k fun t e => hk t ?_
        rw [List.getElem?_set_ne (Ne.symm c), List.getElem?_set_ne (Ne.symm c2)]; exact e
  · by_cases c : k = j
    · subst c; rw [fset_same]; exact List.nodup_nil
    · rw [fset_ne c]
      by_cases c2 : k = i
      · subst c2; rw [fset_same]; exact List.nodup_nil
      · rw [fset_ne c2]; exact s.nd k
  · exact s.dj k l a kl (sub k a m).1 (sub l a m2).1
  · refine hH a o (s.ext a o e n) fun m => ?_
    rcases s.own i a m with z | z
    · rw [e] at z; cases z
    · exact n z
  · have d := s.dom a z
    cases e : H a with
    | none => exact absurd e d
    | some o =>
      rw [hH a o e fun m => by have := s.dis i a m; exact z.elim this.1 this.2]
      simp
theorem DS.killFor (i j : Nat) {c : Int} (hp : PassesOwn (model X.prog X.w) X.A X.env X.xe) (hc : X.calm = true) (hu : X.A.units + 1 < cLine) (hNN : X.N.Nodup) {x y : Str} {yp xp cp sp xp2 cp2 sp2 yp2 sp3 apos cpc tp callp ep : Pos} {k0 k02 kc tk : Nat}
    (hx : X.N[i]? = some x := by rfl) (hvx : Vis X.env.scope x := by first | exact Or.inl rfl | exact Or.inr (Or.inl rfl) | exact Or.inr (Or.inr rfl)) (hdx : (x == ("__debug__" : Str)) = false := by decide) (hcx : (x == ("__classdict__" : Str)) = false := by decide)
    (hy : X.N[j]? = some y := by rfl) (hvy : Vis X.env.scope y := by first | exact Or.inl rfl | exact Or.inr (Or.inl rfl) | exact Or.inr (Or.inr rfl)) (hdy : (y == ("__debug__" : Str)) = false := by decide) (hcy : (y == ("__classdict__" : Str)) = false := by decide)
    (hly : Loc X.env.scope y := by first | exact Or.inl rfl | exact Or.inr rfl) (hfy : X.fn y = true ∨ X.env.scope.names.lookup y = some .local := by first | exact .inl rfl | exact .inr rfl | assumption)
    (hs0 : PlainIx (.Constant (.int 0) k0 cp) := by exact fun _ _ => rfl) (hs1 : PlainIx (.Constant (.int 0) k02 cp2) := by exact fun _ _ => rfl) (hs2 : NoSl (.Name y yp2) := by exact fun _ _ => rfl)
    (hfold : ∀ v, foldedSetIterable (.Subscript (.Name x xp) (.Constant (.int 0) k0 cp) sp) X.env v = pure v := by intro _; rfl)
    (hbase : attributeBase (.Subscript (.Subscript (.Name x xp2) (.Constant (.int 0) k02 cp2) sp2) (.Name y yp2) sp3) "append" X.env (eval (.Subscript (.Subscript (.Name x xp2) (.Constant (.int 0) k02 cp2) sp2) (.Name y yp2) sp3) X.env) = eval (.Subscript (.Subscript (.Name x xp2) (.Constant (.int 0) k02 cp2) sp2) (.Name y yp2) sp3) X.env := by rfl)
    (hfew : ((backTo callp (starEach [.Tuple [.Constant (.int c) kc cpc] tk tp] X.env)).all (fun x => !x.1) && (backToKw callp (keywordEach [] X.env)).all (fun x => x.1.isSome)
      && decide (([.Tuple [.Constant (.int c) kc cpc] tk tp] : List Expr).length + ([] : List Keyword).length + (if ([] : List Keyword).isEmpty then 0 else 1) < 30)) = true := by rfl)
    (hline : (apos.endLine == callp.line) = true := by rfl) (hst : starEach [.Tuple [.Constant (.int c) kc cpc] tk tp] X.env = (false, eval (.Tuple [.Constant (.int c) kc cpc] tk tp) X.env) :: starEach [] X.env := by rfl) (hplain : (backTo callp (starEach [] X.env)).any (·.1) = false := by rfl)
    (hst2 : starEach [.Constant (.int c) kc cpc] X.env = (false, eval (.Constant (.int c) kc cpc) X.env) :: starEach [] X.env := by rfl) (hsw : swapsWith (.Call (.Attribute (.Subscript (.Subscript (.Name x xp2) (.Constant (.int 0) k02 cp2) sp2) (.Name y yp2) sp3) "append" apos) [.Tuple [.Constant (.int c) kc cpc] tk tp] [] callp) none ep.line X.env = pure false := by rfl) :
    DS X ec W (.For (.Name y yp) (.Subscript (.Name x xp) (.Constant (.int 0) k0 cp) sp) [.Expr (.Call (.Attribute (.Subscript (.Subscript (.Name x xp2) (.Constant (.int 0) k02 cp2) sp2) (.Name y yp2) sp3) "append" apos) [.Tuple [.Constant (.int c) kc cpc] tk tp] [] callp) ep] [] pos) (VS.killF i j) := by
  have base := ps_for (pos := pos) hp hc (pi_keys (pe_ix (pos := sp) ix_seq (pe_var (i := i) (pos := xp) hx hvx hdx hcx) (pe_int (i := 0)) hs0)) (pg_name (i := j) (pos := yp) hNN hy hly hfy)
    (pss_one (ps_expr (pos := ep) (pe_bm PySem.F.plainAttrs_list PySem.F.slot_list_append PySem.F.type_list_append mt_append (pe_dget (pos := sp3) hu (pe_ix (pos := sp2) ix_seq (pe_var (i := i) (pos := xp2) hx hvx hdx hcx) (pe_int (i := 0)) hs1) (pe_var (i := j) (pos := yp2) hy hvy hdy hcy) hs2) (pa_cons (pe_tup (pos := tp) (pa_cons (pe_int (i := c)) pa_nil hst2)) pa_nil hst) hbase hfew hline hst hplain) hsw)) hfold
  refine ⟨ps_mono (ps_lock base) fun D σ H ⟨B, env, fp, s, h⟩ => ?_⟩
  unfold VS.killF at h
  cases e : env[i]? with
  | none => rw [e] at h; exact h.elim
  | some o =>
    cases o with
    | none => rw [e] at h; exact h.elim
    | some t =>
      rw [e] at h
      dsimp only at h
      by_cases q : killOk t = true ∧ i ≠ j ∧ j < env.length
      rotate_left
      · rw [if_neg q] at h; exact h.elim
      rw [if_pos q] at h
      obtain ⟨q, ij, jl⟩ := q
      obtain ⟨v, hv, r⟩ := s.slot i t e
      match t, q, r with
      | .tup (.dct .own kvs :: rest), q, r =>
        obtain ⟨a, vs, rfl, la, v0, vr, F1, F2, rfl, hF, ⟨d, es, G, rfl, ld, fd, rD⟩, rr⟩ := r
        obtain ⟨o, ho, di⟩ : ∃ o, H d = some o ∧ DIs o es := ld
        have fd : F1 = d :: G := fd
        subst fd
        have q : (kvs.all appOk && decide (kvs.length ≤ 1000)) = true := q
        rw [Bool.and_eq_true, decide_eq_true_eq] at q
        have qk : (kvs.all fun q => isK q.1) = true := List.all_eq_true.mpr fun p m => by
          have := List.all_eq_true.mp q.1 p m
          simp only [appOk, Bool.and_eq_true] at this
          exact this.1
        obtain ⟨ks, rfl, kl, rfl, knd⟩ := repD_dk rD di qk
        have hli := list_at rD q.1
        refine ⟨d, .dK ks, ho, trivial, fun od => ?_⟩
        have ad : a ≠ d := fun z => by rw [z, ho] at la; cases la
        have la2 : upd H d (.frz od (.dK ks)) a = some (.tup (.ref d :: vr)) := by rw [upd_ne ad]; exact la
        have ndi : (d :: G ++ F2).Nodup := by have := s.nd i; rw [hF] at this; exact this
        have dG : d ∉ G := fun m => (List.nodup_cons.mp (List.nodup_append.mp ndi).1).1 m
        have GF : ∀ b ∈ G, b ∈ fp i := fun b m => by rw [hF]; exact List.mem_append_left _ (List.mem_cons_of_mem _ m)
        have dF : d ∈ fp i := by rw [hF]; simp
        have aG : a ∉ G := fun m => by
          obtain ⟨o, e2, h1, _⟩ := s.A_mut (Ext.refl H) a ⟨i, GF a m⟩
          rw [la] at e2; exact h1 _ (Option.some.inj e2).symm
        have hli' : ∀ p ∈ ks, ∃ b ws, p.2 = .ref b ∧ b ∈ G ∧ upd H d (.frz od (.dK ks)) b = some (.lst ws) ∧ ws.length ≤ 1000 := fun p m => by
          obtain ⟨b, ws, h1, h2, h3, h4⟩ := hli (kT p.1, p.2) (List.mem_map_of_mem (f := fun p : Key × V => (kT p.1, p.2)) m)
          exact ⟨b, ws, h1, h4, by rw [upd_ne (fun z => dG (by rw [← z]; exact h4))]; exact h2, h3⟩
        refine ⟨.ref a, hv, .inr (.inl ⟨a, _, 0, .ref d, rfl, rfl, SqT.of la2, atI_0 _ _, d, od, rfl, .inl ⟨ks, upd_same, ?_⟩⟩)⟩
        have inv : ∃ N : Nat → L2.St → Hp → Prop, N = fun n σ' H' => n ≤ ks.length ∧ σ'.length = σ.length ∧ (∀ k, k ≠ j → σ'[k]? = σ[k]?) ∧ (∀ b o, upd H d (.frz od (.dK ks)) b = some o → b ∉ G → H' b = some o) ∧ ∀ p ∈ ks, ∃ b ws, p.2 = .ref b ∧ b ∈ G ∧ H' b = some (.lst ws) ∧ ws.length ≤ 1000 + n := ⟨_, rfl⟩
        obtain ⟨N, hN⟩ := inv
        refine ⟨fun n m σ' H' => m = ks.length - n ∧ N n σ' H', ⟨_, rfl, by rw [hN]; exact ⟨by omega, rfl, fun _ _ => rfl, fun b o e _ => e, fun p m => by obtain ⟨b, ws, h1, h2, h3, h4⟩ := hli' p m; exact ⟨b, ws, h1, h2, h3, by omega⟩⟩⟩, ?_⟩
        rintro n m σ' H' ⟨rfl, w⟩
        rw [hN] at w
        obtain ⟨w1, w2, w3, w4, w5⟩ := w
        have hd' := w4 d _ upd_same dG
        have ha' := w4 a _ la2 aG
        have il : i < σ.length := by rw [← s.len]; exact (List.getElem?_eq_some_iff.mp e).1
        by_cases c : n < ks.length
        · right
          refine ⟨⟨hd', c⟩, N (n + 1), fun σ2 H2 w => ⟨_, by omega, rfl, w⟩, ?_⟩
          rintro x H2 ⟨rfl, k, v, hk, rfl⟩
          obtain ⟨b, ws, rfl, hb1, hb2, hb3⟩ := w5 (k, v) (List.mem_of_getElem? hk)
          have sj : (σ'.set j (some (kV k)))[j]? = some (some (kV k)) := by
            rw [List.getElem?_set_self (by rw [w2, ← s.len]; exact jl)]
          have si : (σ'.set j (some (kV k)))[i]? = some (some (.ref a)) := by
            rw [List.getElem?_set_ne (Ne.symm ij), w3 i ij]; exact hv
          refine ⟨.ref a, si, .inr (.inl ⟨a, _, 0, .ref d, rfl, rfl, SqT.of ha', atI_0 _ _, kV k, sj, d, .ref b, rfl, .inl ⟨ks, k, .inr ⟨od, hd'⟩, rfl, (valV_at knd hk).symm⟩, .inl ⟨rfl, ws, SqL.of hb2⟩, by simp [sizeLine_eq], fun p hp => ?_⟩)⟩
          have bp : b ≠ p := fun z => by rw [z, hp] at hb2; cases hb2
          refine ⟨b, ws, .ref p, rfl, rfl, by rw [upd_ne bp]; exact hb2, by rw [sizeLine_eq]; omega, ?_⟩
          show N (n + 1) _ _
          rw [hN]
          refine ⟨by omega, by simp [w2], fun l lj => by rw [List.getElem?_set_ne (Ne.symm lj)]; exact w3 l lj, fun b' o eo nG => ?_, fun p' m => ?_⟩
          · have h4 := w4 b' o eo nG
            rw [upd_ne (fun z => nG (by rw [z]; exact hb1)), upd_ne (fun z => by rw [z, hp] at h4; cases h4)]
            exact h4
          · obtain ⟨b', ws', h1, h2, h3, h4⟩ := w5 p' m
            by_cases cb : b' = b
            · subst cb
              rw [hb2] at h3
              cases h3
              exact ⟨b', _, h1, h2, upd_same, by simp; omega⟩
            · exact ⟨b', ws', h1, h2, by rw [upd_ne cb, upd_ne (fun z => by rw [z, hp] at h3; cases h3)]; exact h3, by omega⟩
        · left
          refine ⟨⟨hd', by omega⟩, hd', ?_⟩
          refine h σ' _ _ (s.kill ij w2 w3 fun c' o ec nc => ?_)
          have cd : c' ≠ d := fun z => nc (z ▸ dF)
          rw [upd_ne cd]
          exact w4 c' o (by rw [upd_ne cd]; exact ec) fun m => nc (GF c' m)
end
/-! ### list(d), the keys -/
def listDT : List T → Option T
  | [.dct _ kvs] => if (kvs.all fun q => isK q.1) = true then some (.lst .own (kvs.map (·.1))) else none
  | _ => none
section
variable {X : Cx} {ec : Nat → Addr} {W : WX} {e : Expr} {es : List Expr} {fs : EnvT → R (List T)} {p pos : Pos}
theorem DE.listD (hc : X.calm = true) (hl : Gl X "list") (hm : X.mg "list" = none) (ha : DA X ec W (e :: es) fs) (he : starEach (e :: es) X.env = (false, eval e X.env) :: starEach es X.env := by rfl) (hpl : (backTo pos (starEach es X.env)).any (·.1) = false := by rfl) : DE X ec W (.Call (.Name "list" p) (e :: es) [] pos) (ap listDT fs) := by
  refine DE.callT (call_listD hc) (fun H O C A vs ts F Q t cz r e h => ?_) hl hm (by decide +kernel) ha (by decide) (by decide) he hpl
  rcases ts with _ | ⟨t1, _ | ⟨t2, ts⟩⟩
  · simp [listDT] at e
  · cases t1 with
    | dct g kvs =>
      obtain ⟨v, r', F1, F2, rfl, rfl, c, d⟩ := r
      obtain ⟨rfl, rfl⟩ := d
      obtain ⟨a, es, G, rfl, l, fpp, rD⟩ := c
      simp only [listDT] at e
      split at e
      · rename_i q
        simp only [Option.some.injEq] at e
        subst e
        have main : ∃ o, Rd H a o ∧ DIs o es := by
          cases g with
          | own => obtain ⟨o, x, y⟩ := l; exact ⟨o, .inl x, y⟩
          | shr => obtain ⟨⟨o, x, y⟩, _⟩ := l; exact ⟨o, x, y⟩
          | prt => obtain ⟨⟨o, x, y⟩, _⟩ := l; exact ⟨o, x, y⟩
          | brw => obtain ⟨⟨o, x, y⟩, _⟩ := l; exact ⟨o, .inl x, y⟩
          | fzn => exact (l : False).elim
        obtain ⟨o, rd, di⟩ := main
        obtain ⟨ks, rfl, _, rfl, _⟩ := repD_dk rD di q
        have ek : kvs.map (·.1) = ks.map fun p => kT p.1 := by rw [repD_keys rD, List.map_map]; rfl
        refine ⟨a, ks, rfl, rd, fun p hp => ?_⟩
        rw [ek] at h
        have rk : ∀ P, Reps X.K H P (ks.map fun p => kT p.1) (ks.map fun kv => kV kv.1) [] := fun P => by
          have := reps_ofK (K := X.K) (H := H) (P := P) (ks.map (·.1))
          rwa [List.map_map, List.map_map] at this
        exact h.lst cz (rk _) (List.nil_sublist _) p hp
      · cases e
    | _ => simp [listDT] at e
  · cases t1 <;> simp [listDT] at e
end
/-! ### for k in x[0], a dict that is only lent -/
def forD0 (i : Nat) (g : T → EnvT → Option EnvT) (fb : FS) : FS := fun env => match env[i]? with
  | some (some (.tup (.dct tg kvs :: _))) => if tg = .own then .bad else noExc (loopS g fb (kindI 0 kvs) env)
  | _ => .bad
section
variable {X : Cx} {ec : Nat → Addr} {W : WX} {tg : Expr} {is : List Nat} {g : T → EnvT → Option EnvT} {body : List Stmt} {fb : FS} {pos : Pos}
theorem DS.forD0keys (i : Nat) {x : Str} {xp cp sp : Pos} {k0 : Nat} (hp : PassesOwn (model X.prog X.w) X.A X.env X.xe) (hc : X.calm = true) (hg : DG X tg is g) (hb : DSs X ec W body fb) (hx : X.N[i]? = some x := by rfl)
    (hv : Vis X.env.scope x := by first | exact Or.inl rfl | exact Or.inr (Or.inl rfl) | exact Or.inr (Or.inr rfl)) (hd : (x == ("__debug__" : Str)) = false := by decide) (hcd : (x == ("__classdict__" : Str)) = false := by decide)
    (hs0 : PlainIx (.Constant (.int 0) k0 cp) := by exact fun _ _ => rfl) (hfold : ∀ v, foldedSetIterable (.Subscript (.Name x xp) (.Constant (.int 0) k0 cp) sp) X.env v = pure v := by intro _; rfl) :
    DS X ec W (.For tg (.Subscript (.Name x xp) (.Constant (.int 0) k0 cp) sp) body [] pos) (forD0 i g fb) := by
  have base := ps_for (pos := pos) hp hc (pi_keys (pe_ix (pos := sp) ix_seq (pe_var (i := i) (pos := xp) hx hv hd hcd) (pe_int (i := 0)) hs0)) hg.run hb.run hfold
  refine ⟨ps_mono (t := fun D σ H => tLock (tFor (iKeys (tOp (rIx X.K) (tVar i) (tC (.int 0)))) (tG X.K is g) (tS X.K ec W fb)) D σ H ∨ tFor (iKeys (tOp (rIx X.K) (tVar i) (tC (.int 0)))) (tG X.K is g) (tS X.K ec W fb) D σ H) ⟨fun pins s σ H D I q => q.elim ((ps_lock base).run pins s σ H D I) (base.run pins s σ H D I)⟩ fun D σ H ⟨B, env, fp, s, h⟩ => ?_⟩
  unfold forD0 at h
  cases e : env[i]? with
  | none => rw [e] at h; exact h.elim
  | some o =>
    rw [e] at h
    cases o with
    | none => exact h.elim
    | some t =>
      match t, h, e with
      | .tup (.dct tg kvs :: rest), h, e =>
        dsimp only at h
        by_cases c : tg = .own
        · rw [if_pos c] at h; exact h.elim
        rw [if_neg c] at h
        obtain ⟨v, hv, r⟩ := s.slot i _ e
        obtain ⟨a, vs, rfl, la, v0, vr, F1, F2, rfl, hF, ⟨d, es, G, rfl, l, p, rD⟩, rr⟩ := r
        have main : ∃ o, Rd H d o ∧ DIs o es ∧ ¬ Aw fp d ∧ RepD X.K H (Pm B.O B.C (Aw fp) Nz) kvs es [] := by
          cases tg with
          | own => exact absurd rfl c
          | shr => obtain ⟨⟨o, x, y⟩, z⟩ := l; obtain ⟨rfl, _⟩ := p; exact ⟨o, x, y, z.2.1, rD⟩
          | prt => obtain ⟨⟨o, x, y⟩, z⟩ := l; obtain ⟨rfl, _⟩ := p; exact ⟨o, x, y, z.2, rD⟩
          | brw => exact (l.2 : False).elim
          | fzn => exact (l : False).elim
        obtain ⟨o, rd, di, nA, rD⟩ := main
        have key : ∀ (H' : Hp) (od : Obj) (R' : It → Hp → Prop), H' d = some (.frz od o) → H' a = some (.tup (.ref d :: vr)) → RepD X.K H' (Pm B.O B.C (Aw fp) Nz) kvs es [] → (∀ a, Aw fp a → ∃ o, H' a = some o ∧ (∀ xs, o ≠ .tup xs) ∧ ∀ ob u, o ≠ .frz ob u) →
            (∀ J, ItOk X.K J H' (fun a => true = true ∧ Aw fp a) B.O B.C (Aw fp) (kindI 0 kvs) → R' J H') → iKeys (tOp (rIx X.K) (tVar i) (tC (.int 0))) σ H' R' := by
          intro H' od R' hd' ha' r hm hJ
          have ek := repD_keys r
          refine ⟨.ref a, hv, .inr (.inl ⟨a, _, 0, .ref d, rfl, rfl, SqT.of ha', atI_0 _ _, d, od, rfl, ?_⟩)⟩
          rcases di with ⟨ks, rfl, nd, rfl⟩ | ⟨ks, rfl, ne, nd, rfl⟩
          · exact .inl ⟨ks, hd', hJ _ (itOk_keys hd' nA (by rw [ek, List.map_map]; rfl))⟩
          · exact .inr ⟨ks, hd', hJ _ (itOk_keysT hd' nA (by rw [ek, List.map_map]; rfl))⟩
        rcases rd with hd | ⟨od, hd⟩
        · left
          refine ⟨d, o, hd, di.isDk.mut, fun od => ?_⟩
          have sL := s.lock (od := od) hd di.isDk nA
          have ad : a ≠ d := fun z => by rw [z, hd] at la; cases la; exact di.isDk
          refine key _ od _ upd_same (by rw [upd_ne ad]; exact la) (RepD.frzD hd di.isDk (fun _ z => z) kvs es [] (by simp) rD) (sL.A_mut (Ext.refl _)) fun J it => ?_
          exact for_tail sL it (PostS.lock s hd di.isDk nA h)
        · right
          exact key H od _ hd la rD (s.A_mut (Ext.refl _)) fun J it => for_tail s it h.noExc
end
end VS

namespace VS
open PySem PySem.Spec L2
open PyProof.Rows hiding St

/-! ### a written tuple, asked by .index later -/
def tTupN (t : TA) : TE := fun σ H Q => t σ H fun xs H1 => xs.length ≤ sizeLine ∧ ∀ p (ob : Obj), H1 p = none → ob.dict = none → Q (.ref p) (upd H1 p (.frz ob (.tup xs)))
def tupND (ts : List T) : Option T := if ts.length ≤ 1000 then some (.tupN ts) else none
section
variable {X : Cx} {ec : Nat → Addr} {W : WX} {es : List Expr} {fs : EnvT → R (List T)} {pos : Pos}
theorem pe_tupN {t : TA} {x1 : Nat} (h : PA X es t) : PE X (.Tuple es x1 pos) (tTupN t) := by
  refine ⟨fun pins s σ H Q I hq => ?_⟩
  refine wpAny_Tuple_spliced (thn (h.run pos pins s σ H _ I hq) fun us s1 ⟨xs, H1, I1, r, z, q⟩ => ⟨by rw [← r.length]; exact z, ?_⟩)
  have hf : H1 s1.heap.objs.size = none := I1.hok.fresh (Nat.le_refl _)
  exact ⟨.ref s1.heap.objs.size, upd H1 s1.heap.objs.size (.frz { cls := .type "tuple", data := .seq us.toArray } (.tup xs)), I1.laid (t' := s1.toks) (fun b u e => Heap.get?_push_of_some _ e) (Nat.le_refl _)
    (show ObjOk X.prog X.w _ _ _ (.frz _ (.tup xs)) from ⟨Heap.get?_push_size _ rfl, z, us, r, IsTup.new _ _⟩), rfl, q _ _ hf rfl⟩
theorem DE.tupND {x1 : Nat} (ha : DA X ec W es fs) : DE X ec W (.Tuple es x1 pos) (ap VS.tupND fs) := by
  refine ⟨pe_mono (pe_tupN ha.run) fun σ H Q h => ?_⟩
  refine list_op (r := fun xs H1 Q => xs.length ≤ sizeLine ∧ ∀ p (ob : Obj), H1 p = none → ob.dict = none → Q (.ref p) (upd H1 p (.frz ob (.tup xs)))) (fun H O C A vs ts F Q t cz r e h => ?_) h
  simp only [VS.tupND] at e
  split at e
  · rename_i c
    simp only [Option.some.injEq] at e
    subst e
    exact ⟨by rw [← r.length, sizeLine_eq]; omega, fun p ob hp hd => Fin.tupN h cz r (List.Sublist.refl _) p ob hp hd⟩
  · cases e
end
/-! ### return 'word', x, y: a triple that owns what the names own -/
def retTup3 (w : Str) (i j : Nat) : FS := fun env => match env[i]?, env[j]? with
  | some (some a), some (some b) => .rt (.tup [.str w, a, b])
  | _, _ => .bad
section
variable {X : Cx} {ec : Nat → Addr} {W : WX} {pos : Pos}
theorem DS.retTup3 (i j : Nat) (hij : i ≠ j) {w : Str} {wk : Nat} {wp : Pos} {x y : Str} {px py pt : Pos} {x1 : Nat} (hx : X.N[i]? = some x := by rfl) (hy : X.N[j]? = some y := by rfl)
    (hvx : Vis X.env.scope x := by first | exact Or.inl rfl | exact Or.inr (Or.inl rfl) | exact Or.inr (Or.inr rfl)) (hvy : Vis X.env.scope y := by first | exact Or.inl rfl | exact Or.inr (Or.inl rfl) | exact Or.inr (Or.inr rfl))
    (hdx : (x == ("__debug__" : Str)) = false := by decide) (hdy : (y == ("__debug__" : Str)) = false := by decide) (hcx : (x == ("__classdict__" : Str)) = false := by decide) (hcy : (y == ("__classdict__" : Str)) = false := by decide)
    (h0 : starEach [.Constant (.str w) wk wp, .Name x px, .Name y py] X.env = (false, eval (.Constant (.str w) wk wp) X.env) :: starEach [.Name x px, .Name y py] X.env := by rfl)
    (h1 : starEach [.Name x px, .Name y py] X.env = (false, eval (.Name x px) X.env) :: starEach [.Name y py] X.env := by rfl) (h2 : starEach [.Name y py] X.env = (false, eval (.Name y py) X.env) :: starEach [] X.env := by rfl) :
    DS X ec W (.Return (some (.Tuple [.Constant (.str w) wk wp, .Name x px, .Name y py] x1 pt)) pos) (VS.retTup3 w i j) := by
  refine ⟨ps_mono (ps_ret (pe_tup (pa_cons pe_str (pa_cons (pe_var (i := i) hx hvx hdx hcx) (pa_cons (pe_var (i := j) hy hvy hdy hcy) pa_nil h2) h1) h0))) fun D σ H ⟨B, env, fp, s, h⟩ => ?_⟩
  unfold VS.retTup3 at h
  cases e1 : env[i]? with
  | none => rw [e1] at h; exact h.elim
  | some o1 =>
    cases o1 with
    | none => rw [e1] at h; exact h.elim
    | some t1 =>
      cases e2 : env[j]? with
      | none => rw [e1, e2] at h; exact h.elim
      | some o2 =>
        cases o2 with
        | none => rw [e1, e2] at h; exact h.elim
        | some t2 =>
          rw [e1, e2] at h
          obtain ⟨v1, hv1, r1⟩ := s.slot i t1 e1
          obtain ⟨v2, hv2, r2⟩ := s.slot j t2 e2
          refine ⟨v1, hv1, v2, hv2, by simp [sizeLine_eq], fun p hp => h (.ref p) (upd H p (.tup [.str w, v1, v2])) (fp i ++ fp j) ⟨?_, ?_, ?_, ?_⟩⟩
          · have ex : Ext H (upd H p (.tup [.str w, v1, v2])) := Ext.new hp
            refine ⟨p, [.str w, v1, v2], rfl, upd_same, .str w, [v1, v2], [], fp i ++ fp j, rfl, rfl, ⟨rfl, rfl⟩, v1, [v2], fp i, fp j, rfl, rfl, ?_, v2, [], fp j, [], rfl, by simp, ?_, rfl, rfl⟩
            · exact r1.mono ex fun g a _ _ _ q => Pm.to id (fun z => (List.mem_append.mp z).elim (fun z => ⟨i, z⟩) fun z => ⟨j, z⟩) id q
            · exact r2.mono ex fun g a _ _ _ q => Pm.to id (fun z => (List.mem_append.mp z).elim (fun z => ⟨i, z⟩) fun z => ⟨j, z⟩) id q
          · exact List.nodup_append.mpr ⟨s.nd i, s.nd j, fun a ha b hb e => s.dj i j a hij ha (e ▸ hb)⟩
          · exact fun a ha => (List.mem_append.mp ha).elim (s.own i a) (s.own j a)
          · intro a o e n
            exact (Ext.new hp) a o (s.ext a o e n)
end
/-! ### x[k].append(None): a list that the tuple at x owns -/
section
variable {K : PySem.W.Frag} {H : Hp} {P P' : Al}
theorem kp_app {b : Addr} {ws ws' : List V} (h : H b = some (.lst ws)) : Kp (fun a => a = b) H (upd H b (.lst ws')) := ⟨fun a o e n => by rw [upd_ne n]; exact e, fun a xs w => by rw [w, h]; simp, fun a ob u w => by rw [w, h]; simp⟩
theorem reps_appN : ∀ (ts : List T) (vs : List V) (F : List Addr) (k : Nat) (us : List T), Reps K H P ts vs F → ts[k]? = some (.lst .own us) → F.Nodup →
    ∃ (b : Addr) (ws : List V), vs[k]? = some (.ref b) ∧ H b = some (.lst ws) ∧ b ∈ F ∧ ws.length = us.length ∧
      ((∀ g a, g ≠ .own → P g a → P' g a ∧ ¬ a = b) → Reps K (upd H b (.lst (ws ++ [.non]))) P' (ts.set k (.lst .own (us ++ [.non]))) vs F)
  | [], vs, F, k, us, r, e, nd => by simp at e
  | t :: ts, vs, F, 0, us, ⟨v, r, F1, F2, hv, hF, c, d⟩, e, nd => by
    simp only [List.getElem?_cons_zero, Option.some.injEq] at e
    subst e
    obtain ⟨b, ws, G, rfl, l, fe, rr⟩ := c
    have l : H b = some (.lst ws) := l
    have fe : F1 = b :: G := fe
    subst hv; subst hF; subst fe
    refine ⟨b, ws, rfl, l, by simp, rr.length.symm, fun hP => ⟨.ref b, r, b :: G, F2, rfl, rfl, ⟨b, ws ++ [V.non], G, rfl, (upd_same : upd H b (.lst (ws ++ [V.non])) b = some (.lst (ws ++ [V.non]))), rfl, ?_⟩, ?_⟩⟩
    · have nb : b ∉ G := (List.nodup_cons.mp (List.nodup_append.mp nd).1).1
      have r1 : Reps K (upd H b (.lst (ws ++ [.non]))) P' us ws G := Reps.keep (kp_app l) us ws G (fun g a _ n _ p => hP g a n p) (fun a ha z => nb (z ▸ ha)) rr
      have r2 : Reps K (upd H b (.lst (ws ++ [.non]))) P' [.non] [.non] [] := ⟨.non, [], [], [], rfl, rfl, ⟨rfl, rfl⟩, rfl, rfl⟩
      have := r1.append r2
      rwa [List.append_nil] at this
    · refine Reps.keep (kp_app l) ts r F2 (fun g a _ n _ p => hP g a n p) (fun a ha z => ?_) d
      have := List.nodup_cons.mp nd
      exact this.1 (List.mem_append_right _ (z ▸ ha))
  | t :: ts, vs, F, k + 1, us, ⟨v, r, F1, F2, hv, hF, c, d⟩, e, nd => by
    simp only [List.getElem?_cons_succ] at e
    subst hv; subst hF
    obtain ⟨b, ws, h1, h2, h3, h4, h5⟩ := reps_appN ts r F2 k us d e (List.nodup_append.mp nd).2.1
    refine ⟨b, ws, by simpa using h1, h2, List.mem_append_right _ h3, h4, fun hP => ⟨v, r, F1, F2, rfl, rfl, ?_, h5 hP⟩⟩
    exact Rep.keep (kp_app h2) t v F1 (fun g a _ n _ p => hP g a n p) (fun a ha z => (List.nodup_append.mp nd).2.2 a ha b h3 z) c
end
def appAt (k : Nat) : T → Option T
  | .tup ts => match ts[k]? with
    | some (.lst .own us) => if us.length ≤ 100000 then some (.tup (ts.set k (.lst .own (us ++ [.non])))) else none
    | _ => none
  | _ => none
def appNX (i k : Nat) : FX := fun env => match env[i]? with
  | some (some t) => match appAt k t with
    | some t' => .ok (.non, env.set i (some t'))
    | none => .bad
  | _ => .bad
section
variable {X : Cx} {ec : Nat → Addr} {W : WX} {pos : Pos}
theorem DX.appN (i k : Nat) {x : Str} {xp kp sp apos np : Pos} {jj nk : Nat} (hN : X.N[i]? = some x := by rfl) (hv : Vis X.env.scope x := by first | exact Or.inl rfl | exact Or.inr (Or.inl rfl) | exact Or.inr (Or.inr rfl)) (hd : (x == ("__debug__" : Str)) = false := by decide) (hcd : (x == ("__classdict__" : Str)) = false := by decide)
    (hs : PlainIx (.Constant (.int k) jj kp) := by exact fun _ _ => rfl)
    (hbase : attributeBase (.Subscript (.Name x xp) (.Constant (.int k) jj kp) sp) "append" X.env (eval (.Subscript (.Name x xp) (.Constant (.int k) jj kp) sp) X.env) = eval (.Subscript (.Name x xp) (.Constant (.int k) jj kp) sp) X.env := by rfl)
    (hfew : ((backTo pos (starEach [.Constant .none nk np] X.env)).all (fun x => !x.1) && (backToKw pos (keywordEach [] X.env)).all (fun x => x.1.isSome)
      && decide (([.Constant .none nk np] : List Expr).length + ([] : List Keyword).length + (if ([] : List Keyword).isEmpty then 0 else 1) < 30)) = true := by rfl)
    (hline : (apos.endLine == pos.line) = true := by rfl) (hst : starEach [.Constant .none nk np] X.env = (false, eval (.Constant .none nk np) X.env) :: starEach [] X.env := by rfl) (hplain : (backTo pos (starEach [] X.env)).any (·.1) = false := by rfl) :
    DX X ec W (.Call (.Attribute (.Subscript (.Name x xp) (.Constant (.int k) jj kp) sp) "append" apos) [.Constant .none nk np] [] pos) (appNX i k) := by
  refine ⟨pe_mono (pe_bm PySem.F.plainAttrs_list PySem.F.slot_list_append PySem.F.type_list_append mt_append (pe_ix ix_seq (pe_var (i := i) hN hv hd hcd) pe_int hs) (pa_cons pe_non pa_nil hst) hbase hfew hline hst hplain) fun σ H Q ⟨B, env, fp, s, h⟩ => ?_⟩
  unfold appNX at h
  cases e : env[i]? with
  | none => rw [e] at h; exact h.elim
  | some o =>
    cases o with
    | none => rw [e] at h; exact h.elim
    | some t =>
      rw [e] at h
      dsimp only at h
      cases t with
      | tup ts =>
        unfold VS.appAt at h
        dsimp only at h
        cases q : ts[k]? with
        | none => rw [q] at h; exact h.elim
        | some u =>
          rw [q] at h
          match u, q, h with
          | .lst .own us, q, h =>
            dsimp only at h
            by_cases c : us.length ≤ 100000
            rotate_left
            · rw [if_neg c] at h; exact h.elim
            rw [if_pos c] at h
            obtain ⟨v, hv, r⟩ := s.slot i _ e
            obtain ⟨a, vs, rfl, l, r⟩ := r
            obtain ⟨b, ws, h1, h2, h3, h4, h5⟩ := reps_appN (P' := Pm B.O B.C (AF (Aw fp) []) Nz) ts vs (fp i) k us r q (s.nd i)
            have hi : i < env.length := (List.getElem?_eq_some_iff.mp e).1
            have at_ : atI vs (k : Int) = some (.ref b) := by
              have kl : k < vs.length := (List.getElem?_eq_some_iff.mp h1).1
              rw [atI_ok (V.ref b) (by omega) (by omega)]
              simp [h1]
            refine ⟨.ref a, hv, .inr (.inl ⟨a, vs, k, .ref b, rfl, rfl, SqT.of l, at_, .inl ⟨rfl, ws, SqL.of h2⟩, b, ws, .non, rfl, rfl, h2, by rw [sizeLine_eq]; omega, ?_⟩)⟩
            have la : H a = some (.tup vs) := l
            have ab : a ≠ b := fun z => by rw [z, h2] at la; cases la
            have rn : Rep X.K (upd H b (.lst (ws ++ [V.non]))) (Pm B.O B.C (AF (Aw fp) []) Nz) (.tup (ts.set k (.lst .own (us ++ [.non])))) (.ref a) (fp i) := ⟨a, vs, rfl, by rw [upd_ne ab]; exact l, h5 fun g c n p => by
              have bA : Aw fp b := ⟨i, h3⟩
              have nb : ¬ Aw fp c → ¬ c = b := fun z y => z (y ▸ bA)
              have sub : ¬ Aw fp c → ¬ AF (Aw fp) [] c := fun z y => z (AF.nil _ y)
              cases g with
              | own => exact absurd rfl n
              | shr => exact ⟨⟨p.1, sub p.2.1, p.2.2⟩, nb p.2.1⟩
              | prt => exact ⟨⟨p.1, sub p.2⟩, nb p.2⟩
              | brw => exact (show False from p).elim
              | fzn => exact ⟨⟨p.1, sub p.2⟩, nb p.2⟩⟩
            obtain ⟨st, rr, n3, n4⟩ := s.update (t' := .tup (ts.set k (.lst .own (us ++ [.non])))) (res := .non) (vr := .non) (Fr := []) (F := []) (o' := .lst (ws ++ [V.non])) (Ext.refl _) hi h3 hv List.nodup_nil (by simp) rn ⟨rfl, rfl⟩ (by simpa using Le.refl (fp i))
            exact h .non _ _ [] st rr n3 n4
          | .non, _, h => exact h.elim
          | .bl _, _, h => exact h.elim
          | .int _, _, h => exact h.elim
          | .str _, _, h => exact h.elim
          | .tup _, _, h => exact h.elim
          | .tupN _, _, h => exact h.elim
          | .dct _ _, _, h => exact h.elim
          | .lst .shr _, _, h => exact h.elim
          | .lst .prt _, _, h => exact h.elim
          | .lst .brw _, _, h => exact h.elim
          | .lst .fzn _, _, h => exact h.elim
      | _ => exact h.elim
end
@[simp] theorem tupND_1 (a : T) : tupND [a] = some (.tupN [a]) := id rfl
end VS

namespace VS
open PySem PySem.Spec L2
open PyProof.Rows hiding St
/-! ### sets of tuples of texts and numbers -/
/-- an item that no set asks twice -/
def Plain1 (v : Value) : Prop := (∃ i t, v = Value.int i t) ∨ ∃ x t, v = Value.str x t
theorem plain_noClass (n : Nat) {v : Value} (h : Plain1 v) : ofAClassStatement n v = pure false := by
  rcases h with ⟨i, t, rfl⟩ | ⟨x, t, rfl⟩ <;> cases n <;> rfl
theorem plain_hashes (n : Nat) {v : Value} (h : Plain1 v) : ∃ b, hashByValue n v = pure b := by
  rcases h with ⟨i, t, rfl⟩ | ⟨x, t, rfl⟩
  · exact ⟨true, by cases n <;> rfl⟩
  · exact ⟨false, by cases n <;> rfl⟩
section
variable {P : Program} {w : World} {A : Around} {E : Value → Shared → Prop} {s : Shared}
theorem plain_items {k : List Key} {vs : List Value} (h : ItemsAre (mixKind P w) k vs) : ∀ v ∈ vs, Plain1 v := by
  induction h with
  | nil => simp
  | cons h1 _ ih =>
    intro v hv
    rcases List.mem_cons.mp hv with rfl | hv
    · rcases keyIs_shape h1 with ⟨i, t, e, _⟩ | ⟨x, t, e, _⟩
      · first | exact .inl ⟨_, t, ‹_›⟩ | exact .inl ⟨i, t, by assumption⟩
      · first | exact .inr ⟨_, t, ‹_›⟩ | exact .inr ⟨x, t, by assumption⟩
    · exact ih v hv
abbrev IsP (P : Program) (w : World) (h : Heap) (k : List Key) (b : Addr) : Prop := IsTupleKey (mixKind P w) h k b
abbrev hP (P : Program) (w : World) (k : List Key) : Int := tupleKeyHash (mixKind P w) k
theorem noClass_tup {k : List Key} {b : Addr} {Q : Bool → Shared → Prop} (hk : IsP P w s.heap k b) (h : Q false s) : wpAny (model P w) A (ofAClassStatement 8 (.ref b)) Q E s := by
  have hT := hk.typeIs
  obtain ⟨o, items, n, ho, -, hd, hi⟩ := hk
  have fl := plain_items hi
  unfold ofAClassStatement
  refine wpAny_bind (wpAny_typeOf hT ?_)
  dsimp only
  simp only [show (("tuple" : String) == "tuple") = true from rfl, if_true, Bool.not_true, Bool.false_eq_true, if_false]
  try refine wpAny_bind (wpAny_pure ?_)
  try simp only [Bool.not_true, Bool.false_eq_true, if_false]
  show wpAny _ _ (seqItems? (.ref b) >>= _) _ _ s
  refine wpAny_bind (wpAny_seqItems ho hd ?_)
  dsimp only
  refine wpAny_bind ?_
  show wpAny _ _ (forIn items _ _) _ _ s
  rw [← Array.forIn_toList]
  refine wpAny_forIn_list _ (fun rest r s' => r.1 = none ∧ s' = s ∧ ∀ v ∈ rest, Plain1 v) _ (fun v rest r s' ⟨e, e2, all⟩ => ?_) (fun r s' ⟨e, e2, _⟩ => ?_) _ _ ⟨rfl, rfl, fl⟩
  · subst e2
    rw [plain_noClass 7 (all v (by simp))]
    refine wpAny_bind (wpAny_pure ?_)
    simp only [Bool.false_eq_true, if_false]
    exact wpAny_pure ⟨rfl, rfl, fun u m => all u (by simp [m])⟩
  · obtain ⟨r1, r2⟩ := r
    subst e2
    simp only at e
    subst e
    exact wpAny_pure h
theorem hashBy_any {k : List Key} {b : Addr} {Q : Bool → Shared → Prop} (hk : IsP P w s.heap k b) (h : ∀ c, Q c s) : wpAny (model P w) A (hashByValue 8 (.ref b)) Q E s := by
  have hT := hk.typeIs
  obtain ⟨o, items, n, ho, -, hd, hi⟩ := hk
  have fl := plain_items hi
  unfold hashByValue
  refine wpAny_bind (wpAny_specialOf hT F.slot_tuple_hash.lookup ?_)
  show wpAny _ _ (seqItems? (.ref b) >>= _) _ _ s
  refine wpAny_bind (wpAny_seqItems ho hd ?_)
  refine wpAny_bind ?_
  show wpAny _ _ (forIn items _ _) _ _ s
  rw [← Array.forIn_toList]
  refine wpAny_forIn_list _ (fun rest r s' => r.1 = none ∧ s' = s ∧ ∀ v ∈ rest, Plain1 v) _ (fun v rest r s' ⟨e, e2, all⟩ => ?_) (fun r s' ⟨e, e2, _⟩ => ?_) _ _ ⟨rfl, rfl, fl⟩
  · subst e2
    obtain ⟨c, hc⟩ := plain_hashes 7 (all v (by simp))
    rw [hc]
    refine wpAny_bind (wpAny_pure ?_)
    cases c
    · simp only [Bool.not_false, if_true]
      exact wpAny_pure (wpAny_pure (h false))
    · simp only [Bool.not_true, Bool.false_eq_true, if_false]
      exact wpAny_pure ⟨rfl, rfl, fun u m => all u (by simp [m])⟩
  · obtain ⟨r1, r2⟩ := r
    subst e2
    simp only at e
    subst e
    exact wpAny_pure (h _)
theorem unseen_tup {k : List Key} {b : Addr} {Q : Bool → Shared → Prop} (hk : IsP P w s.heap k b) {ys : List Value} (hy : ∀ y ∈ ys, ∃ k' c, y = Value.ref c ∧ IsP P w s.heap k' c) (h : Q false s) :
    wpAny (model P w) A (searchCouldBeSeen (.ref b) ys) Q E s := by
  unfold searchCouldBeSeen
  refine wpAny_bind ?_
  refine wpAny_forIn_list _ (fun rest r s' => r.1 = none ∧ s' = s ∧ ∀ y ∈ rest, ∃ k' c, y = Value.ref c ∧ IsP P w s.heap k' c) _ (fun v rest r s' ⟨e, e2, all⟩ => ?_) (fun r s' ⟨e, e2, _⟩ => ?_) _ _ ⟨rfl, rfl, hy⟩
  · subst e2
    obtain ⟨k', c, rfl, hc⟩ := all v (by simp)
    have next : ∀ y ∈ rest, ∃ k' c, y = Value.ref c ∧ IsP P w s'.heap k' c := fun u m => all u (by simp [m])
    dsimp only
    split
    · exact wpAny_pure ⟨rfl, rfl, next⟩
    · refine wpAny_bind (wpAny_eqIsQuiet_tuple hk ?_)
      simp only [Bool.not_true, Bool.false_eq_true, if_false]
      refine wpAny_bind (wpAny_eqIsQuiet_tuple hc ?_)
      simp only [Bool.not_true, Bool.false_eq_true, if_false]
      refine wpAny_bind (noClass_tup hk ?_)
      simp only [Bool.false_eq_true, if_false]
      refine wpAny_bind (noClass_tup hc ?_)
      simp only [Bool.false_eq_true, if_false]
      exact wpAny_pure ⟨rfl, rfl, next⟩
  · obtain ⟨r1, r2⟩ := r
    subst e2
    simp only at e
    subst e
    exact wpAny_pure h
end

/-! ### the table, searched -/
section
variable {P : Program} {w : World} {A : Around} {E : Value → Shared → Prop} {s : Shared}
def rowP (P : Program) (w : World) (p : Addr × List Key) : Int × Value := (hP P w p.2, Value.ref p.1)
/-- at a stands a set of the tuples L, in their slots' order -/
structure Tb (P : Program) (w : World) (h : Heap) (a : Addr) (L : List (Addr × List Key)) (es : Array (Int × Value)) (ep : Nat) (t : SetTable) : Prop where
  ob : ∃ o, h.get? a = some o ∧ o.ExactSet ∧ o.data = .set es ep t
  rows : es.toList = L.map (rowP P w)
  tab : TabOk t (L.map fun p => hP P w p.2)
  nd : (L.map (·.2)).Nodup
  tup : ∀ p ∈ L, IsP P w h p.2 p.1
  led : w.params.followText "set-order" = true ∨ t.led = true
  room : L.length * 5 < t.mask * 3
  few : L.length < 64
variable {a : Addr} {L : List (Addr × List Key)} {es : Array (Int × Value)} {ep : Nat} {t : SetTable}
theorem Tb.size (R : Tb P w s.heap a L es ep t) : es.size = L.length := by
  rw [← Array.length_toList, R.rows, List.length_map]
theorem Tb.fits (R : Tb P w s.heap a L es ep t) : t.fits es.size = true := by
  have h1 := R.tab.sz
  have h2 := R.size
  have h3 := R.room
  rw [List.length_map] at h1
  unfold SetTable.fits SetTable.fill
  rw [R.tab.dm, Bool.and_eq_true, beq_iff_eq, decide_eq_true_eq, h1, h2]
  exact ⟨rfl, by show L.length + 0 ≤ _; omega⟩
theorem Tb.row (R : Tb P w s.heap a L es ep t) {i : Nat} {p : Addr × List Key} (h : L[i]? = some p) : es[i]? = some (rowP P w p) := by
  rw [← Array.getElem?_toList, R.rows, List.getElem?_map, h]; rfl
/-- the c-th stand of the way of a hash -/
abbrev std (t : SetTable) (h : Int) (c : Nat) : SetTable.Probe := nth t.mask (runAt t.mask (SetTable.bits h % (t.mask + 1)) (SetTable.bits h)) c
theorem std_dummy (t : SetTable) (h : Int) (c : Nat) : (std t h c).dummy = none := by
  have key : ∀ (n : Nat) (p : SetTable.Probe), p.dummy = none → (nth t.mask p n).dummy = none := by
    intro n
    induction n with
    | zero => exact fun p z => z
    | succ n ih => exact fun p z => ih (adv t.mask p) (by unfold adv; split <;> exact z)
  exact key c _ rfl
theorem std_more (t : SetTable) (h : Int) (c q : Nat) : nth t.mask (std t h c) q = std t h (c + q) := (nth_add t.mask c _ q).symm
theorem Tb.find (R : Tb P w s.heap a L es ep t) {x : Addr} {k : List Key} (hx : IsP P w s.heap k x) (hu : A.units < cLine) {K : Nat} (far : K < 10 * SetTable.turns t.mask)
    (free : way t.mask (hP P w k) K ∉ t.place.toList) (taken : ∀ c, c < K → way t.mask (hP P w k) c ∈ t.place.toList) {Q : SetFound → Shared → Prop}
    (there : k ∈ L.map (·.2) → Q (.there none) s) (new : k ∉ L.map (·.2) → Q (.free (way t.mask (hP P w k) K) false) s) :
    ∀ (f c : Nat) (stand : Option SetTable.Probe), stand.getD (t.probeStart (hP P w k)) = std t (hP P w k) c → c ≤ K → K - c < f →
      (∀ (i : Nat) p, L[i]? = some p → p.2 = k → ∃ c', c ≤ c' ∧ c' < K ∧ t.place.toList[i]? = some (way t.mask (hP P w k) c')) → wpAny (model P w) A (setSearchFrom a (.ref x) (hP P w k) true f stand) Q E s := by
  obtain ⟨o, ho, hex, hd⟩ := R.ob
  have whole : ¬ t.gaveWay = true := by unfold SetTable.gaveWay; rw [mask_odd R.tab.mok]; decide
  intro f
  induction f with
  | zero => intro c _ _ _ z; exact absurd z (Nat.not_lt_zero _)
  | succ f ih =>
    intro c stand hst hc hf left
    rw [setSearchFrom_succ]
    refine wpAny_bind (wpAny_setState_of ho hd R.fits ?_)
    dsimp only
    refine wp_if_neg whole ?_
    try refine wpAny_bind (wpAny_pure ?_)
    have sw : ∀ q, (nth t.mask (std t (hP P w k) c) q).j = way t.mask (hP P w k) (c + q) := fun q => congrArg SetTable.Probe.j (std_more t _ c q)
    have ends : c + (K - c) = K := by omega
    have met := go_spec t R.tab.ris R.tab.dm (fun i => (es[i]?.map (·.1)).getD 0) (hP P w k) (10 * SetTable.turns t.mask) (K - c) _ (std_dummy t (hP P w k) c) (by omega)
      (fun q hq => by rw [sw]; exact taken (c + q) (by omega)) (by rw [sw, ends]; exact free)
    have hashes : ∀ (i : Nat) p, L[i]? = some p → (fun i => (es[i]?.map (·.1)).getD 0) i = hP P w p.2 := fun i p hp => by
      show (es[i]?.map (·.1)).getD 0 = _
      rw [R.row hp]; rfl
    -- an entry with this key hasn't been passed
    have notPassed : ∀ (q : Nat) (no : ∀ (k' i' : Nat), k' < q → t.place.toList[i']? = some (nth t.mask (std t (hP P w k) c) k').j → (es[i']?.map (·.1)).getD 0 ≠ hP P w k) (i0 : Nat) (p0 : Addr × List Key) (c' : Nat), L[i0]? = some p0 → p0.2 = k → c ≤ c' → t.place.toList[i0]? = some (way t.mask (hP P w k) c') → c + q ≤ c' := by
      intro q no i0 p0 c' h0 e0 lo at0
      rcases Nat.lt_or_ge c' (c + q) with z | z
      · refine absurd ((hashes i0 p0 h0).trans (congrArg (hP P w) e0)) (no (c' - c) i0 (by omega) ?_)
        rw [sw, show c + (c' - c) = c' by omega]
        exact at0
      · exact z
    rcases met with ⟨q, i, hq, hi, hh, no, pr⟩ | ⟨no, pr⟩
    · have pr2 : t.probe (fun i => (es[i]?.map (·.1)).getD 0) (hP P w k) (stand.getD (t.probeStart (hP P w k))) = some (.candidate (way t.mask (hP P w k) (c + q)) i (std t (hP P w k) (c + (q + 1)))) := by
        rw [hst, ← sw, ← std_more]
        exact pr
      rw [pr2]
      dsimp only
      rw [sw] at hi
      have il : i < L.length := by
        have h1 := (List.getElem?_eq_some_iff.mp hi).1
        have h2 := R.tab.sz
        rw [List.length_map] at h2
        rw [Array.length_toList, h2] at h1
        exact h1
      obtain ⟨p, hp⟩ : ∃ p, L[i]? = some p := ⟨_, List.getElem?_eq_getElem il⟩
      have mp : p ∈ L := List.mem_of_getElem? hp
      have go : wpAny (model P w) A (searchRest a (.ref x) (hP P w k) true f es t (way t.mask (hP P w k) (c + q)) i (std t (hP P w k) (c + (q + 1)))) Q E s := by
        unfold searchRest
        rw [R.row hp]
        dsimp only [rowP]
        refine wpAny_bind (wpAny_holding (wpAny_eqBool_tuple hu (R.tup p mp) hx ?_))
        refine wpAny_bind (wpAny_setState_of ho hd R.fits ?_)
        dsimp only
        by_cases same : p.2 = k
        · exact wp_if_pos (by simp [same]) (wpAny_pure (there (List.mem_map.mpr ⟨p, mp, same⟩)))
        · refine wp_if_neg (by simp [same]) ?_
          try refine wpAny_bind (wpAny_pure ?_)
          rw [sameMem]
          dsimp only
          have live : t.slot (way t.mask (hP P w k) (c + q)) = .live i := slot_live R.tab.ris hi
          simp only [if_true, live, R.row hp, rowP]
          refine wpAny_bind (wpAny_isSame_ref_self (wpAny_bind (wpAny_pure ?_)))
          simp only [if_true]
          refine wp_if_neg (by simp [same]) ?_
          refine ih (c + (q + 1)) _ rfl (by omega) (by omega) fun i0 p0 h0 e0 => ?_
          obtain ⟨c', a1, a2, a3⟩ := left i0 p0 h0 e0
          have lo := notPassed q no i0 p0 c' h0 e0 a1 a3
          rcases Nat.lt_or_ge (c + q) c' with z | z
          · exact ⟨c', z, a2, a3⟩
          · exfalso
            obtain rfl : c' = c + q := Nat.le_antisymm z lo
            have l0 := slot_live R.tab.ris a3
            rw [live] at l0
            injection l0 with l0
            subst l0
            obtain rfl : p = p0 := Option.some.inj (hp.symm.trans h0)
            exact same e0
      by_cases hl : t.led = true
      · refine wp_if_neg (by simp [hl]) ?_
        try refine wpAny_bind (wpAny_pure ?_)
        exact go
      · refine wp_if_pos (by simp [hl]) ?_
        refine wpAny_bind (unseen_tup hx (fun y hy => ?_) ?_)
        · obtain ⟨e, he, rfl⟩ := List.mem_map.mp hy
          have he2 : e ∈ es.toList := by
            have z : e ∈ es ∧ e.1 = hP P w k := by simpa using he
            simpa using z.1
          rw [R.rows] at he2
          obtain ⟨p2, m2, rfl⟩ := List.mem_map.mp he2
          exact ⟨p2.2, p2.1, rfl, R.tup p2 m2⟩
        · refine wp_if_neg (by decide) ?_
          try refine wpAny_bind (wpAny_pure ?_)
          exact go
    · have pr2 : t.probe (fun i => (es[i]?.map (·.1)).getD 0) (hP P w k) (stand.getD (t.probeStart (hP P w k))) = some (.empty (way t.mask (hP P w k) K) none) := by
        rw [hst, ← ends, ← sw]
        exact pr
      rw [pr2]
      dsimp only
      refine wpAny_pure (new fun hm => ?_)
      obtain ⟨p0, m0, e0⟩ := List.mem_map.mp hm
      obtain ⟨i0, hi0, rfl⟩ := List.getElem_of_mem m0
      have h0 := List.getElem?_eq_getElem hi0
      obtain ⟨c', a1, a2, a3⟩ := left i0 _ h0 e0
      have lo := notPassed (K - c) no i0 _ c' h0 e0 a1 a3
      omega
theorem Tb.search (R : Tb P w s.heap a L es ep t) {x : Addr} {k : List Key} (hx : IsP P w s.heap k x) (hu : A.units < cLine) {Q : SetFound → Shared → Prop} (there : k ∈ L.map (·.2) → Q (.there none) s)
    (new : ∀ K, k ∉ L.map (·.2) → way t.mask (hP P w k) K ∉ t.place.toList → (∀ c, c < K → way t.mask (hP P w k) c ∈ t.place.toList) → Q (.free (way t.mask (hP P w k) K) false) s) :
    wpAny (model P w) A (setSearch a (.ref x) (hP P w k) true) Q E s := by
  have room := R.room
  obtain ⟨K, far, free, taken⟩ := R.tab.first (by rw [List.length_map]; omega) (hP P w k)
  have few : K < 100000 := by
    have : 10 * SetTable.turns t.mask ≤ 1420 := by
      unfold SetTable.turns
      rcases R.tab.mok with e | e | e <;> omega
    omega
  unfold setSearch
  refine R.find hx hu far free taken there (fun no => new K no free taken) 100000 0 none rfl (Nat.zero_le _) (by omega) fun i p hp e => ?_
  have hi : (L.map fun p => hP P w p.2)[i]? = some (hP P w k) := by rw [List.getElem?_map, hp, ← e]; rfl
  have il : i < t.place.toList.length := by
    have h1 := (List.getElem?_eq_some_iff.mp hi).1
    have h2 := R.tab.sz
    rw [Array.length_toList]
    omega
  obtain ⟨c, lt, e2⟩ := R.tab.before free hi (List.getElem?_eq_getElem il)
  exact ⟨c, Nat.zero_le _, lt, by rw [List.getElem?_eq_getElem il, e2]⟩
end

/-! ### one more in it -/
theorem pick_all {α : Type} (L : List α) : (List.range L.length).filterMap (fun i => L[i]?) = L := by
  have key : ∀ n, n ≤ L.length → (List.range n).filterMap (fun i => L[i]?) = L.take n := by
    intro n
    induction n with
    | zero => intro _; rfl
    | succ n ih =>
      intro h
      rw [List.range_succ, List.filterMap_append, ih (by omega), List.take_add_one, List.getElem?_eq_getElem (show n < L.length by omega)]
      simp [List.getElem?_eq_getElem (show n < L.length by omega)]
  have := key L.length (Nat.le_refl _)
  rwa [List.take_length] at this
section
variable {P : Program} {w : World} {A : Around} {E : Value → Shared → Prop} {s : Shared}
theorem reordered (L : List (Addr × List Key)) (es : Array (Int × Value)) (order : Array Nat) (hr : es.toList = L.map (rowP P w)) (hp : order.toList.Perm (List.range L.length)) :
    ∃ Lr : List (Addr × List Key), (order.filterMap (es[·]?)).toList = Lr.map (rowP P w) ∧ Lr.Perm L ∧ (Lr.map fun p => hP P w p.2) = order.toList.map fun i => (es.map (·.1)).getD i 0 := by
  have ent : ∀ i, es[i]? = (L[i]?).map (rowP P w) := fun i => by rw [← Array.getElem?_toList, hr, List.getElem?_map]
  refine ⟨order.toList.filterMap (fun i => L[i]?), ?_, ?_, ?_⟩
  · rw [Array.toList_filterMap, List.map_filterMap]
    congr 1
    funext i
    exact ent i
  · have := hp.filterMap (fun i => L[i]?)
    rwa [pick_all] at this
  · have all : ∀ i ∈ order.toList, i < L.length := fun i m => List.mem_range.mp (hp.mem_iff.mp m)
    generalize order.toList = l at all
    induction l with
    | nil => rfl
    | cons i l ih =>
      have hi := List.getElem?_eq_getElem (all i (by simp))
      rw [List.filterMap_cons_some hi, List.map_cons, List.map_cons, ih fun j m => all j (by simp [m])]
      congr 1
      rw [Array.getD_eq_getD_getElem?, Array.getElem?_map, ent i, hi]
      rfl
theorem tup_stays {h h' : Heap} {k : List Key} {a b : Addr} {o : Obj} {es : Array (Int × Value)} {ep : Nat} {t : SetTable} (hb : IsP P w h k b) (ho : h.get? a = some o) (hd : o.data = .set es ep t) (sb : Heap.SameBut a h h') : IsP P w h' k b := by
  obtain ⟨o2, items, n, h2, c2, d2, i2⟩ := hb
  refine ⟨o2, items, n, (sb.2 b fun e => ?_).trans h2, c2, d2, i2⟩
  subst e
  obtain rfl : o2 = o := Option.some.inj (h2.symm.trans ho)
  rw [d2] at hd
  cases hd
variable {a : Addr} {L : List (Addr × List Key)} {es : Array (Int × Value)} {ep : Nat} {t : SetTable}
theorem relay_tups {o : Obj} (ho : s.heap.get? a = some o) (hex : o.ExactSet) (hd : o.data = .set es ep t) (hrows : es.toList = L.map (rowP P w)) (hsz : t.place.size = es.size) (hdm : t.dummies = #[]) (hfl : es.size ≤ t.mask)
    (nd : (L.map (·.2)).Nodup) (tup : ∀ p ∈ L, IsP P w s.heap p.2 p.1) (ld : w.params.followText "set-order" = true ∨ t.led = true) (few : L.length < 64) {wanted M : Nat}
    (hw : SetTable.sizeAbove wanted - 1 = M) (hM : MaskOk M) (hw2 : SetTable.sizeAbove wanted ≤ 128) (hn : L.length * 5 < M * 3) {Q : Unit → Shared → Prop}
    (hQ : ∀ h' L' es' ep' t', Heap.SameBut a s.heap h' → Tb P w h' a L' es' ep' t' → L'.Perm L → Q () { s with heap := h' }) : wpAny (model P w) A (setRelay a wanted) Q E s := by
  have hsl : es.size = L.length := by rw [← Array.length_toList, hrows, List.length_map]
  have hfits : t.fits es.size = true := by
    unfold SetTable.fits SetTable.fill
    rw [hdm, Bool.and_eq_true, beq_iff_eq, decide_eq_true_eq]
    exact ⟨hsz, by show t.place.size + 0 ≤ _; omega⟩
  obtain ⟨t', order, e, hp, T1, em, el, -, ed⟩ := relaid_ok t (hs := es.map (·.1)) (wanted := wanted) hw hM (by rw [Array.size_map, hsl]; omega)
  rw [Array.size_map, hsl] at hp
  obtain ⟨Lr, r1, r2, r3⟩ := reordered (P := P) (w := w) L es order hrows hp
  rw [← r3] at T1
  have hs2 : (order.filterMap (es[·]?)).size = es.size := by rw [← Array.length_toList, r1, List.length_map, r2.length_eq, hsl]
  rw [setRelay_eq]
  refine wpAny_bind (wpAny_setState_of ho hd hfits ?_)
  dsimp only
  refine wp_if_neg (by rw [sizeLine_eq]; omega) ?_
  try refine wpAny_bind (wpAny_pure ?_)
  rw [e]
  dsimp only
  refine wpAny_bind ?_
  refine wp_if_neg (by rw [hs2]; simp) ?_
  try refine wpAny_bind (wpAny_pure ?_)
  refine wpAny_pure ?_
  dsimp only
  refine wpAny_storeSet_of ho hd ?_ (by rw [hs2, hsl, sizeLine_eq]; omega)
  have sb : Heap.SameBut a s.heap (s.heap.update a (Obj.putSet (order.filterMap (es[·]?)) t')) := Heap.SameBut.update ..
  exact hQ _ Lr _ (ep + 1) t' sb ⟨⟨_, store_at ho hd, ⟨hex.1, hex.2.1, hex.2.2⟩, rfl⟩, r1, T1, (r2.map (·.2)).nodup_iff.mpr nd, fun p m => tup_stays (tup p (r2.mem_iff.mp m)) ho hd sb, by rw [el]; exact ld,
    by rw [r2.length_eq, em]; exact hn, by rw [r2.length_eq]; exact few⟩ r2
theorem Tb.add (R : Tb P w s.heap a L es ep t) {x : Addr} {k : List Key} (hx : IsP P w s.heap k x) (hu : A.units < cLine) (few : L.length + 1 < 64) {Q : Bool → Shared → Prop}
    (hQ : ∀ b h' L' es' ep' t', Heap.SameBut a s.heap h' → Tb P w h' a L' es' ep' t' → (k ∈ L.map (·.2) → L' = L) → (k ∉ L.map (·.2) → L'.Perm ((x, k) :: L)) → Q b { s with heap := h' }) :
    wpAny (model P w) A (setAddHashed a (.ref x) (hP P w k)) Q E s := by
  obtain ⟨o, ho, hex, hd⟩ := R.ob
  have hsl := R.size
  have room := R.room
  unfold setAddHashed
  refine wpAny_holding ?_
  rw [show (100000 : Nat) = 99999 + 1 from rfl, setAddHashedIn_succ]
  refine wpAny_bind (wpAny_setState_of ho hd R.fits ?_)
  dsimp only
  refine wp_if_neg (by simp [byScan, Value.scannable]) ?_
  try refine wpAny_bind (wpAny_pure ?_)
  refine wpAny_bind (R.search hx hu (fun hm => ?_) fun K hm free taken => ?_)
  · dsimp only
    exact wpAny_pure (hQ false s.heap L es ep t (Heap.SameBut.refl a s.heap) R (fun _ => rfl) fun z => absurd hm z)
  · dsimp only
    refine wpAny_bind (wpAny_setState_of ho hd R.fits ?_)
    dsimp only
    obtain ⟨q1, q2, q3, q4, q5, q6, q7, q8, q9⟩ := R.tab.put free taken
    generalize hpt : t.put (way t.mask (hP P w k) K) = pt at q1 q3 q4 q5 q6 q7 q8 q9 ⊢
    obtain ⟨t1, p⟩ := pt
    dsimp only at q1 q3 q4 q5 q6 q7 q8 q9 ⊢
    subst q1
    -- what is told of its hash changes the table's word alone
    have rest : ∀ t2 : SetTable, t2.place = t1.place → t2.mask = t1.mask → t2.dummies = t1.dummies → t2.led = t1.led → t2.moves = t1.moves → t2.finger = t1.finger → wpAny (model P w) A (do
        storeSet a (SetTable.insertAt es (SetTable.below t.place (way t.mask (hP P w k) K)) (hP P w k, .ref x)) t2
        if !false && t2.tooFull then setRelay a (SetTable.grown (es.size + 1))
        return true) Q E s := by
      intro t2 z1 z2 z3 z4 z5 z6
      have q3' : TabOk t2 ((L.map fun p => hP P w p.2).take (SetTable.below t.place (way t.mask (hP P w k) K)) ++ hP P w k :: (L.map fun p => hP P w p.2).drop (SetTable.below t.place (way t.mask (hP P w k) K))) :=
        ⟨by rw [z1]; exact q3.ris, by rw [z3]; exact q3.dm, by rw [z1]; exact q3.sz, by rw [z2]; exact q3.mok, by rw [z1, z2]; exact q3.bd, by rw [z1, z2]; exact q3.reach⟩
      have q9' : t2.fill = (L.map fun p => hP P w p.2).length + 1 := by
        rw [← q9]
        unfold SetTable.fill
        rw [z1, z3]
      rw [← z2] at q4
      rw [← z4] at q5
      clear q3 q9 z1 z3 z4 z5 z6
      have hin : (SetTable.insertAt es (SetTable.below t.place (way t.mask (hP P w k) K)) (hP P w k, Value.ref x)).toList = (L.take (SetTable.below t.place (way t.mask (hP P w k) K)) ++ (x, k) :: L.drop (SetTable.below t.place (way t.mask (hP P w k) K))).map (rowP P w) := by
        rw [SetTable.toList_insertAt, R.rows, List.map_append, List.map_cons, List.map_take, List.map_drop]; rfl
      generalize hpp : SetTable.below t.place (way t.mask (hP P w k) K) = p at q2 q3' hin ⊢
      have pm : (L.take p ++ (x, k) :: L.drop p).Perm ((x, k) :: L) := by
        have := List.perm_middle (a := (x, k)) (l₁ := L.take p) (l₂ := L.drop p)
        rwa [List.take_append_drop] at this
      have hlen : (L.take p ++ (x, k) :: L.drop p).length = L.length + 1 := pm.length_eq
      have hhs : (L.take p ++ (x, k) :: L.drop p).map (fun p => hP P w p.2) = (L.map fun p => hP P w p.2).take p ++ hP P w k :: (L.map fun p => hP P w p.2).drop p := by
        rw [List.map_append, List.map_cons, List.map_take, List.map_drop]
      rw [← hhs] at q3'
      have nd1 : ((L.take p ++ (x, k) :: L.drop p).map (·.2)).Nodup := (pm.map (·.2)).nodup_iff.mpr (List.nodup_cons.mpr ⟨hm, R.nd⟩)
      have hes : (SetTable.insertAt es p (hP P w k, Value.ref x)).size = L.length + 1 := by rw [← Array.length_toList, hin, List.length_map, hlen]
      generalize SetTable.insertAt es p (hP P w k, Value.ref x) = es1 at hin hes ⊢
      generalize L.take p ++ (x, k) :: L.drop p = L1 at pm hlen q3' nd1 hin
      refine wpAny_bind (wpAny_storeSet_of ho hd ?_ (by rw [hes, sizeLine_eq]; omega))
      have sb : Heap.SameBut a s.heap (s.heap.update a (Obj.putSet es1 t2)) := Heap.SameBut.update ..
      have ho1 := store_at (es' := es1) (t' := t2) ho hd
      generalize s.heap.update a (Obj.putSet es1 t2) = h1 at sb ho1 ⊢
      have tup1 : ∀ p ∈ L1, IsP P w h1 p.2 p.1 := fun p hp => by
        rcases List.mem_cons.mp (pm.mem_iff.mp hp) with e | hp
        · rw [e]; exact tup_stays hx ho hd sb
        · exact tup_stays (R.tup p hp) ho hd sb
      have ld1 : w.params.followText "set-order" = true ∨ t2.led = true := by rw [q5]; exact R.led
      rw [List.length_map] at q9'
      by_cases full : t2.tooFull = true
      · first
          | (refine wpAny_bind ?_; refine wp_if_pos (by simp [full]) ?_)
          | (refine wp_if_pos (by simp [full]) ?_; refine wpAny_bind ?_)
        have much : (L.length + 1) * 5 ≥ t2.mask * 3 := by
          have h := full
          unfold SetTable.tooFull at h
          rwa [decide_eq_true_eq, q9'] at h
        rw [hsl]
        have sz1 : t2.place.size = es1.size := by
          have h := q3'.sz
          rw [List.length_map, hlen] at h
          rw [h, hes]
        have two : (t.mask = 7 ∧ L.length = 4) ∨ (t.mask = 31 ∧ L.length = 18) := by
          rw [q4] at much
          rcases R.tab.mok with e | e | e <;> rw [e] at much room
          · exact .inl ⟨e, by omega⟩
          · exact .inr ⟨e, by omega⟩
          · omega
        have go : ∀ M, SetTable.sizeAbove (SetTable.grown (L.length + 1)) - 1 = M → MaskOk M → SetTable.sizeAbove (SetTable.grown (L.length + 1)) ≤ 128 → (L.length + 1) * 5 < M * 3 →
            wpAny (model P w) A (setRelay a (SetTable.grown (L.length + 1))) (fun _ s' => wpAny (model P w) A (pure true) Q E s') E { s with heap := h1 } := fun M g1 g2 g3 g4 => by
          refine relay_tups (s := { s with heap := h1 }) ho1 ⟨hex.1, hex.2.1, hex.2.2⟩ rfl hin sz1 q3'.dm (by rw [hes, q4]; rcases two with ⟨e, e2⟩ | ⟨e, e2⟩ <;> omega) nd1 tup1 ld1 (by omega) g1 g2 g3 (by rw [hlen]; exact g4) ?_
          exact fun h2 Lr es2 ep2 t2 sb2 R2 pm2 => wpAny_pure (hQ true h2 Lr es2 ep2 t2 (sb.trans sb2) R2 (fun z => absurd z hm) fun _ => pm2.trans pm)
        rcases two with ⟨_, e2⟩ | ⟨_, e2⟩
        · exact go 31 (by rw [e2, size_20]) (.inr (.inl rfl)) (by rw [e2, size_20]; decide) (by omega)
        · exact go 127 (by rw [e2, size_76]) (.inr (.inr rfl)) (by rw [e2, size_76]; decide) (by omega)
      · first
          | refine wp_if_neg (by simp [full]) ?_
          | (refine wpAny_bind ?_; refine wp_if_neg (by simp [full]) ?_; refine wpAny_pure ?_)
        refine wpAny_pure (hQ true h1 L1 es1 (ep + 1) t2 sb ⟨⟨_, ho1, ⟨hex.1, hex.2.1, hex.2.2⟩, rfl⟩, hin, q3', nd1, tup1, ld1, ?_, by omega⟩ (fun z => absurd z hm) fun _ => pm)
        have h := full
        unfold SetTable.tooFull at h
        rw [decide_eq_true_eq, q9'] at h
        omega
    by_cases pl : t1.plain = true
    · first
        | (refine wpAny_bind ?_; refine wp_if_pos pl ?_; refine hashBy_any hx fun c => ?_)
        | refine wp_if_pos pl (wpAny_bind (hashBy_any hx fun c => ?_))
      cases c
      · exact rest { t1 with plain := false } rfl rfl rfl rfl rfl rfl
      · exact rest t1 rfl rfl rfl rfl rfl rfl
    · first
        | (refine wpAny_bind ?_; refine wp_if_neg pl ?_; refine wpAny_pure ?_)
        | refine wp_if_neg pl (wpAny_bind (wpAny_pure ?_))
        | refine wp_if_neg pl ?_
      exact rest t1 rfl rfl rfl rfl rfl rfl
end
end VS

namespace VS
open PySem PySem.Spec L2
open PyProof.Rows hiding St
open PySem.W (alike dataLe Sortable AllAlike EachIs sortingHeap copyHeap SortsAt dataLt dataLt_pair dataLt_int dataLt_str)
/-! ### set(xs), xs tuples of texts and numbers -/
/-- what the set has of the first i -/
structure Met (ks : List (Addr × List Key)) (i : Nat) (L : List (Addr × List Key)) : Prop where
  sub : ∀ p ∈ L, p ∈ ks.take i
  all : ∀ p ∈ ks.take i, p.2 ∈ L.map (·.2)
  len : L.length ≤ i
section
variable {P : Program} {w : World} {A : Around} {E : Value → Shared → Prop} {s : Shared}
theorem isP_keep {h h' : Heap} {k : List Key} {b : Addr} (x : IsP P w h k b) (hk : ∀ c o, h.get? c = some o → h'.get? c = some o) : IsP P w h' k b := by
  obtain ⟨o, items, n, ho, r⟩ := x
  exact ⟨o, items, n, hk b o ho, r⟩
theorem tb_fresh {h : Heap} {a : Addr} (ho : h.get? a = some (emptySet w)) : Tb P w h a [] #[] 0 (.fresh 0 0 (!w.params.followText "set-order")) where
  ob := ⟨_, ho, ⟨rfl, rfl, rfl⟩, rfl⟩
  rows := rfl
  tab := ⟨List.Pairwise.nil, rfl, rfl, .inl rfl, fun x m => (by cases m), fun i h j e => (by simp at e)⟩
  nd := List.nodup_nil
  tup := fun p m => by cases m
  led := by
    show _ ∨ (!w.params.followText "set-order") = true
    cases w.params.followText "set-order"
    · exact .inr rfl
    · exact .inl rfl
  room := by show 0 * 5 < 7 * 3; decide
  few := by show 0 < 64; decide
theorem call_set_pairs {l : Addr} {items : List Value} (ks : List (Addr × List Key)) {Q : Value → Shared → Prop} (hh : A.handled = none) (hl : s.heap.IsList l items.toArray) (hit : items = ks.map fun p => Value.ref p.1)
    (hk : ∀ p ∈ ks, IsP P w s.heap p.2 p.1) (few : ks.length < 64) (hu : A.units + 5 < cLine)
    (h : ∀ h' tk L es ep t, Tb P w h' s.heap.objs.size L es ep t → Met ks ks.length L → (∀ b o, s.heap.get? b = some o → h'.get? b = some o) → Q (.ref s.heap.objs.size) { s with heap := h', toks := tk }) :
    wpAny (model P w) A (call (.type "set") [.ref l]) Q E s := by
  have len : items.toArray.size = ks.length := by simp [hit]
  have at_ : ∀ (i : Nat) (v : Value), items.toArray[i]? = some v → ∃ p, ks[i]? = some p ∧ v = Value.ref p.1 := fun i v e => by
    have q : items[i]? = some v := by simpa using e
    rw [hit, List.getElem?_map] at q
    cases c : ks[i]? with
    | none => rw [c] at q; cases q
    | some p => rw [c] at q; exact ⟨p, rfl, (Option.some.inj q).symm⟩
  have below : ∀ {b : Addr} {o : Obj}, s.heap.get? b = some o → b < s.heap.objs.size := fun e => Heap.lt_size e
  refine call_set_gen (fun i hp => (∀ b o, s.heap.get? b = some o → hp.get? b = some o) ∧ ∃ L es ep t, Tb P w hp s.heap.objs.size L es ep t ∧ Met ks i L) hh hl
    (fun hp k e => ⟨k, [], #[], 0, _, tb_fresh e, fun p m => (by cases m), fun p m => (by simp at m), Nat.le_refl 0⟩)
    (fun i hp hq ⟨base, L, es, ep, t, R, M⟩ k => ⟨fun b o e => k b o (Nat.ne_of_lt (Nat.lt_succ_of_lt (below e))) (base b o e), L, es, ep, t, ?_, M⟩) (fun A' i v un e => ?_) fun h' tk ⟨base, L, es, ep, t, R, M⟩ k => ?_
  · have base2 : ∀ b o, s.heap.get? b = some o → hq.get? b = some o := fun b o e => k b o (Nat.ne_of_lt (Nat.lt_succ_of_lt (below e))) (base b o e)
    obtain ⟨o, ho, r⟩ := R.ob
    exact ⟨⟨o, k _ o (Nat.ne_of_lt (Nat.lt_succ_self _)) ho, r⟩, R.rows, R.tab, R.nd, fun p m => isP_keep (hk p (List.mem_of_mem_take (M.sub p m))) base2, R.led, R.room, R.few⟩
  · obtain ⟨p, hp, rfl⟩ := at_ i v e
    intro E2 s2 Q2 ⟨base, L, es, ep, t, R, M⟩ go
    have hx : IsP P w s2.heap p.2 p.1 := isP_keep (hk p (List.mem_of_getElem? hp)) base
    have il : i < ks.length := (List.getElem?_eq_some_iff.mp hp).1
    have hu2 : A'.units < cLine := by omega
    have tk1 : ks.take (i + 1) = ks.take i ++ [p] := by rw [List.take_add_one, hp]; rfl
    unfold setAdd
    refine wpAny_holding (wpAny_bind (wpAny_pyHash_tuple hu2 hx ?_))
    refine Tb.add (s := { s2 with toks := s2.toks + (p.2.length + 1) }) R hx hu2 (by have := M.len; omega) fun b h' L' es' ep' t' sb R2 c1 c2 => ?_
    refine go _ h' _ (Nat.le_add_right _ _) sb ⟨fun b o e => (sb.2 b (Nat.ne_of_lt (below e))).trans (base b o e), L', es', ep', t', R2, ?_⟩
    by_cases c : p.2 ∈ L.map (·.2)
    · rw [c1 c]
      refine ⟨fun q m => by rw [tk1]; exact List.mem_append_left _ (M.sub q m), fun q m => ?_, Nat.le_succ_of_le M.len⟩
      rw [tk1] at m
      rcases List.mem_append.mp m with z | z
      · exact M.all q z
      · rw [List.mem_singleton.mp z]; exact c
    · have pm := c2 c
      refine ⟨fun q m => ?_, fun q m => ?_, by rw [pm.length_eq]; exact Nat.succ_le_succ M.len⟩
      · rw [tk1]
        rcases List.mem_cons.mp (pm.mem_iff.mp m) with z | z
        · rw [z]; exact List.mem_append_right _ (List.mem_singleton.mpr rfl)
        · exact List.mem_append_left _ (M.sub q z)
      · rw [(pm.map (·.2)).mem_iff, List.map_cons]
        rw [tk1] at m
        rcases List.mem_append.mp m with z | z
        · exact List.mem_cons_of_mem _ (M.all q z)
        · rw [List.mem_singleton.mp z]; exact List.mem_cons_self
  · rw [len] at M
    exact h h' tk L es ep t R M base
/-! ### pairs in order -/
abbrev Pr := Str × Int
def prT (p : Pr) : T := .tup [.str p.1, .int p.2]
def prK (p : Pr) : List Key := [.inr p.1, .inl p.2]
def prLe (p q : Pr) : Bool := decide (p.1.cps.toList < q.1.cps.toList ∨ (p.1 = q.1 ∧ p.2 ≤ q.2))
theorem prK_inj {p q : Pr} (e : prK p = prK q) : p = q := by
  obtain ⟨a, b⟩ := p
  obtain ⟨c, d⟩ := q
  simp only [prK, List.cons.injEq, Sum.inr.injEq, Sum.inl.injEq, and_true] at e
  rw [e.1, e.2]
theorem cps_inj {a b : Str} (h : a.cps.toList = b.cps.toList) : a = b := PySem.W.str_of_cps h
theorem prLe_total (p q : Pr) : (prLe p q || prLe q p) = true := by
  simp only [prLe, Bool.or_eq_true, decide_eq_true_eq]
  by_cases e : p.1 = q.1
  · rcases Int.le_total p.2 q.2 with h | h
    · exact .inl (.inr ⟨e, h⟩)
    · exact .inr (.inr ⟨e.symm, h⟩)
  · rcases List.le_total p.1.cps.toList q.1.cps.toList with h | h
    · by_cases l : p.1.cps.toList < q.1.cps.toList
      · exact .inl (.inl l)
      · exact absurd (cps_inj (List.le_antisymm h (List.not_lt.mp l))) e
    · by_cases l : q.1.cps.toList < p.1.cps.toList
      · exact .inr (.inl l)
      · exact absurd (cps_inj (List.le_antisymm (List.not_lt.mp l) h)) e
theorem prLe_trans (p q r : Pr) (h1 : prLe p q = true) (h2 : prLe q r = true) : prLe p r = true := by
  simp only [prLe, decide_eq_true_eq] at h1 h2 ⊢
  rcases h1 with h1 | ⟨e1, h1⟩
  · rcases h2 with h2 | ⟨e2, h2⟩
    · exact .inl (List.lt_trans h1 h2)
    · exact .inl (e2 ▸ h1)
  · rcases h2 with h2 | ⟨e2, h2⟩
    · exact .inl (e1 ▸ h2)
    · exact .inr ⟨e1.trans e2, Int.le_trans h1 h2⟩
theorem prLe_anti {p q : Pr} (h1 : prLe p q = true) (h2 : prLe q p = true) : p = q := by
  simp only [prLe, decide_eq_true_eq] at h1 h2
  rcases h1 with h1 | ⟨e1, h1⟩
  · rcases h2 with h2 | ⟨e2, h2⟩
    · exact absurd (List.lt_trans h1 h2) (List.lt_irrefl _)
    · rw [e2] at h1; exact absurd h1 (List.lt_irrefl _)
  · rcases h2 with h2 | ⟨e2, h2⟩
    · rw [e1] at h2; exact absurd h2 (List.lt_irrefl _)
    · exact Prod.ext e1 (Int.le_antisymm h1 h2)
def sortP (ps : List Pr) : List Pr := ps.mergeSort prLe
theorem sortP_pw (ps : List Pr) : (sortP ps).Pairwise (fun p q => prLe p q = true) := List.pairwise_mergeSort (fun a b c => prLe_trans a b c) (fun a b => prLe_total a b) ps
theorem sortP_perm (ps : List Pr) : (sortP ps).Perm ps := List.mergeSort_perm _ _
theorem sortP_uniq {ps qs : List Pr} (h : ps.Perm qs) : sortP ps = sortP qs :=
  List.Perm.eq_of_pairwise (fun a b _ _ h1 h2 => prLe_anti h1 h2) (sortP_pw ps) (sortP_pw qs) ((sortP_perm ps).trans (h.trans (sortP_perm qs).symm))
theorem dataLe_pr (p q : Pr) : dataLe false (fun p => (prT p).toD) p q = prLe p q := by
  obtain ⟨a, b⟩ := p
  obtain ⟨c, d⟩ := q
  show (!dataLt (.tuple [.str c, .int d]) (.tuple [.str a, .int b])) = _
  rw [dataLt_pair (by simp [alike]) (by simp [alike]), dataLt_int, dataLt_str]
  simp only [prLe, PyData.eqv]
  by_cases e : c = a
  · subst e
    by_cases e2 : d = b
    · subst e2; simp [List.lt_irrefl]
    · have : ¬ (c.cps.toList < c.cps.toList) := List.lt_irrefl _
      by_cases z : b ≤ d
      · simp [e2, this, z]
      · simp [e2, this, z]; omega
  · have ne : ¬ a = c := fun z => e z.symm
    have key : (¬ c.cps.toList < a.cps.toList) ↔ a.cps.toList < c.cps.toList := by
      constructor
      · intro h
        by_cases l : a.cps.toList < c.cps.toList
        · exact l
        · exact absurd (cps_inj (List.le_antisymm (List.not_lt.mp l) (List.not_lt.mp h))) e
      · exact fun h z => List.lt_irrefl _ (List.lt_trans h z)
    by_cases l : c.cps.toList < a.cps.toList
    · have := fun z => key.mpr z l
      simp [e, ne, l]
      exact List.not_lt.mp this
    · have := key.mp l
      simp [e, ne, l, this]
theorem sortL_pr (ps : List Pr) : (ps.map prT).mergeSort (dataLe false T.toD) = (sortP ps).map prT := by
  unfold sortP
  rw [List.map_mergeSort]
  intro a _ b _
  exact (dataLe_pr a b).symm
end

theorem perm_map_back {α β : Type} {f : α → β} {l1 l2 : List β} (h : l1.Perm l2) : ∀ zl : List α, l2 = zl.map f → ∃ zo : List α, l1 = zo.map f ∧ zo.Perm zl := by
  induction h with
  | nil => intro zl e; cases zl with
    | nil => exact ⟨[], rfl, .nil⟩
    | cons z zl => cases e
  | cons x _ ih => intro zl e; cases zl with
    | nil => cases e
    | cons z zl =>
      simp only [List.map_cons, List.cons.injEq] at e
      obtain ⟨zo, e2, pm⟩ := ih zl e.2
      exact ⟨z :: zo, by rw [List.map_cons, ← e.1, e2], pm.cons z⟩
  | swap x y l => intro zl e; match zl, e with
    | z1 :: z2 :: zl, e =>
      simp only [List.map_cons, List.cons.injEq] at e
      exact ⟨z2 :: z1 :: zl, by simp [e.1, e.2.1, e.2.2], .swap _ _ _⟩
  | trans _ _ i1 i2 =>
    intro zl e
    obtain ⟨z2, e2, p2⟩ := i2 zl e
    obtain ⟨z1, e1, p1⟩ := i1 z2 e2
    exact ⟨z1, e1, p1.trans p2⟩
theorem sub_map_back {α β : Type} {f : α → β} {zs : List α} : ∀ {L : List β}, (∀ p ∈ L, p ∈ zs.map f) → ∃ zl : List α, L = zl.map f ∧ ∀ z ∈ zl, z ∈ zs
  | [], _ => ⟨[], rfl, fun z m => by cases m⟩
  | p :: L, h => by
    obtain ⟨z, m, rfl⟩ := List.mem_map.mp (h p (by simp))
    obtain ⟨zl, rfl, a⟩ := sub_map_back (L := L) fun q mq => h q (by simp [mq])
    exact ⟨z :: zl, rfl, fun y my => by rcases List.mem_cons.mp my with rfl | my; exact m; exact a y my⟩
theorem each_of_all {α β γ : Type} {R : β → γ → Prop} {f : α → β} {g : α → γ} : ∀ {zs : List α}, (∀ z ∈ zs, R (f z) (g z)) → EachIs R (zs.map f) (zs.map g)
  | [], _ => .nil
  | z :: zs, h => .cons (h z (by simp)) (each_of_all fun y m => h y (by simp [m]))
theorem alike_prs (ps : List Pr) : AllAlike ((ps.map prT).map T.toD) := by
  intro d hd e he
  rw [List.map_map] at hd he
  obtain ⟨p, _, rfl⟩ := List.mem_map.mp hd
  obtain ⟨q, _, rfl⟩ := List.mem_map.mp he
  show alike (.tuple [.str p.1, .int p.2]) (.tuple [.str q.1, .int q.2]) = true
  simp [alike, PySem.W.alikeAll]
theorem sortable_prs (ps : List Pr) : Sortable ((ps.map prT).map T.toD) := by
  refine .inl fun d hd => ?_
  rw [List.map_map] at hd
  obtain ⟨p, _, rfl⟩ := List.mem_map.mp hd
  exact ⟨_, _, rfl⟩
section
variable {P : Program} {w : World} {A : Around} {E : Value → Shared → Prop} {s : Shared} {a : Addr} {L : List (Addr × List Key)} {es : Array (Int × Value)} {ep : Nat} {t : SetTable}
/-- sorted(the set of the pairs zl) -/
theorem sorted_set_pairs {Rz : Value → T → Prop} {zl : List (Addr × Pr)} {Q : Value → Shared → Prop} (R : Tb P w s.heap a L es ep t) (hL : L = zl.map fun z => (z.1, prK z.2)) (hh : A.handled = none) (hu : A.units + 64 < cLine)
    (rz : ∀ z ∈ zl, Rz (.ref z.1) (prT z.2)) (rd : ∀ z ∈ zl, ∃ as, Reads s.heap (.ref z.1) (T.toD (prT z.2)) as)
    (hQ : ∀ s' p (out : List Value) (c : Nat), (∀ b o, s.heap.get? b = some o → s'.heap.get? b = some o) → s'.gens = s.gens → s'.os = s.os → s.heap.objs.size ≤ p →
      s'.heap.get? p = some (seqObj "list" out.toArray c) → EachIs Rz out ((sortP (zl.map (·.2))).map prT) → Q (.ref p) s') :
    wpAny (model P w) A (call (.builtin "sorted") [.ref a]) Q E s := by
  obtain ⟨o, ho, hex, hd⟩ := R.ob
  have few := R.few
  refine Calls.call_function_entry kind_sorted plain_sorted entry_sorted (args_sorted1 _) ?_
  unfold Builtin.«sorted»
  refine wpAny_bind (m := checkCount "sorted" 1 1 _) (wpAny_pure ?_)
  refine wpAny_bind (collect_set (A := A.in1) hh ⟨o, ho, hex.1, hd⟩ R.fits (by rw [R.size]; unfold scanBound; omega) R.tab.ris R.led fun s1 vs k1 hz g1 o1 pm => ?_)
  have hes : es.toList.map (·.2) = zl.map fun z => Value.ref z.1 := by
    rw [R.rows, List.map_map, hL, List.map_map]; rfl
  obtain ⟨zo, rfl, pz⟩ := perm_map_back pm zl hes
  have vl : (zo.map fun z => Value.ref z.1).length ≤ sizeLine := by
    rw [List.length_map, pz.length_eq, sizeLine_eq]
    have : L.length = zl.length := by rw [hL, List.length_map]
    omega
  refine wpAny_bind (wpAny_newList ?_ vl)
  have hoL : (s1.heap.push (seqObj "list" (zo.map fun z => Value.ref z.1).toArray 0)).get? s1.heap.objs.size = some (seqObj "list" (zo.map fun z => Value.ref z.1).toArray 0) := Heap.get?_push_size _ rfl
  have er : EachIs (fun v b => ∃ as, Reads (sortingHeap (s1.heap.push (seqObj "list" (zo.map fun z => Value.ref z.1).toArray 0)) s1.heap.objs.size (zo.map fun z => Value.ref z.1)) v (T.toD b) as) (zo.map fun z => Value.ref z.1) ((zo.map (·.2)).map prT) := by
    rw [List.map_map]
    refine each_of_all fun z m => ?_
    obtain ⟨as, r⟩ := rd z (pz.mem_iff.mp m)
    exact ⟨as, PyProof.Rows.Reads.keeps (fun b u e => PySem.W.sortingHeap_old (Nat.ne_of_lt (Heap.lt_size (k1 _ _ e))) (Heap.get?_push_of_some _ (k1 _ _ e))) r⟩
  have ez : EachIs Rz (zo.map fun z => Value.ref z.1) ((zo.map (·.2)).map prT) := by
    rw [List.map_map]
    exact each_of_all fun z m => rz z (pz.mem_iff.mp m)
  have out := PySem.W.sortVals_data false ez er (alike_prs _)
  rw [sortL_pr, sortP_uniq (pz.map (·.2))] at out
  have S : SortsAt P w A.in1.in1 { s1 with heap := sortingHeap (s1.heap.push (seqObj "list" (zo.map fun z => Value.ref z.1).toArray 0)) s1.heap.objs.size (zo.map fun z => Value.ref z.1) } _ (zo.map fun z => Value.ref z.1) :=
    SortsAt.data (s := { s1 with heap := sortingHeap (s1.heap.push (seqObj "list" (zo.map fun z => Value.ref z.1).toArray 0)) s1.heap.objs.size (zo.map fun z => Value.ref z.1) }) (PySem.W.each_map (R := fun v d => ∃ as, Reads (sortingHeap (s1.heap.push (seqObj "list" (zo.map fun z => Value.ref z.1).toArray 0)) s1.heap.objs.size (zo.map fun z => Value.ref z.1)) v d as) T.toD er) (alike_prs _) (sortable_prs _) fun d hd => by
      rw [List.map_map] at hd
      obtain ⟨p, _, rfl⟩ := List.mem_map.mp hd
      have : ((T.toD ∘ prT) p).depth ≤ 40 := by show PyData.depth (.tuple [.str p.1, .int p.2]) ≤ 40; simp [PyData.depth, PyData.depthAll]
      show A.in1.in1.units + _ < _
      simp only [Around.in1_units] at *
      omega
  refine wpAny_bind (wpAny_holding (wpAny_call_entry slot_list_sort ⟨_, hoL, rfl⟩ entry_list_sort (PySem.W.list_sort_vals (s := { s1 with heap := s1.heap.push (seqObj "list" (zo.map fun z => Value.ref z.1).toArray 0) }) hoL S vl ⟨_, rfl, ?_⟩) (args_list_sort _)))
  obtain ⟨c, hc⟩ := sortedHeap_at (vs := zo.map fun z => Value.ref z.1) (out := (PySem.W.sortVals (PySem.W.dataKind (sortingHeap (s1.heap.push (seqObj "list" (zo.map fun z => Value.ref z.1).toArray 0)) s1.heap.objs.size (zo.map fun z => Value.ref z.1)) (((zo.map (·.2)).map prT).map T.toD)) false (zo.map fun z => Value.ref z.1) (zo.map fun z => Value.ref z.1)).toArray) hoL
  refine wpAny_pure ⟨_, rfl, hQ _ s1.heap.objs.size _ c (fun b u e => ?_) g1 o1 hz hc out⟩
  have q := k1 b u e
  have lt := Heap.lt_size q
  show (sortedHeap (s1.heap.push (seqObj "list" (zo.map fun z => Value.ref z.1).toArray 0)) s1.heap.objs.size (zo.map fun z => Value.ref z.1) _).get? b = some u
  rw [sortedHeap_old (Nat.ne_of_lt lt) (by rw [size_push']; exact Nat.lt_succ_of_lt lt)]
  exact Heap.get?_push_of_some _ q
end

/-! ### sorted(set(xs)), xs numbers or pairs of a text and a number -/
def prOf : T → Option Pr
  | .tup [.str s, .int n] => some (s, n)
  | _ => none
def prsOf : List T → Option (List Pr)
  | [] => some []
  | t :: ts => (prOf t).bind fun p => (prsOf ts).map fun ps => p :: ps
theorem prsOf_map : ∀ ps : List Pr, prsOf (ps.map prT) = some ps
  | [] => rfl
  | p :: ps => by
    show ((prOf (prT p)).bind fun p => (prsOf (ps.map prT)).map fun ps => p :: ps) = _
    rw [prsOf_map ps]; rfl
theorem prOf_inv {t : T} {p : Pr} (h : prOf t = some p) : t = prT p := by
  unfold prOf at h
  split at h
  · rw [← Option.some.inj h]; rfl
  · cases h
theorem prsOf_inv : ∀ {ts : List T} {ps : List Pr}, prsOf ts = some ps → ts = ps.map prT
  | [], ps, h => by rw [← Option.some.inj h]; rfl
  | t :: ts, ps, h => by
    simp only [prsOf] at h
    cases e : prOf t with
    | none => rw [e] at h; cases h
    | some p =>
      rw [e] at h
      cases e2 : prsOf ts with
      | none => rw [e2] at h; cases h
      | some qs =>
        rw [e2] at h
        rw [← Option.some.inj h, prOf_inv e, prsOf_inv e2]; rfl
theorem vals_prs : ∀ ps : List Pr, T.vals (ps.map prT) = true
  | [] => rfl
  | p :: ps => by simp [T.vals, prT, T.val, vals_prs ps]
def tSortSetX (K : PySem.W.Frag) (ta : TE) : TE := fun σ H Q => ta σ H fun x H1 => (∃ (l : Addr) (ns : List Int), x = V.ref l ∧ SqL K H1 l (ns.map V.int) ∧ ns.length ≤ 63 ∧ ∀ p, H1 p = none → Q (.ref p) (upd H1 p (.lst (((ddA ns).mergeSort (fun a b => decide (a ≤ b))).map V.int)))) ∨
  ∃ (l : Addr) (vs : List V) (ps : List Pr) (Pa : Al), x = V.ref l ∧ SqL K H1 l vs ∧ Reps K H1 Pa (ps.map prT) vs [] ∧ ps.length ≤ 63 ∧ (ps.all fun p => (prT p).toD.canLay0) = true ∧
    ∀ ws p, Reps K H1 Pa ((sortP (ddA ps)).map prT) ws [] → H1 p = none → Q (.ref p) (upd H1 p (.lst ws))
theorem pairs_at {X : Cx} {pins : List (Addr × Obj)} {σ : L2.St} {H : Hp} {s : Shared} {Pa : Al} (I : Inv X pins σ H s) : ∀ {ps : List Pr} {us : List Value}, EachIs (fun u t => ∃ v, RelV v u ∧ Rep X.K H Pa t v []) us (ps.map prT) →
    ∃ zs : List (Addr × Pr), us = zs.map (fun z => Value.ref z.1) ∧ ps = zs.map (·.2) ∧ ∀ z ∈ zs, IsP X.prog X.w s.heap (prK z.2) z.1 ∧ Rep X.K H Pa (prT z.2) (.ref z.1) []
  | [], _, .nil => ⟨[], rfl, rfl, fun z m => by cases m⟩
  | p :: ps, _, .cons ⟨v, r, c⟩ e => by
    obtain ⟨zs, rfl, rfl, all⟩ := pairs_at I e
    have c0 := c
    obtain ⟨b, vs, rfl, l, q⟩ := c
    have ev : vs = (prK p).map kV := by
      obtain ⟨v1, r1, F1, F2, e1, e2, ⟨h1, -⟩, q⟩ := q
      obtain ⟨v2, r2, F3, F4, e3, e4, ⟨h2, -⟩, q⟩ := q
      obtain ⟨e5, -⟩ := q
      rw [e1, e3, e5, h1, h2]; rfl
    subst ev
    cases r
    refine ⟨(b, p) :: zs, rfl, rfl, fun z m => ?_⟩
    rcases List.mem_cons.mp m with rfl | m
    · exact ⟨key_of I.hok l, c0⟩
    · exact all z m
set_option maxHeartbeats 1600000 in
theorem pe_sortSetX {X : Cx} {a : Expr} {ta : TE} {p p2 q pos : Pos} (hu : X.A.units + 64 < cLine) (hc : X.calm = true) (hg : Gl X "sorted") (hm : X.mg "sorted" = none) (hg2 : Gl X "set") (hm2 : X.mg "set" = none) (ha : PE X a ta)
    (na : starEach [a] X.env = (false, eval a X.env) :: starEach [] X.env := by rfl) : PE X (.Call (.Name "sorted" p) [.Call (.Name "set" p2) [a] [] q] [] pos) (tSortSetX X.K ta) := by
  refine ⟨fun pins s σ H Q I h => ?_⟩
  refine Call_ (ld_blt I hg hm (by decide +kernel : bootBuiltins "sorted" = some (.builtin "sorted")) ?_)
  refine PyProof.Rows.callWith_builtin1 (PyProof.Rows.args_cons ?_ rfl) rfl rfl
  refine Call_ (ld_blt I hg2 hm2 PyProof.Rows.boot_set ?_)
  refine PyProof.Rows.callWith_type1 (PyProof.Rows.args_cons (thn (ha.run pins s σ H _ I h) fun v s1 ⟨x, H1, I1, r1, q1⟩ => PyProof.Rows.args_nil ?_) na) na rfl
  rcases q1 with ⟨l, ns, rfl, hq, hl, q1⟩ | ⟨l, vs, ps, Pa, rfl, hq, hr, hl, hlay, q1⟩
  · cases r1
    obtain ⟨its, r, pl, hz⟩ := I1.list hq
    refine call_set_nums ns (I1.ok.hd hc) pl.isList r (by unfold scanBound; omega) fun h' tk c R1 cn k => ?_
    refine PyProof.Rows.args_nil ?_
    have I2 : Inv X _ σ H1 { s1 with heap := h', toks := tk } := I1.kept fun b o e => k b o e
    refine sorted_set R1 (I1.ok.hd hc) (by omega) fun s' pp out cc ms k1 g1 o1 le hp hi pw hmem hlen => ?_
    have hms : ms = (ddA ns).mergeSort (fun a b => decide (a ≤ b)) := by
      refine lt_sorted_uniq pw ?_ ?_
      · have := List.pairwise_mergeSort (le := fun (a b : Int) => decide (a ≤ b)) (fun a b c => by simp; omega) (fun a b => by simp; omega) (ddA ns)
        exact this.imp fun h => by simpa using h
      · refine List.Perm.trans ?_ (List.mergeSort_perm ..).symm
        exact ddA_perm (pw.imp fun h => by omega) fun k => by rw [hmem k]; simp
    subst hms
    have hn : H1 pp = none := I2.hok.fresh le
    have hz2 : (((ddA ns).mergeSort fun a b => decide (a ≤ b)).map V.int).length ≤ sizeLine := by
      rw [List.length_map, List.length_mergeSort, sizeLine_eq]
      have := (nd_ddA ns).length_le_of_subset (l₂ := ns) fun k m => mem_ddA.mp m
      omega
    have J : Inv X _ σ (upd H1 pp (.lst (((ddA ns).mergeSort fun a b => decide (a ≤ b)).map V.int))) { ({ s1 with heap := h', toks := tk } : Shared) with heap := s'.heap, gens := s'.gens, drawn := s'.drawn, toks := s'.toks } :=
      Inv.call (s := { s1 with heap := h', toks := tk }) I2 (ch := []) (Un.laid k1 le hn) (I2.hok.laid k1 le ⟨hz2, out.toList, cc, vals_of_ints hi, hp⟩) (by rw [g1]; exact I2.bare) (fun _ z => nomatch z)
    refine ⟨.ref pp, _, ?_, rfl, q1 pp hn⟩
    obtain ⟨sh, sg, sd, st, so⟩ := s'
    have o1 : so = s1.os := o1
    subst o1
    exact J
  · cases r1
    obtain ⟨its, r, pl, hz⟩ := I1.list hq
    have vals := vals_prs ps
    have e1 := each_vals vals hr r
    obtain ⟨zs, rfl, rfl, all⟩ := pairs_at I1 e1
    have lz : zs.length ≤ 63 := by simpa using hl
    have ksl : (zs.map fun z => (z.1, prK z.2)).length < 64 := by rw [List.length_map]; omega
    refine call_set_pairs (zs.map fun z => (z.1, prK z.2)) (I1.ok.hd hc) pl.isList (by rw [List.map_map]; rfl) (fun p m => ?_) ksl (by omega) fun h' tk L es ep t R M k => ?_
    · obtain ⟨z, m2, rfl⟩ := List.mem_map.mp m
      exact (all z m2).1
    refine PyProof.Rows.args_nil ?_
    have I2 : Inv X _ σ H1 { s1 with heap := h', toks := tk } := I1.kept fun b o e => k b o e
    have tke : (zs.map fun z => (z.1, prK z.2)).take (zs.map fun z => (z.1, prK z.2)).length = zs.map fun z => (z.1, prK z.2) := List.take_length
    obtain ⟨zl, rfl, sub⟩ := sub_map_back (zs := zs) (f := fun z => (z.1, prK z.2)) (L := L) fun p m => by have := M.sub p m; rwa [tke] at this
    have nd : (zl.map (·.2)).Nodup := by
      have := R.nd
      rw [List.map_map] at this
      have e : (zl.map ((fun x : Addr × List Key => x.2) ∘ fun z : Addr × Pr => (z.1, prK z.2))) = (zl.map (·.2)).map prK := by rw [List.map_map]; rfl
      rw [e] at this
      exact nodup_of_map this
    have pm : (zl.map (·.2)).Perm (ddA (zs.map (·.2))) := ddA_perm nd fun p => by
      constructor
      · intro m
        obtain ⟨z, m2, rfl⟩ := List.mem_map.mp m
        exact List.mem_map.mpr ⟨z, sub z m2, rfl⟩
      · intro m
        obtain ⟨z, m2, rfl⟩ := List.mem_map.mp m
        have := M.all (z.1, prK z.2) (by rw [tke]; exact List.mem_map.mpr ⟨z, m2, rfl⟩)
        rw [List.map_map] at this
        obtain ⟨y, my, e⟩ := List.mem_map.mp this
        have e : prK y.2 = prK z.2 := e
        exact List.mem_map.mpr ⟨y, my, prK_inj e⟩
    refine sorted_set_pairs (Rz := fun u t => ∃ v, RelV v u ∧ Rep X.K H1 Pa t v []) R rfl (I1.ok.hd hc) (by omega) (fun z m => ⟨.ref z.1, rfl, (all z (sub z m)).2⟩) (fun z m => ?_) fun s' pp out cc k1 g1 o1 le hp he => ?_
    · have lay := List.all_eq_true.mp hlay z.2 (List.mem_map.mpr ⟨z, sub z m, rfl⟩)
      exact Dp.reads I2 _ _ _ (toD_dp _ _ [] lay (all z (sub z m)).2) rfl
    · rw [sortP_uniq pm] at he
      obtain ⟨ws, hv, hw⟩ := each_back he
      have hn : H1 pp = none := I2.hok.fresh le
      have hz2 : ws.length ≤ sizeLine := by
        have a := hw.length
        rw [List.length_map, (sortP_perm _).length_eq] at a
        have := (nd_ddA (zs.map (·.2))).length_le_of_subset (l₂ := zs.map (·.2)) fun k m => mem_ddA.mp m
        rw [List.length_map] at this
        rw [sizeLine_eq]
        omega
      have J : Inv X _ σ (upd H1 pp (.lst ws)) { ({ s1 with heap := h', toks := tk } : Shared) with heap := s'.heap, gens := s'.gens, drawn := s'.drawn, toks := s'.toks } :=
        Inv.call (s := { s1 with heap := h', toks := tk }) I2 (ch := []) (Un.laid k1 le hn) (I2.hok.laid k1 le ⟨hz2, out, cc, hv, hp⟩) (by rw [g1]; exact I2.bare) (fun _ z => nomatch z)
      refine ⟨.ref pp, _, ?_, rfl, q1 ws pp hw hn⟩
      obtain ⟨sh, sg, sd, st, so⟩ := s'
      have o1 : so = s1.os := o1
      subst o1
      exact J
def sortSetX : T → Option T
  | .lst _ ts => match intsOf ts with
    | some ns => if ns.length ≤ 63 then some (.lst .own (((ddA ns).mergeSort (fun a b => decide (a ≤ b))).map T.int)) else none
    | none => (prsOf ts).bind fun ps => if ps.length ≤ 63 ∧ (ps.all fun p => (prT p).toD.canLay0) = true then some (.lst .own ((sortP (ddA ps)).map prT)) else none
  | _ => none
section
variable {X : Cx} {ec : Nat → Addr} {W : WX} {a : Expr} {fa : FE} {pos p q : Pos}
theorem DE.sortSetX {p2 : Pos} (hu : X.A.units + 64 < cLine) (hc : X.calm = true) (hg : Gl X "sorted") (hm : X.mg "sorted" = none) (hg2 : Gl X "set") (hm2 : X.mg "set" = none) (ha : DE X ec W a fa) (na : starEach [a] X.env = (false, eval a X.env) :: starEach [] X.env := by rfl) :
    DE X ec W (.Call (.Name "sorted" p) [.Call (.Name "set" p2) [a] [] q] [] pos) (un1 VS.sortSetX fa) := by
  refine ⟨pe_mono (pe_sortSetX hu hc hg hm hg2 hm2 ha.run na) fun σ H Q h => ?_⟩
  refine one_op (r := fun x H1 Q => (∃ (l : Addr) (ns : List Int), x = V.ref l ∧ SqL X.K H1 l (ns.map V.int) ∧ ns.length ≤ 63 ∧ ∀ p, H1 p = none → Q (.ref p) (upd H1 p (.lst (((ddA ns).mergeSort (fun a b => decide (a ≤ b))).map V.int)))) ∨
    ∃ (l : Addr) (vs : List V) (ps : List Pr) (Pa : Al), x = V.ref l ∧ SqL X.K H1 l vs ∧ Reps X.K H1 Pa (ps.map prT) vs [] ∧ ps.length ≤ 63 ∧ (ps.all fun p => (prT p).toD.canLay0) = true ∧
      ∀ ws p, Reps X.K H1 Pa ((sortP (ddA ps)).map prT) ws [] → H1 p = none → Q (.ref p) (upd H1 p (.lst ws))) (fun H O C A x tx F Q t cz r e h => ?_) h
  cases tx with
  | lst g ts =>
    obtain ⟨b, vs, G, rfl, l, fpp, r⟩ := r
    simp only [VS.sortSetX] at e
    split at e
    · rename_i ns q1
      split at e
      · rename_i c2
        simp only [Option.some.injEq] at e
        subst e
        have := reps_ints q1 r
        subst this
        exact .inl ⟨b, ns, rfl, l.sq, c2, h.lst cz (reps_mkI _) (by simp)⟩
      · cases e
    · cases q1 : prsOf ts with
      | none => rw [q1] at e; cases e
      | some ps =>
        rw [q1, Option.bind_some] at e
        split at e
        · rename_i c2
          simp only [Option.some.injEq] at e
          subst e
          have e2 := prsOf_inv q1
          subst e2
          have vals := vals_prs ps
          have := vals_foot vals r
          subst this
          exact .inr ⟨b, vs, ps, _, rfl, l.sq, r, c2.1, c2.2, fun ws p hw hp => h.lst cz hw (List.nil_sublist _) p hp⟩
        · cases e
  | _ => simp [VS.sortSetX] at e
end
@[simp] theorem sortSetX_ints {g : Tg} {ns : List Int} (h : ns.length ≤ 63) : sortSetX (.lst g (ns.map T.int)) = some (.lst .own (((ddA ns).mergeSort (fun a b => decide (a ≤ b))).map T.int)) := by
  simp only [sortSetX, intsOf_map, if_pos h]
theorem intsOf_prs {p : Pr} {ps : List Pr} : intsOf ((p :: ps).map prT) = none := by
  rfl
theorem sortSetX_prs {g : Tg} {ps : List Pr} (h : ps.length ≤ 63) (hl : ∀ p ∈ ps, strOkB p.1 = true) : sortSetX (.lst g (ps.map prT)) = some (.lst .own ((sortP (ddA ps)).map prT)) := by
  have lay : (ps.all fun p => (prT p).toD.canLay0) = true := List.all_eq_true.mpr fun p m => by
    have := hl p m
    simp [prT, T.toD, T.toDs, PyData.canLay0, PyData.canLayAll0]
    exact this
  cases ps with
  | nil => simp [sortSetX, intsOf, ddA, sortP]
  | cons p ps =>
    simp only [sortSetX]
    rw [intsOf_prs]
    simp only [prsOf_map, Option.bind_some, if_pos (And.intro h lay)]
end VS

namespace VS
open PySem PySem.Spec L2
open PyProof.Rows hiding St
open PySem.W (alike dataLt dataLt_pair dataLt_int dataLt_str)
/-! ### p < q, pairs of a text and a number -/
def prLt (p q : Pr) : Bool := decide (p.1.cps.toList < q.1.cps.toList ∨ (p.1 = q.1 ∧ p.2 < q.2))
theorem dataLt_pr (p q : Pr) : dataLt (prT p).toD (prT q).toD = prLt p q := by
  obtain ⟨a, b⟩ := p
  obtain ⟨c, d⟩ := q
  show dataLt (.tuple [.str a, .int b]) (.tuple [.str c, .int d]) = _
  rw [dataLt_pair (by simp [alike]) (by simp [alike]), dataLt_int, dataLt_str]
  simp only [prLt, PyData.eqv]
  by_cases e : a = c
  · subst e
    have : ¬ (a.cps.toList < a.cps.toList) := List.lt_irrefl _
    by_cases e2 : b = d
    · subst e2; simp [this]
    · simp [e2, this]
  · simp [e]
def rLtP (K : PySem.W.Frag) : R2 := fun x y H Q => ∃ (p q : Pr) (Pa Pb : Al), Rep K H Pa (prT p) x [] ∧ Rep K H Pb (prT q) y [] ∧ (prT p).toD.canLay0 = true ∧ (prT q).toD.canLay0 = true ∧ Q (.bl (prLt p q)) H
section
variable {X : Cx} {ec : Nat → Addr} {W : WX} {a b c : Expr} {fa fb fd : FE} {pos : Pos}
theorem op_ltP (hu : X.A.units + 64 < cLine) : OpR X (compareOp .Lt) (rLtP X.K) := by
  intro pins s σ H x y v u Q I rx ry h
  obtain ⟨p, q, Pa, Pb, r1, r2, l1, l2, k⟩ := h
  obtain ⟨as, d1⟩ := Dp.reads I _ _ _ (toD_dp _ _ [] l1 r1) rx
  obtain ⟨bs, d2⟩ := Dp.reads I _ _ _ (toD_dp _ _ [] l2 r2) ry
  refine PySem.W.lt_data d1 d2 ?_ (fun z => by simp [prT, T.toD] at z) ?_ ?_
  · show alike (.tuple [.str p.1, .int p.2]) (.tuple [.str q.1, .int q.2]) = true
    simp [alike, PySem.W.alikeAll]
  · have : (prT p).toD.depth ≤ 40 := by show PyData.depth (.tuple [.str p.1, .int p.2]) ≤ 40; simp [PyData.depth, PyData.depthAll]
    omega
  · rw [dataLt_pr]
    exact ⟨.bl (prLt p q), _, I, rfl, k⟩
def ltX (x y : T) : Option T := match prOf x, prOf y with
  | some p, some q => if (prT p).toD.canLay0 = true ∧ (prT q).toD.canLay0 = true then some (.bl (prLt p q)) else none
  | _, _ => ltT x y
theorem ltX_ok {K : PySem.W.Frag} : Op2 K (fun x y H Q => rLt K x y H Q ∨ rLtP K x y H Q) ltX := by
  intro H O C A x y tx ty Fx Fy Q t cz rx ry e h
  unfold ltX at e
  split at e
  · rename_i p q h1 h2
    split at e
    · rename_i c
      simp only [Option.some.injEq] at e
      subst e
      have e1 := prOf_inv h1
      have e2 := prOf_inv h2
      subst e1 e2
      have : Fx = [] := val_foot (by simp [prT, T.val, T.vals]) rx
      subst this
      have : Fy = [] := val_foot (by simp [prT, T.val, T.vals]) ry
      subst this
      exact .inr ⟨p, q, _, _, rx, ry, c.1, c.2, h.bl⟩
    · cases e
  · exact .inl (ltT_ok _ _ _ _ _ _ _ _ _ _ _ _ cz rx ry e h)
theorem DE.ltX (hu : X.A.units + 64 < cLine) (ha : DE X ec W a fa) (hb : DE X ec W b fb) : DE X ec W (.Compare a [.Lt] [b] pos) (bin2 VS.ltX fa fb) := DE.cmp (OpR.or (op_ltA (by omega)) (op_ltP hu)) ltX_ok ha hb (nomark _)
theorem DT.ltX (hu : X.A.units + 64 < cLine) (ha : DE X ec W a fa) (hb : DE X ec W b fb) : DT X ec W (.Compare a [.Lt] [b] pos) (asB (bin2 VS.ltX fa fb)) := DT.cmp (OpR.or (op_ltA (by omega)) (op_ltP hu)) ltX_ok ha hb (nomark _)
end
@[simp] theorem ltX_int (i j : Int) : ltX (.int i) (.int j) = some (.bl (decide (i < j))) := id rfl
theorem lay_pr {p : Pr} (h : strOkB p.1 = true) : (prT p).toD.canLay0 = true := by
  simp [prT, T.toD, T.toDs, PyData.canLay0, PyData.canLayAll0]
  exact h
theorem ltX_pr {p q : Pr} (h1 : strOkB p.1 = true) (h2 : strOkB q.1 = true) : ltX (prT p) (prT q) = some (.bl (prLt p q)) := by
  show (if (prT p).toD.canLay0 = true ∧ (prT q).toD.canLay0 = true then some (T.bl (prLt p q)) else none) = _
  rw [if_pos ⟨lay_pr h1, lay_pr h2⟩]
end VS

namespace VS
open PySem PySem.Spec L2
open PyProof.Rows hiding St
/-! ### a tuple, taken no, one or some times -/
theorem tup_mul0 (l : Addr) (items : Array Value) (n : Nat) (dd : Option Addr) (sl : Array (Option Value)) (u : Tok) (ne : items.isEmpty = false) :
    Meets (Builtin.«tuple.__mul__» ⟨[.ref l, .int 0 u], []⟩) (fun _ R s => s.heap.get? l = some { cls := .type "tuple", dict := dd, data := .seq items n, slots := sl } ∧
      R (.ok (.ret (Value.ref s.heap.objs.size))) { s with heap := s.heap.push { cls := Value.type "tuple", data := Data.seq #[] }, toks := s.toks }) :=
  .of_wp fun prog w A R s h => by
    obtain ⟨hp, g, d, tk, os⟩ := s
    obtain ⟨hl, h⟩ := h
    have f1 := AutoSeq1.idx_int
    wp_walk using wpAny_loadPart' hl
    repeat (first
      | (refine wpAny_ite_false (decide_eq_false (by decide)) ?_; wp_walk using wpAny_loadPart' hl)
      | (refine wpAny_ite_false (decide_eq_false (by rw [ne]; decide)) ?_; wp_walk using wpAny_loadPart' hl)
      | (refine wpAny_ite_true (decide_eq_true (by simp)) ?_; wp_walk using wpAny_loadPart' hl))
    exact ⟨_, rfl, h⟩
theorem tup_mul1 (l : Addr) (items : Array Value) (n : Nat) (dd : Option Addr) (sl : Array (Option Value)) (u : Tok) (ne : items.isEmpty = false) :
    Meets (Builtin.«tuple.__mul__» ⟨[.ref l, .int 1 u], []⟩) (fun _ R s => s.heap.get? l = some { cls := .type "tuple", dict := dd, data := .seq items n, slots := sl } ∧
      R (.ok (.ret (Value.ref l))) s) :=
  .of_wp fun prog w A R s h => by
    obtain ⟨hp, g, d, tk, os⟩ := s
    obtain ⟨hl, h⟩ := h
    have f1 := AutoSeq1.idx_int
    wp_walk using wpAny_loadPart' hl
    repeat (first
      | (refine wpAny_ite_false (decide_eq_false (by decide)) ?_; wp_walk using wpAny_loadPart' hl)
      | (refine wpAny_ite_true (decide_eq_true (by simp)) ?_; wp_walk using wpAny_loadPart' hl))
    all_goals exact ⟨_, rfl, h⟩

def rMulT01 (K : PySem.W.Frag) : R2 := fun x y H Q => ∃ l xs, x = .ref l ∧ SqT K H l xs ∧ xs ≠ [] ∧ ((y = .int 0 ∧ ∀ p, H p = none → Q (.ref p) (upd H p (.tup []))) ∨ (y = .int 1 ∧ Q (.ref l) H))
section
variable {X : Cx}
theorem op_mulT01 : OpR X (binaryOp .Mult) (rMulT01 X.K) := by
  intro pins s σ H x y v u Q I rx ry h
  obtain ⟨l, xs, rfl, hT, hne, h⟩ := h
  cases rx
  obtain ⟨its, r, ⟨⟨cls, dd, data, sl⟩, ho, hc, n, hd⟩, hs⟩ := I.tuple hT
  simp only at hc hd
  subst hc hd
  have hle : its.length = xs.length := r.length.symm
  have hi : its.toArray.isEmpty = false := by
    cases its with
    | nil => exact absurd (List.eq_nil_of_length_eq_zero hle.symm) hne
    | cons a b => rfl
  rcases h with ⟨rfl, q⟩ | ⟨rfl, q⟩
  · obtain ⟨t, rfl⟩ := ry
    refine wpAny_binaryOp_repeat_ref (T := "tuple") (U := "int") (by decide) ⟨_, ho, rfl⟩ (fun s' => typeIs_int s' 0 t) noFill_tuple_mul F.fills_int_mul F.slot_int_rmul repeat_tuple F.slot_int_index.lookup
      (call_meets F.slot_int_rmul (typeIs_int s 0 t) F.entry_int_rmul (F.args_int_rmul_2 _ _) (int_rmul_tuple 0 t l its.toArray n dd sl)
        ⟨ho, rfl, ⟨_, ho, rfl⟩, call_meets F.slot_tuple_mul ⟨_, ho, rfl⟩ F.entry_tuple_mul (F.args_tuple_mul_2 _ _) (tup_mul0 l its.toArray n dd sl t hi) ⟨ho, ?_⟩⟩)
    refine ⟨.ref s.heap.objs.size, _, I.laid (t' := s.toks) (o := .tup []) (fun b ob q => Heap.get?_push_of_some _ q) (Nat.le_refl _) ?_, rfl, q _ (I.hok.fresh (Nat.le_refl _))⟩
    exact ⟨by rw [sizeLine_eq]; simp, _, .nil, IsTup.new _ _⟩
  · obtain ⟨t, rfl⟩ := ry
    refine wpAny_binaryOp_repeat_ref (T := "tuple") (U := "int") (by decide) ⟨_, ho, rfl⟩ (fun s' => typeIs_int s' 1 t) noFill_tuple_mul F.fills_int_mul F.slot_int_rmul repeat_tuple F.slot_int_index.lookup
      (call_meets F.slot_int_rmul (typeIs_int s 1 t) F.entry_int_rmul (F.args_int_rmul_2 _ _) (int_rmul_tuple 1 t l its.toArray n dd sl)
        ⟨ho, rfl, ⟨_, ho, rfl⟩, call_meets F.slot_tuple_mul ⟨_, ho, rfl⟩ F.entry_tuple_mul (F.args_tuple_mul_2 _ _) (tup_mul1 l its.toArray n dd sl t hi) ⟨ho, ?_⟩⟩)
    exact ⟨.ref l, _, I, rfl, q⟩
def mulTT : T → T → Option T
  | .tup ts, .int k => if T.vals ts = true ∧ ts ≠ [] ∧ 0 ≤ k ∧ k ≤ 1000 ∧ ts.length ≤ 1000 then some (.tup (List.replicate k.toNat ts).flatten) else none
  | .lst .own ts, .int k => if T.vals ts = true ∧ 0 ≤ k ∧ k ≤ 1000 ∧ ts.length ≤ 1000 then some (.lst .own (List.replicate k.toNat ts).flatten) else none
  | _, _ => none
variable {ec : Nat → Addr} {W : WX} {a b : Expr} {fa fb : FE} {pos : Pos}
theorem DE.mulT (ha : DE X ec W a fa) (hb : DE X ec W b fb) : DE X ec W (.BinOp a .Mult b pos) (bin2 mulTT fa fb) := by
  refine DE.op2 (OpR.or op_rep (OpR.or op_repT op_mulT01)) (fun H O C A x y tx ty Fx Fy Q t cz rx ry e h => ?_) ha hb
  match tx, ty, e with
  | .lst .own ts, .int k, e =>
    have e : (if T.vals ts = true ∧ 0 ≤ k ∧ k ≤ 1000 ∧ ts.length ≤ 1000 then some (T.lst .own (List.replicate k.toNat ts).flatten) else none) = some t := e
    split at e
    · rename_i c
      simp only [Option.some.injEq] at e; subst e
      obtain ⟨p, vs, G, rfl, l, fe, r⟩ := rx
      obtain ⟨rfl, _⟩ := ry
      obtain ⟨c1, c2, c3, c4⟩ := c
      have := vals_foot c1 r
      subst this
      have l : H p = some (.lst vs) := l
      refine .inl ⟨p, k, vs, rfl, rfl, l, by omega, by omega, ?_, h.lst cz (reps_rep r k.toNat) (by simp)⟩
      rw [← r.length, sizeLine_eq]
      have a1 : ts.length * k.toNat ≤ 1000 * 1000 := Nat.mul_le_mul c4 (by omega)
      omega
    · cases e
  | .tup ts, .int k, e =>
    have e : (if T.vals ts = true ∧ ts ≠ [] ∧ 0 ≤ k ∧ k ≤ 1000 ∧ ts.length ≤ 1000 then some (T.tup (List.replicate k.toNat ts).flatten) else none) = some t := e
    split at e
    · rename_i c
      simp only [Option.some.injEq] at e; subst e
      obtain ⟨p, vs, rfl, l, r⟩ := rx
      obtain ⟨rfl, _⟩ := ry
      obtain ⟨c1, c2, c3, c4, c5⟩ := c
      have e0 := vals_foot c1 r
      have nv : vs ≠ [] := fun z => c2 (List.length_eq_zero_iff.mp (by rw [r.length, z]; rfl))
      by_cases k0 : k = 0
      · subst k0
        exact .inr (.inr ⟨p, vs, rfl, SqT.of l, nv, .inl ⟨rfl, h.tup cz (ts := []) (vs := []) (G := []) ⟨rfl, rfl⟩ (by simp)⟩⟩)
      · by_cases k1 : k = 1
        · subst k1
          refine .inr (.inr ⟨p, vs, rfl, SqT.of l, nv, .inr ⟨rfl, ?_⟩⟩)
          have e1 : (List.replicate (1 : Int).toNat ts).flatten = ts := by simp
          rw [e1] at h
          exact h.same cz (v := .ref p) (t := .tup ts) ⟨p, vs, rfl, l, r⟩ (List.sublist_append_left _ _)
        · subst e0
          exact .inr (.inl ⟨p, k, vs, rfl, rfl, SqT.of l, nv, by omega, by omega, by rw [← r.length]; exact c5, h.tup cz (reps_rep r k.toNat) (by simp)⟩)
    · cases e
end
theorem mulTT_tup {ts : List T} {k : Int} (h1 : T.vals ts = true) (h2 : ts ≠ []) (h3 : 0 ≤ k) (h4 : k ≤ 1000) (h5 : ts.length ≤ 1000) : mulTT (.tup ts) (.int k) = some (.tup (List.replicate k.toNat ts).flatten) := if_pos ⟨h1, h2, h3, h4, h5⟩
theorem mulTT_lst {ts : List T} {k : Int} (h1 : T.vals ts = true) (h3 : 0 ≤ k) (h4 : k ≤ 1000) (h5 : ts.length ≤ 1000) : mulTT (.lst .own ts) (.int k) = some (.lst .own (List.replicate k.toNat ts).flatten) := if_pos ⟨h1, h3, h4, h5⟩
end VS

set_option maxHeartbeats 0
namespace K06
open PySem PySem.Spec L2 VS
open PyProof.Rows hiding St
/-! ### the defs of the text, by places -/
def topS (i : Nat) : Stmt := PySem.Challenge.pw_askwithin_k06_questions_told.main.body.getD i (.Pass ⟨0, 0, 0, 0⟩)
abbrev s_lmix : Stmt := topS 16
abbrev N_lmix : List Str := ["_law_cell_here", "_law_k", "_law_number"]
theorem sc_lmix : FnScope N_lmix ["_law_cell_here", "_law_k"] (defScope s_lmix) := ⟨rfl, rfl, rfl, by decide +kernel, rfl, by decide +kernel, by decide +kernel⟩
def g_lmix : FS := (seqS (setS 2 (bin2 modT (bin2 addT (bin2 addT (bin2 addT (bin2 mulT (bin2 modT (getV 0) (cF (.int 2147483647))) (cF (.int 48271))) (bin2 mulT (bin2 mulT (getV 1) (getV 1)) (cF (.int 69621)))) (getV 1)) (cF (.int 11))) (cF (.int 2147483629))))
  (retS (bin2 modT (bin2 mulT (getV 2) (getV 2)) (cF (.int 2147483587)))))
def r_lmix : List T → R T := fun ts => bodyR (g_lmix (env0 1 ts))
abbrev s_lterm : Stmt := topS 19
abbrev N_lterm : List Str := ["_law_cell_here", "_law_names_here", "_law_number"]
theorem sc_lterm : FnScope N_lterm ["_law_cell_here", "_law_names_here"] (defScope s_lterm) := ⟨rfl, rfl, rfl, by decide +kernel, rfl, by decide +kernel, by decide +kernel⟩
def g_lterm : FS := (seqS (setS 2 (callF r_lmix [] (consE (getV 0) (consE (cF (.int 7)) nilA))))
  (seqS (ifS (asB (bin2 ltT (bin2 modT (getV 2) (cF (.int 4))) (cF (.int 3)))) (retS (bin2 ixT (getV 1) (bin2 modT (bin2 divT (getV 2) (cF (.int 4))) (ap lenT (consE (getV 1) nilA))))) nxS)
  (seqS (ifS (asB (bin2 eqXO (bin2 modT (bin2 divT (getV 2) (cF (.int 4))) (cF (.int 2))) (cF (.int 0)))) (retS (bin2 subT (bin2 modT (bin2 divT (getV 2) (cF (.int 8))) (cF (.int 3))) (cF (.int 1)))) nxS)
  (retS (bin2 subT (bin2 modT (getV 0) (bin2 subT (bin2 mulT (cF (.int 2)) (bin2 powT (cF (.int 10)) (cF (.int 60)))) (cF (.int 1)))) (bin2 subT (bin2 powT (cF (.int 10)) (cF (.int 60))) (cF (.int 1))))))))
def r_lterm : List T → R T := fun ts => bodyR (g_lterm (env0 1 ts))
abbrev s_lcell : Stmt := topS 15
abbrev N_lcell : List Str := ["_law_script", "_law_k", "_law_number"]
theorem sc_lcell : FnScope N_lcell ["_law_script", "_law_k"] (defScope s_lcell) := ⟨rfl, rfl, rfl, by decide +kernel, rfl, by decide +kernel, by decide +kernel⟩
def g_lcell : FS := (seqS (ifS (asB (bin2 ltT (getV 1) (ap lenT (consE (getV 0) nilA)))) (retS (bin2 ixT (getV 0) (getV 1))) nxS)
  (seqS (setS 2 (bin2 addT (bin2 mulT (getV 1) (cF (.int 7919))) (cF (.int 5))))
  (seqS (ifS (asB (bin2 gtT (ap lenT (consE (getV 0) nilA)) (cF (.int 0)))) (setS 2 (bin2 modT (bin2 addT (bin2 mulT (bin2 ixT (getV 0) (bin2 modT (bin2 mulT (getV 1) (cF (.int 7))) (ap lenT (consE (getV 0) nilA)))) (cF (.int 48271))) (bin2 mulT (getV 1) (cF (.int 7919)))) (cF (.int 2147483647)))) nxS)
  (retS (bin2 modT (bin2 mulT (getV 2) (getV 2)) (cF (.int 2147483629)))))))
def r_lcell : List T → R T := fun ts => bodyR (g_lcell (env0 1 ts))
abbrev s_llines : Stmt := topS 20
abbrev N_llines : List Str := ["_law_script", "_law_start", "_law_tables_here", "_law_names_here", "_law_count", "_law_lines_here", "_law_at", "_law_k", "_law_number", "_law_table", "_law_terms", "_law_j"]
theorem sc_llines : FnScope N_llines ["_law_script", "_law_start", "_law_tables_here", "_law_names_here", "_law_count"] (defScope s_llines) := ⟨rfl, rfl, rfl, by decide +kernel, rfl, by decide +kernel, by decide +kernel⟩
def g_llines : FS := (seqS (setS 5 (ap lstT nilA))
  (frzS 1 (seqS (setS 6 (getV 1))
  (seqS (forS (rangeI (consE (getV 4) nilA)) (gSet 7) (seqS (setS 8 (callF r_lmix [] (consE (callF r_lcell [] (consE (getV 0) (consE (getV 6) nilA))) (consE (cF (.int 8)) nilA))))
  (seqS (setS 9 (bin2 ixT (getV 2) (bin2 modT (getV 8) (ap lenT (consE (getV 2) nilA)))))
  (seqS (setS 10 (compF (rangeI (consE (bin2 ixT (getV 9) (cF (.int 1))) nilA)) (gSet 11) yesB (callF r_lterm [] (consE (callF r_lcell [] (consE (getV 0) (consE (bin2 addT (bin2 addT (getV 6) (cF (.int 1))) (getV 11)) nilA))) (consE (getV 3) nilA))) (([("_law_j", 11)] : List (Str × Nat)).map (·.2))))
  (seqS (exprXS (methX 5 mAppend (consE (ap tupT (consE (bin2 ixT (getV 9) (cF (.int 0))) (consE (ap tupleT (consE (getV 10) nilA)) nilA))) nilA)))
  (seqS (ifS (andB (asB (bin2 gtT (getV 7) (cF (.int 0)))) (asB (bin2 eqXO (bin2 modT (bin2 divT (getV 8) (cF (.int 8))) (cF (.int 6))) (cF (.int 0))))) (putS 5 (getV 7) (bin2 ixT (getV 5) (bin2 modT (bin2 divT (getV 8) (cF (.int 64))) (getV 7)))) nxS)
  (setS 6 (bin2 addT (bin2 addT (getV 6) (cF (.int 1))) (bin2 ixT (getV 9) (cF (.int 1)))))))))))
  (retVar 5)))))
def r_llines : List T → R T := fun ts => bodyR (g_llines (env0 7 ts))
abbrev s_lalternative : Stmt := topS 22
abbrev N_lalternative : List Str := ["_law_script", "_law_start", "_law_tables_here", "_law_names_here", "_law_size", "_law_cell_here", "_law_lines_here", "_law_flat", "_law_line", "_law_head", "_law_k"]
theorem sc_lalternative : FnScope N_lalternative ["_law_script", "_law_start", "_law_tables_here", "_law_names_here", "_law_size"] (defScope s_lalternative) := ⟨rfl, rfl, rfl, by decide +kernel, rfl, by decide +kernel, by decide +kernel⟩
def g_lalternative : FS := (seqS (setS 5 (callF r_lcell [] (consE (getV 0) (consE (getV 1) nilA))))
  (seqS (setS 6 (callF r_llines [] (consE (getV 0) (consE (bin2 addT (getV 1) (cF (.int 1))) (consE (getV 2) (consE (getV 3) (consE (bin2 modT (callF r_lmix [] (consE (getV 5) (consE (cF (.int 25)) nilA))) (cF (.int 6))) nilA)))))))
  (seqS (setS 7 (ap lstT nilA))
  (frzS 6 (seqS (forS (seqI true (getV 6)) (gSet 8) (exprXS (methX 7 mExtX (consE (bin2 ixT (getV 8) (cF (.int 1))) nilA))))
  (seqS (setS 9 (ap lstT nilA))
  (seqS (forS (rangeI (consE (getV 4) nilA)) (gSet 10) (ifS (andB (asB (bin2 gtT (ap lenT (consE (getV 7) nilA)) (cF (.int 0)))) (asB (bin2 gtT (bin2 modT (callF r_lmix [] (consE (getV 5) (consE (bin2 addT (cF (.int 26)) (getV 10)) nilA))) (cF (.int 3))) (cF (.int 0))))) (exprXS (methX 9 mAppend (consE (bin2 ixT (getV 7) (bin2 modT (callF r_lmix [] (consE (getV 5) (consE (bin2 addT (cF (.int 40)) (getV 10)) nilA))) (ap lenT (consE (getV 7) nilA)))) nilA))) (exprXS (methX 9 mAppend (consE (bin2 subT (callF r_lmix [] (consE (getV 5) (consE (bin2 addT (cF (.int 44)) (getV 10)) nilA))) (bin2 powT (cF (.int 10)) (cF (.int 9)))) nilA)))))
  (retS (ap tupT (consE (ap tupleT (consE (getV 9) nilA)) (consE (ap tupleT (consE (getV 6) nilA)) nilA)))))))))))
def r_lalternative : List T → R T := fun ts => bodyR (g_lalternative (env0 6 ts))
abbrev s_lother_length : Stmt := topS 23
abbrev N_lother_length : List Str := ["_law_size"]
theorem sc_lother_length : FnScope N_lother_length ["_law_size"] (defScope s_lother_length) := ⟨rfl, rfl, rfl, by decide +kernel, rfl, by decide +kernel, by decide +kernel⟩
def g_lother_length : FS := (seqS (ifS (asB (bin2 eqXO (getV 0) (cF (.int 0)))) (retS (ap tupT (consE (ap tupT (consE (cF (.int 5)) nilA)) (consE (ap tupT nilA) nilA)))) nxS)
  (retS (ap tupT (consE (bin2 mulTT (ap tupT (consE (cF (.int 5)) nilA)) (bin2 subT (getV 0) (cF (.int 1)))) (consE (ap tupT nilA) nilA)))))
def r_lother_length : List T → R T := fun ts => bodyR (g_lother_length (env0 0 ts))
abbrev s_lother_width : Stmt := topS 24
abbrev N_lother_width : List Str := ["_law_question", "_law_size", "_law_one", "_law_line", "_law_terms"]
theorem sc_lother_width : FnScope N_lother_width ["_law_question", "_law_size"] (defScope s_lother_width) := ⟨rfl, rfl, rfl, by decide +kernel, rfl, by decide +kernel, by decide +kernel⟩
def g_lother_width : FS := (frzS 0 (seqS (forS (seqI true (getV 0)) (gSet 2) (forS (seqI true (bin2 ixT (getV 2) (cF (.int 1)))) (gSet 3) (seqS (setS 4 (bin2 addT (bin2 ixT (getV 3) (cF (.int 1))) (ap tupT (consE (cF (.int 4)) nilA))))
  (seqS (ifS (asB (bin2 eqXO (ap lenT (consE (getV 4) nilA)) (cF (.int 7)))) (setS 4 (sliceF (getV 4) (partF (cF (.int 4))) noneP)) nxS)
  (frzS 4 (retS (ap tupT (consE (bin2 mulTT (ap tupT (consE (cF (.int 6)) nilA)) (getV 1)) (consE (ap tupT (consE (ap tupT (consE (bin2 ixT (getV 3) (cF (.int 0))) (consE (getV 4) nilA))) nilA)) nilA)))))))))
  (retS (cF .non))))
def r_lother_width : List T → R T := fun ts => bodyR (g_lother_width (env0 3 ts))
abbrev s_lwrong : Stmt := topS 25
abbrev N_lwrong : List Str := ["_law_question", "_law_size", "_law_cell_here", "_law_way", "_law_at", "_law_other", "_law_some"]
theorem sc_lwrong : FnScope N_lwrong ["_law_question", "_law_size", "_law_cell_here"] (defScope s_lwrong) := ⟨rfl, rfl, rfl, by decide +kernel, rfl, by decide +kernel, by decide +kernel⟩
def g_lwrong : FS := (seqS (setS 3 (bin2 modT (callF r_lmix [] (consE (getV 2) (consE (cF (.int 27)) nilA))) (cF (.int 5))))
  (seqS (setS 4 (bin2 modT (callF r_lmix [] (consE (getV 2) (consE (cF (.int 28)) nilA))) (bin2 addT (ap lenT (consE (getV 0) nilA)) (cF (.int 1)))))
  (seqS (ifS (asB (bin2 eqXO (getV 3) (cF (.int 0)))) (retS (ap tupleT (consE (getV 0) nilA))) nxS)
  (seqS (ifS (asB (bin2 eqXO (getV 3) (cF (.int 1)))) (retS (sliceF (bin2 addT (getV 0) (bin2 mulTT (ap lstT (consE (ap tupT (consE (bin2 mulTT (ap tupT (consE (cF (.int 0)) nilA)) (getV 1)) (consE (ap tupT nilA) nilA))) nilA)) (cF (.int 4)))) noneP (partF (cF (.int 4))))) nxS)
  (seqS (ifS (andB (asB (bin2 eqXO (getV 3) (cF (.int 2)))) (asB (bin2 gtT (ap lenT (consE (getV 0) nilA)) (cF (.int 0))))) (retS (sliceF (bin2 addT (bin2 addT (sliceF (getV 0) noneP (partF (getV 4))) (ap lstT (consE (callF r_lother_length [] (consE (getV 1) nilA)) nilA))) (sliceF (getV 0) (partF (getV 4)) noneP)) noneP (partF (cF (.int 4))))) nxS)
  (seqS (setS 5 (callF r_lother_width [] (consE (getV 0) (consE (getV 1) nilA))))
  (seqS (ifS (andB (asB (bin2 eqXO (getV 3) (cF (.int 3)))) (asB (bin2 notN (getV 5) (cF .non)))) (retS (bin2 addT (bin2 addT (sliceF (getV 0) noneP (partF (getV 4))) (ap lstT (consE (getV 5) nilA))) (sliceF (getV 0) (partF (getV 4)) noneP))) nxS)
  (seqS (setS 6 (ap lstT (consE (cF .non) (consE (ap tupT nilA) (consE (cF (.int 7)) (consE (frzE (ap lstT (consE (bin2 mulTT (ap tupT (consE (cF (.int 3)) nilA)) (getV 1)) (consE (ap tupT nilA) nilA)))) (consE (ap tupT (consE (bin2 mulTT (ap tupT (consE (cF (.int 3)) nilA)) (getV 1)) (consE (frzE (ap lstT nilA)) nilA))) (consE (ap tupT (consE (bin2 mulTT (ap tupT (consE (cF (.bl true)) nilA)) (cF (.int 4))) (consE (ap tupT nilA) nilA))) (consE (ap tupT (consE (ap tupT (consE (cF (.str "x")) nilA)) (consE (ap tupT nilA) nilA))) (consE (cF (.str "none")) nilA))))))))))
  (retS (bin2 addT (bin2 addT (sliceF (getV 0) noneP (partF (getV 4))) (ap lstT (consE (bin2 ixT (getV 6) (bin2 modT (callF r_lmix [] (consE (getV 2) (consE (cF (.int 29)) nilA))) (cF (.int 8)))) nilA))) (sliceF (getV 0) (partF (getV 4)) noneP)))))))))))
def r_lwrong : List T → R T := fun ts => bodyR (g_lwrong (env0 4 ts))
abbrev s_lnames : Stmt := topS 17
abbrev N_lnames : List Str := ["_law_cell_here", "_law_count", "_law_signs", "_law_size", "_law_base", "_law_k", "_law_at", "_law_found"]
theorem sc_lnames : FnScope N_lnames ["_law_cell_here", "_law_count"] (defScope s_lnames) := ⟨rfl, rfl, rfl, by decide +kernel, rfl, by decide +kernel, by decide +kernel⟩
def g_lnames : FS := (seqS (setS 2 (cF (.str "abcdefghijklmnopqrstuvwxyz0123456789")))
  (seqS (setS 3 (bin2 addT (cF (.int 1)) (bin2 modT (callF r_lmix [] (consE (getV 0) (consE (cF (.int 1)) nilA))) (cF (.int 12)))))
  (seqS (ifS (asB (bin2 eqXO (bin2 modT (callF r_lmix [] (consE (getV 0) (consE (cF (.int 2)) nilA))) (cF (.int 3))) (cF (.int 0)))) (setS 3 (cF (.int 12))) nxS)
  (seqS (setS 4 (compF (rangeI (consE (getV 3) nilA)) (gSet 5) yesB (bin2 ixT (getV 2) (bin2 modT (callF r_lmix [] (consE (getV 0) (consE (bin2 addT (cF (.int 30)) (getV 5)) nilA))) (cF (.int 36)))) (([("_law_k", 5)] : List (Str × Nat)).map (·.2))))
  (seqS (putS 4 (cF (.int 0)) (bin2 ixT (getV 2) (bin2 modT (callF r_lmix [] (consE (getV 0) (consE (cF (.int 50)) nilA))) (cF (.int 26)))))
  (seqS (ifS (asB (bin2 eqXO (bin2 modT (callF r_lmix [] (consE (getV 0) (consE (cF (.int 2)) nilA))) (cF (.int 3))) (cF (.int 0)))) (retS (compF (rangeI (consE (getV 1) nilA)) (gSet 5) yesB (m1F joinT (cF (.str "")) (sliceF (getV 4) noneP (partF (bin2 addT (getV 5) (cF (.int 1)))))) (([("_law_k", 5)] : List (Str × Nat)).map (·.2)))) nxS)
  (seqS (setS 6 (bin2 modT (callF r_lmix [] (consE (getV 0) (consE (cF (.int 3)) nilA))) (getV 3)))
  (seqS (setS 7 (ap lstT nilA))
  (seqS (forS (rangeI (consE (getV 1) nilA)) (gSet 5) (seqS (putS 4 (getV 6) (bin2 ixT (getV 2) (bin2 modT (bin2 addT (callF r_lmix [] (consE (getV 0) (consE (cF (.int 4)) nilA))) (getV 5)) (bin2 addT (cF (.int 26)) (bin2 mulT (cF (.int 10)) (ap intT (consE (bin2 gtT (getV 6) (cF (.int 0))) nilA)))))))
  (exprXS (methX 7 mAppend (consE (m1F joinT (cF (.str "")) (getV 4)) nilA)))))
  (retVar 7))))))))))
def r_lnames : List T → R T := fun ts => bodyR (g_lnames (env0 6 ts))
abbrev s_tables_of : Stmt := topS 10
abbrev N_tables_of : List Str := ["lines", "line"]
theorem sc_tables_of : FnScope N_tables_of ["lines"] (defScope s_tables_of) := ⟨rfl, rfl, rfl, by decide +kernel, rfl, by decide +kernel, by decide +kernel⟩
def g_tables_of : FS := (retS (un1 sortSetX (compF (seqI false (getV 0)) (gSet 1) yesB (ap tupT (consE (bin2 ixT (getV 1) (cF (.int 0))) (consE (ap lenT (consE (bin2 ixT (getV 1) (cF (.int 1))) nilA)) nilA))) (([("line", 1)] : List (Str × Nat)).map (·.2)))))
def r_tables_of : List T → R T := fun ts => bodyR (g_tables_of (env0 1 ts))
abbrev s_one_width : Stmt := topS 11
abbrev N_one_width : List Str := ["lines", "pairs", "pair"]
theorem sc_one_width : FnScope N_one_width ["lines"] (defScope s_one_width) := ⟨rfl, rfl, rfl, by decide +kernel, rfl, by decide +kernel, by decide +kernel⟩
def g_one_width : FS := (seqS (setS 1 (callF r_tables_of [] (consE (getV 0) nilA)))
  (retS (bin2 eqXO (ap lenT (consE (getV 1) nilA)) (un1 lenSetX (compF (seqI false (getV 1)) (gSet 2) yesB (bin2 ixT (getV 2) (cF (.int 0))) (([("pair", 2)] : List (Str × Nat)).map (·.2)))))))
def r_one_width : List T → R T := fun ts => bodyR (g_one_width (env0 2 ts))
abbrev s_is_name : Stmt := topS 5
abbrev N_is_name : List Str := ["thing", "sign"]
theorem sc_is_name : FnScope N_is_name ["thing"] (defScope s_is_name) := ⟨rfl, rfl, rfl, by decide +kernel, rfl, by decide +kernel, by decide +kernel⟩
def g_is_name : FS := (seqS (ifS (orB (notB (truB (un1 (isT "str") (getV 0)))) (notB (asB (chainF leT leT (cF (.int 1)) (ap lenT (consE (getV 0) nilA)) (cF (.int 12)))))) (retS (cF (.bl false))) nxS)
  (frzS 0 (seqS (forS (seqI true (getV 0)) (gSet 1) (ifS (andB (asB (bin2 ninO (getV 1) (cF (.str "abcdefghijklmnopqrstuvwxyz")))) (asB (bin2 ninO (getV 1) (cF (.str "0123456789"))))) (retS (cF (.bl false))) nxS))
  (retS (bin2 inO (bin2 ixT (getV 0) (cF (.int 0))) (cF (.str "abcdefghijklmnopqrstuvwxyz")))))))
def r_is_name : List T → R T := fun ts => bodyR (g_is_name (env0 1 ts))
abbrev s_is_whole : Stmt := topS 3
abbrev N_is_whole : List Str := ["thing"]
theorem sc_is_whole : FnScope N_is_whole ["thing"] (defScope s_is_whole) := ⟨rfl, rfl, rfl, by decide +kernel, rfl, by decide +kernel, by decide +kernel⟩
def g_is_whole : FS := (retS (andF (un1 (isT "int") (getV 0)) (notF (un1 (isT "bool") (getV 0)))))
def r_is_whole : List T → R T := fun ts => bodyR (g_is_whole (env0 0 ts))
abbrev s_is_number : Stmt := topS 4
abbrev N_is_number : List Str := ["thing"]
theorem sc_is_number : FnScope N_is_number ["thing"] (defScope s_is_number) := ⟨rfl, rfl, rfl, by decide +kernel, rfl, by decide +kernel, by decide +kernel⟩
def g_is_number : FS := (retS (andF (callF r_is_whole [] (consE (getV 0) nilA)) (bin2 ltT (ap absT (consE (getV 0) nilA)) (bin2 powT (cF (.int 10)) (cF (.int 60))))))
def r_is_number : List T → R T := fun ts => bodyR (g_is_number (env0 0 ts))
abbrev s_is_term : Stmt := topS 6
abbrev N_is_term : List Str := ["thing"]
theorem sc_is_term : FnScope N_is_term ["thing"] (defScope s_is_term) := ⟨rfl, rfl, rfl, by decide +kernel, rfl, by decide +kernel, by decide +kernel⟩
def g_is_term : FS := (retS (orF (callF r_is_name [] (consE (getV 0) nilA)) (callF r_is_number [] (consE (getV 0) nilA))))
def r_is_term : List T → R T := fun ts => bodyR (g_is_term (env0 0 ts))
abbrev s_all_terms : Stmt := topS 7
abbrev N_all_terms : List Str := ["things", "thing"]
theorem sc_all_terms : FnScope N_all_terms ["things"] (defScope s_all_terms) := ⟨rfl, rfl, rfl, by decide +kernel, rfl, by decide +kernel, by decide +kernel⟩
def g_all_terms : FS := (frzS 0 (seqS (forS (seqI true (getV 0)) (gSet 1) (ifS (notB (truB (callF r_is_term [] (consE (getV 1) nilA)))) (retS (cF (.bl false))) nxS))
  (retS (cF (.bl true)))))
def r_all_terms : List T → R T := fun ts => bodyR (g_all_terms (env0 1 ts))
abbrev s_is_line : Stmt := topS 8
abbrev N_is_line : List Str := ["thing"]
theorem sc_is_line : FnScope N_is_line ["thing"] (defScope s_is_line) := ⟨rfl, rfl, rfl, by decide +kernel, rfl, by decide +kernel, by decide +kernel⟩
def g_is_line : FS := (seqS (ifS (orB (notB (truB (un1 (isT "tuple") (getV 0)))) (orB (asB (bin2 neXO (ap lenT (consE (getV 0) nilA)) (cF (.int 2)))) (notB (truB (callF r_is_name [] (consE (bin2 ixT (getV 0) (cF (.int 0))) nilA)))))) (retS (cF (.bl false))) nxS)
  (retS (andF (un1 (isT "tuple") (bin2 ixT (getV 0) (cF (.int 1)))) (andF (chainF leT leT (cF (.int 1)) (ap lenT (consE (bin2 ixT (getV 0) (cF (.int 1))) nilA)) (cF (.int 6))) (callF r_all_terms [] (consE (bin2 ixT (getV 0) (cF (.int 1))) nilA))))))
def r_is_line : List T → R T := fun ts => bodyR (g_is_line (env0 0 ts))
abbrev s_names_of : Stmt := topS 9
abbrev N_names_of : List Str := ["lines", "found", "line", "term"]
theorem sc_names_of : FnScope N_names_of ["lines"] (defScope s_names_of) := ⟨rfl, rfl, rfl, by decide +kernel, rfl, by decide +kernel, by decide +kernel⟩
def g_names_of : FS := (seqS (setS 1 (ap lstT nilA))
  (frzS 0 (seqS (forS (seqI true (getV 0)) (gSet 2) (forS (seqI true (bin2 ixT (getV 2) (cF (.int 1)))) (gSet 3) (ifS (andB (truB (un1 (isT "str") (getV 3))) (asB (bin2 ninO (getV 3) (getV 1)))) (frzS 3 (exprXS (methX 1 mAppend (consE (getV 3) nilA)))) nxS)))
  (retVar 1))))
def r_names_of : List T → R T := fun ts => bodyR (g_names_of (env0 3 ts))
abbrev s_is_alternative : Stmt := topS 12
abbrev N_is_alternative : List Str := ["thing", "head", "lines", "line", "known", "term"]
theorem sc_is_alternative : FnScope N_is_alternative ["thing"] (defScope s_is_alternative) := ⟨rfl, rfl, rfl, by decide +kernel, rfl, by decide +kernel, by decide +kernel⟩
def g_is_alternative : FS := (seqS (ifS (orB (notB (truB (un1 (isT "tuple") (getV 0)))) (asB (bin2 neXO (ap lenT (consE (getV 0) nilA)) (cF (.int 2))))) (retS (cF (.bl false))) nxS)
  (seqS (setS 1 (bin2 ixT (getV 0) (cF (.int 0))))
  (seqS (setS 2 (bin2 ixT (getV 0) (cF (.int 1))))
  (seqS (ifS (orB (notB (truB (un1 (isT "tuple") (getV 1)))) (orB (asB (bin2 gtT (ap lenT (consE (getV 1) nilA)) (cF (.int 4)))) (notB (truB (callF r_all_terms [] (consE (getV 1) nilA)))))) (retS (cF (.bl false))) nxS)
  (seqS (ifS (orB (notB (truB (un1 (isT "tuple") (getV 2)))) (asB (bin2 gtT (ap lenT (consE (getV 2) nilA)) (cF (.int 5))))) (retS (cF (.bl false))) nxS)
  (frzS 2 (seqS (forS (seqI true (getV 2)) (gSet 3) (ifS (notB (truB (callF r_is_line [] (consE (getV 3) nilA)))) (retS (cF (.bl false))) nxS))
  (seqS (setS 4 (callF r_names_of [] (consE (getV 2) nilA)))
  (frzS 1 (seqS (forS (seqI true (getV 1)) (gSet 5) (ifS (andB (truB (un1 (isT "str") (getV 5))) (asB (bin2 ninO (getV 5) (getV 4)))) (retS (cF (.bl false))) nxS))
  (retS (callF r_one_width [] (consE (getV 2) nilA)))))))))))))
def r_is_alternative : List T → R T := fun ts => bodyR (g_is_alternative (env0 5 ts))
abbrev s_is_question : Stmt := topS 13
abbrev N_is_question : List Str := ["thing", "lines", "one"]
theorem sc_is_question : FnScope N_is_question ["thing"] (defScope s_is_question) := ⟨rfl, rfl, rfl, by decide +kernel, rfl, by decide +kernel, by decide +kernel⟩
def g_is_question : FS := (seqS (ifS (orB (notB (truB (un1 (isT "list") (getV 0)))) (asB (bin2 gtT (ap lenT (consE (getV 0) nilA)) (cF (.int 3))))) (retS (cF (.bl false))) nxS)
  (seqS (setS 1 (ap lstT nilA))
  (frzS 0 (seqS (forS (seqI true (getV 0)) (gSet 2) (seqS (ifS (orB (notB (truB (callF r_is_alternative [] (consE (getV 2) nilA)))) (asB (bin2 neXO (ap lenT (consE (bin2 ixT (getV 2) (cF (.int 0))) nilA)) (ap lenT (consE (bin2 ixT (bin2 ixT (getV 0) (cF (.int 0))) (cF (.int 0))) nilA))))) (retS (cF (.bl false))) nxS)
  (exprXS (methX 1 mExtX (consE (bin2 ixT (getV 2) (cF (.int 1))) nilA)))))
  (retS (callF r_one_width [] (consE (getV 1) nilA)))))))
def r_is_question : List T → R T := fun ts => bodyR (g_is_question (env0 2 ts))
abbrev s_ltold : Stmt := topS 21
abbrev N_ltold : List Str := ["_law_found", "_law_owed"]
theorem sc_ltold : FnScope N_ltold ["_law_found", "_law_owed"] (defScope s_ltold) := ⟨rfl, rfl, rfl, by decide +kernel, rfl, by decide +kernel, by decide +kernel⟩
def g_ltold : FS := (retS (andF (un1 (isT "bool") (getV 0)) (bin2 eqXO (getV 0) (getV 1))))
def r_ltold : List T → R T := fun ts => bodyR (g_ltold (env0 0 ts))
abbrev s_ltables : Stmt := topS 18
abbrev N_ltables : List Str := ["_law_cell_here", "_law_count", "_law_found", "_law_name"]
theorem sc_ltables : FnScope N_ltables ["_law_cell_here", "_law_count"] (defScope s_ltables) := ⟨rfl, rfl, rfl, by decide +kernel, rfl, by decide +kernel, by decide +kernel⟩
def g_ltables : FS := (seqS (setS 2 (ap lstT nilA))
  (seqS (forS (seqI true (callF r_lnames [] (consE (getV 0) (consE (getV 1) nilA)))) (gSet 3) (frzS 3 (exprXS (methX 2 mAppend (consE (ap tupT (consE (getV 3) (consE (bin2 addT (cF (.int 1)) (bin2 modT (callF r_lmix [] (consE (getV 0) (consE (bin2 addT (cF (.int 60)) (ap lenT (consE (getV 2) nilA))) nilA))) (cF (.int 6)))) nilA))) nilA)))))
  (retVar 2)))
def r_ltables : List T → R T := fun ts => bodyR (g_ltables (env0 2 ts))
abbrev s_law : Stmt := topS 26
abbrev N_law : List Str := ["_law_script", "_law_first", "_law_names_here", "_law_tables_here", "_law_size", "_law_question", "_law_k", "_law_kept", "_law_cell_here", "_law_wrong_here", "_law_thing"]
theorem sc_law : FnScope N_law ["_law_script"] (defScope s_law) := ⟨rfl, rfl, rfl, by decide +kernel, rfl, by decide +kernel, by decide +kernel⟩
def g_law : FS := (seqS (setS 1 (callF r_lcell [] (consE (getV 0) (consE (cF (.int 0)) nilA))))
  (seqS (setS 2 (callF r_lnames [] (consE (callF r_lcell [] (consE (getV 0) (consE (cF (.int 1)) nilA))) (consE (cF (.int 4)) nilA))))
  (seqS (setS 3 (callF r_ltables [] (consE (getV 1) (consE (cF (.int 3)) nilA))))
  (seqS (setS 4 (bin2 modT (callF r_lmix [] (consE (getV 1) (consE (cF (.int 5)) nilA))) (cF (.int 5))))
  (seqS (setS 5 (ap lstT nilA))
  (seqS (forS (rangeI (consE (bin2 modT (callF r_lmix [] (consE (getV 1) (consE (cF (.int 6)) nilA))) (cF (.int 4))) nilA)) (gSet 6) (exprXS (methX 5 mAppend (consE (callF r_lalternative [] (consE (getV 0) (consE (bin2 addT (cF (.int 2)) (bin2 mulT (cF (.int 17)) (getV 6))) (consE (getV 3) (consE (getV 2) (consE (getV 4) nilA)))))) nilA))))
  (seqS (setS 7 (ap listXT (consE (getV 5) nilA)))
  (seqS (ifS (orB (notB (truB (callF r_ltold [] (consE (callF r_is_question [] (consE (getV 5) nilA)) (consE (cF (.bl true)) nilA))))) (asB (bin2 neXO (getV 5) (getV 7)))) (retS (cF (.bl false))) nxS)
  (seqS (forS (seqI true (bin2 addT (ap lstT (consE (callF r_lcell [] (consE (getV 0) (consE (cF (.int 54)) nilA))) nilA)) (sliceF (getV 0) (partF (cF (.int 55))) (partF (cF (.int 63)))))) (gSet 8) (seqS (setS 9 (callF r_lwrong [] (consE (getV 5) (consE (getV 4) (consE (getV 8) nilA)))))
  (ifS (notB (truB (callF r_ltold [] (consE (callF r_is_question [] (consE (getV 9) nilA)) (consE (cF (.bl false)) nilA))))) (retS (cF (.bl false))) nxS)))
  (seqS (forS (seqI true (ap lstT (consE (cF .non) (consE (cF (.bl true)) (consE (cF (.int 7)) (consE (cF (.str "none")) (consE (frzE (cF (.dct .own []))) (consE (ap tupT nilA) (consE (ap tupT (consE (ap tupT nilA) (consE (ap tupT nilA) nilA))) (consE (frzE (ap lstT (consE (frzE (ap lstT nilA)) nilA))) (consE (frzE (ap lstT (consE (ap tupT nilA) nilA))) (consE (frzE (ap lstT (consE (cF .non) nilA))) nilA)))))))))))) (gSet 10) (ifS (notB (truB (callF r_ltold [] (consE (callF r_is_question [] (consE (getV 10) nilA)) (consE (cF (.bl false)) nilA))))) (retS (cF (.bl false))) nxS))
  (retS (andF (callF r_ltold [] (consE (callF r_is_question [] (consE (ap lstT nilA) nilA)) (consE (cF (.bl true)) nilA))) (bin2 eqXO (getV 5) (getV 7))))))))))))))
def r_law : List T → R T := fun ts => bodyR (g_law (env0 10 ts))
section
variable {P : Program} {w : World} {K : PySem.W.Frag} {mg : Str → Option Value} {base : Heap} {ec : Nat → Addr}
theorem ok_lmix    {f : Addr} {fd : FuncData} (D : DefAt K mg "_law_mix" s_lmix f fd) : CalleeK P w K mg base ec "_law_mix" 1 2 [] r_lmix :=
  def_callee (k := 0) (g := g_lmix) D sc_lmix rfl (fun _ _ _ _ _ _ us hl => match us, hl with | [_, _], _ => rfl) fun cdv A outer s H E hr => by
  have hN : N_lmix.Nodup := sc_lmix.nd
  exact (DSs.cons (DS.set 2 hN (DE.mod (DE.add (DE.add (DE.add (DE.mul (DE.mod (DE.var 0) DE.int) DE.int) (DE.mul (DE.mul (DE.var 1) (DE.var 1)) DE.int)) (DE.var 1)) DE.int) DE.int))
    (DSs.one (DS.ret (DE.mod (DE.mul (DE.var 2) (DE.var 2)) DE.int))))
theorem ok_lterm (n_len : mg "len" = none)  (c_lmix : CalleeK P w K mg base ec "_law_mix" 1 2 [] r_lmix) {f : Addr} {fd : FuncData} (D : DefAt K mg "_law_term" s_lterm f fd) : CalleeK P w K mg base ec "_law_term" 2 2 [] r_lterm :=
  def_callee (k := 1) (g := g_lterm) D sc_lterm rfl (fun _ _ _ _ _ _ us hl => match us, hl with | [_, _], _ => rfl) fun cdv A outer s H E hr => by
  have hN : N_lterm.Nodup := sc_lterm.nd
  exact (DSs.cons (DS.set 2 hN (DE.call ⟨c_lmix.ex⟩ (hr.mono (by decide)) (takes_of rfl rfl rfl rfl) (by rfl) (DA.cons (DE.var 0) (DA.cons DE.int DA.nil))))
    (DSs.cons (DS.if_ (DT.lt (u1 hr) (DE.mod (DE.var 2) DE.int) DE.int) (DSs.one (DS.ret (DE.ix (u1 hr) (DE.var 1) (DE.mod (DE.fdiv (DE.var 2) DE.int) (DE.len (by rfl) n_len (DA.cons (DE.var 1) DA.nil)))))) DSs.nil)
    (DSs.cons (DS.if_ (DT.eqX (u65 hr) (DE.mod (DE.fdiv (DE.var 2) DE.int) DE.int) DE.int) (DSs.one (DS.ret (DE.sub (DE.mod (DE.fdiv (DE.var 2) DE.int) DE.int) DE.int))) DSs.nil)
    (DSs.one (DS.ret (DE.sub (DE.mod (DE.var 0) (DE.sub (DE.mul DE.int (DE.pow DE.int DE.int)) DE.int)) (DE.sub (DE.pow DE.int DE.int) DE.int)))))))
theorem ok_lcell (n_len : mg "len" = none)   {f : Addr} {fd : FuncData} (D : DefAt K mg "_law_cell" s_lcell f fd) : CalleeK P w K mg base ec "_law_cell" 1 2 [] r_lcell :=
  def_callee (k := 0) (g := g_lcell) D sc_lcell rfl (fun _ _ _ _ _ _ us hl => match us, hl with | [_, _], _ => rfl) fun cdv A outer s H E hr => by
  have hN : N_lcell.Nodup := sc_lcell.nd
  exact (DSs.cons (DS.if_ (DT.lt (u1 hr) (DE.var 1) (DE.len (by rfl) n_len (DA.cons (DE.var 0) DA.nil))) (DSs.one (DS.ret (DE.ix (u1 hr) (DE.var 0) (DE.var 1)))) DSs.nil)
    (DSs.cons (DS.set 2 hN (DE.add (DE.mul (DE.var 1) DE.int) DE.int))
    (DSs.cons (DS.if_ (DT.gt (DE.len (by rfl) n_len (DA.cons (DE.var 0) DA.nil)) DE.int) (DSs.one (DS.set 2 hN (DE.mod (DE.add (DE.mul (DE.ix (u1 hr) (DE.var 0) (DE.mod (DE.mul (DE.var 1) DE.int) (DE.len (by rfl) n_len (DA.cons (DE.var 0) DA.nil)))) DE.int) (DE.mul (DE.var 1) DE.int)) DE.int))) DSs.nil)
    (DSs.one (DS.ret (DE.mod (DE.mul (DE.var 2) (DE.var 2)) DE.int))))))
theorem ok_llines (n_len : mg "len" = none) (n_range : mg "range" = none) (n_tuple : mg "tuple" = none)  (c_lcell : CalleeK P w K mg base ec "_law_cell" 1 2 [] r_lcell) (c_lmix : CalleeK P w K mg base ec "_law_mix" 1 2 [] r_lmix) (c_lterm : CalleeK P w K mg base ec "_law_term" 2 2 [] r_lterm) {f : Addr} {fd : FuncData} (D : DefAt K mg "_law_lines" s_llines f fd) : CalleeK P w K mg base ec "_law_lines" 3 5 [] r_llines :=
  def_callee (k := 2) (g := g_llines) D sc_llines rfl (fun _ _ _ _ _ _ us hl => match us, hl with | [_, _, _, _, _], _ => rfl) fun cdv A outer s H E hr => by
  have hN : N_llines.Nodup := sc_llines.nd
  exact (DSs.cons (DS.set 5 hN (DE.lst DA.nil))
    (DSs.freeze 1 (DSs.cons (DS.set 6 hN (DE.var 1))
    (DSs.cons (DS.for_ (passes_of rfl) rfl (DI.range1 (by rfl) n_range (DA.cons (DE.var 4) DA.nil)) (DG.name 7 hN) (DSs.cons (DS.set 8 hN (DE.call ⟨c_lmix.ex⟩ (hr.mono (by decide)) (takes_of rfl rfl rfl rfl) (by rfl) (DA.cons (DE.call ⟨c_lcell.ex⟩ (hr.mono (by decide)) (takes_of rfl rfl rfl rfl) (by rfl) (DA.cons (DE.var 0) (DA.cons (DE.var 6) DA.nil))) (DA.cons DE.int DA.nil))))
    (DSs.cons (DS.set 9 hN (DE.ix (u1 hr) (DE.var 2) (DE.mod (DE.var 8) (DE.len (by rfl) n_len (DA.cons (DE.var 2) DA.nil)))))
    (DSs.cons (DS.setLc 10 rfl hN (DI.range1 (by rfl) n_range (DA.cons (DE.ix (u1 hr) (DE.var 9) DE.int) DA.nil)) (blkOk_by (own := [("_law_j", 11)]) (N := N_llines) (sc := defScope s_llines) (by decide +kernel)) (fun _ _ _ _ _ => (DG.name 11 hN)) (fun _ _ _ _ _ => DTs.nil) (fun _ _ _ _ _ => (DE.call ⟨c_lterm.ex⟩ (hr.mono (by decide)) takes0 (by rfl) (DA.cons (DE.call ⟨c_lcell.ex⟩ (hr.mono (by decide)) takes0 (by rfl) (DA.cons (DE.var 0) (DA.cons (DE.add (DE.add (DE.var 6) DE.int) (DE.var 11)) DA.nil))) (DA.cons (DE.var 3) DA.nil)))))
    (DSs.cons (DS.exprX (DX.meth 5 PySem.F.slot_list_append PySem.F.type_list_append mt_append own_append (DA.cons (DE.tup (DA.cons (DE.ix (u1 hr) (DE.var 9) DE.int) (DA.cons (DE.tuple_ (by rfl) n_tuple (DA.cons (DE.var 10) DA.nil)) DA.nil))) DA.nil)))
    (DSs.cons (DS.if_ (DW.and_ (DT.gt (DE.var 7) DE.int) (DW.and1 (DT.eqX (u65 hr) (DE.mod (DE.fdiv (DE.var 8) DE.int) DE.int) DE.int))).t (DSs.one (DS.put 5 (u1 hr) (DE.var 7) (DE.ix (u1 hr) (DE.var 5) (DE.mod (DE.fdiv (DE.var 8) DE.int) (DE.var 7))))) DSs.nil)
    (DSs.one (DS.set 6 hN (DE.add (DE.add (DE.var 6) DE.int) (DE.ix (u1 hr) (DE.var 9) DE.int))))))))))
    (DSs.one (DS.retVar 5))))))
theorem ok_lalternative (n_len : mg "len" = none) (n_range : mg "range" = none) (n_tuple : mg "tuple" = none)  (c_lcell : CalleeK P w K mg base ec "_law_cell" 1 2 [] r_lcell) (c_llines : CalleeK P w K mg base ec "_law_lines" 3 5 [] r_llines) (c_lmix : CalleeK P w K mg base ec "_law_mix" 1 2 [] r_lmix) {f : Addr} {fd : FuncData} (D : DefAt K mg "_law_alternative" s_lalternative f fd) : CalleeK P w K mg base ec "_law_alternative" 4 5 [] r_lalternative :=
  def_callee (k := 3) (g := g_lalternative) D sc_lalternative rfl (fun _ _ _ _ _ _ us hl => match us, hl with | [_, _, _, _, _], _ => rfl) fun cdv A outer s H E hr => by
  have hN : N_lalternative.Nodup := sc_lalternative.nd
  exact (DSs.cons (DS.set 5 hN (DE.call ⟨c_lcell.ex⟩ (hr.mono (by decide)) (takes_of rfl rfl rfl rfl) (by rfl) (DA.cons (DE.var 0) (DA.cons (DE.var 1) DA.nil))))
    (DSs.cons (DS.set 6 hN (DE.call ⟨c_llines.ex⟩ (hr.mono (by decide)) (takes_of rfl rfl rfl rfl) (by rfl) (DA.cons (DE.var 0) (DA.cons (DE.add (DE.var 1) DE.int) (DA.cons (DE.var 2) (DA.cons (DE.var 3) (DA.cons (DE.mod (DE.call ⟨c_lmix.ex⟩ (hr.mono (by decide)) (takes_of rfl rfl rfl rfl) (by rfl) (DA.cons (DE.var 5) (DA.cons DE.int DA.nil))) DE.int) DA.nil)))))))
    (DSs.cons (DS.set 7 hN (DE.lst DA.nil))
    (DSs.freeze 6 (DSs.cons (DS.for_ (passes_of rfl) rfl (DI.seq (DE.var 6)) (DG.name 8 hN) (DSs.one (DS.exprX (DX.meth 7 PySem.F.slot_list_extend PySem.F.type_list_extend (MtR.or mt_extend mt_extT) own_extX (DA.cons (DE.ix (u1 hr) (DE.var 8) DE.int) DA.nil)))))
    (DSs.cons (DS.set 9 hN (DE.lst DA.nil))
    (DSs.cons (DS.for_ (passes_of rfl) rfl (DI.range1 (by rfl) n_range (DA.cons (DE.var 4) DA.nil)) (DG.name 10 hN) (DSs.one (DS.if_ (DW.and_ (DT.gt (DE.len (by rfl) n_len (DA.cons (DE.var 7) DA.nil)) DE.int) (DW.and1 (DT.gt (DE.mod (DE.call ⟨c_lmix.ex⟩ (hr.mono (by decide)) (takes_of rfl rfl rfl rfl) (by rfl) (DA.cons (DE.var 5) (DA.cons (DE.add DE.int (DE.var 10)) DA.nil))) DE.int) DE.int))).t (DSs.one (DS.exprX (DX.meth 9 PySem.F.slot_list_append PySem.F.type_list_append mt_append own_append (DA.cons (DE.ix (u1 hr) (DE.var 7) (DE.mod (DE.call ⟨c_lmix.ex⟩ (hr.mono (by decide)) (takes_of rfl rfl rfl rfl) (by rfl) (DA.cons (DE.var 5) (DA.cons (DE.add DE.int (DE.var 10)) DA.nil))) (DE.len (by rfl) n_len (DA.cons (DE.var 7) DA.nil)))) DA.nil)))) (DSs.one (DS.exprX (DX.meth 9 PySem.F.slot_list_append PySem.F.type_list_append mt_append own_append (DA.cons (DE.sub (DE.call ⟨c_lmix.ex⟩ (hr.mono (by decide)) (takes_of rfl rfl rfl rfl) (by rfl) (DA.cons (DE.var 5) (DA.cons (DE.add DE.int (DE.var 10)) DA.nil))) (DE.pow DE.int DE.int)) DA.nil)))))))
    (DSs.one (DS.ret (DE.tup (DA.cons (DE.tuple_ (by rfl) n_tuple (DA.cons (DE.var 9) DA.nil)) (DA.cons (DE.tuple_ (by rfl) n_tuple (DA.cons (DE.var 6) DA.nil)) DA.nil))))))))))))
theorem ok_lother_length    {f : Addr} {fd : FuncData} (D : DefAt K mg "_law_other_length" s_lother_length f fd) : CalleeK P w K mg base ec "_law_other_length" 1 1 [] r_lother_length :=
  def_callee (k := 0) (g := g_lother_length) D sc_lother_length rfl (fun _ _ _ _ _ _ us hl => match us, hl with | [_], _ => rfl) fun cdv A outer s H E hr => by
  have hN : N_lother_length.Nodup := sc_lother_length.nd
  exact (DSs.cons (DS.if_ (DT.eqX (u65 hr) (DE.var 0) DE.int) (DSs.one (DS.ret (DE.tup (DA.cons (DE.tup (DA.cons DE.int DA.nil)) (DA.cons (DE.tup DA.nil) DA.nil))))) DSs.nil)
    (DSs.one (DS.ret (DE.tup (DA.cons (DE.mulT (DE.tup (DA.cons DE.int DA.nil)) (DE.sub (DE.var 0) DE.int)) (DA.cons (DE.tup DA.nil) DA.nil))))))
theorem ok_lother_width (n_len : mg "len" = none)   {f : Addr} {fd : FuncData} (D : DefAt K mg "_law_other_width" s_lother_width f fd) : CalleeK P w K mg base ec "_law_other_width" 1 2 [] r_lother_width :=
  def_callee (k := 0) (g := g_lother_width) D sc_lother_width rfl (fun _ _ _ _ _ _ us hl => match us, hl with | [_, _], _ => rfl) fun cdv A outer s H E hr => by
  have hN : N_lother_width.Nodup := sc_lother_width.nd
  exact (DSs.freeze 0 (DSs.cons (DS.for_ (passes_of rfl) rfl (DI.seq (DE.var 0)) (DG.name 2 hN) (DSs.one (DS.for_ (passes_of rfl) rfl (DI.seq (DE.ix (u1 hr) (DE.var 2) DE.int)) (DG.name 3 hN) (DSs.cons (DS.set 4 hN (DE.add (DE.ix (u1 hr) (DE.var 3) DE.int) (DE.tup (DA.cons DE.int DA.nil))))
    (DSs.cons (DS.if_ (DT.eqX (u65 hr) (DE.len (by rfl) n_len (DA.cons (DE.var 4) DA.nil)) DE.int) (DSs.one (DS.set 4 hN (DE.slice (DE.var 4) (DP.some DE.int) DP.none))) DSs.nil)
    (DSs.freeze 4 (DSs.one (DS.ret (DE.tup (DA.cons (DE.mulT (DE.tup (DA.cons DE.int DA.nil)) (DE.var 1)) (DA.cons (DE.tup (DA.cons (DE.tup (DA.cons (DE.ix (u1 hr) (DE.var 3) DE.int) (DA.cons (DE.var 4) DA.nil))) DA.nil)) DA.nil)))))))))))
    (DSs.one (DS.ret DE.non))))
theorem ok_lwrong (n_len : mg "len" = none) (n_tuple : mg "tuple" = none)  (c_lmix : CalleeK P w K mg base ec "_law_mix" 1 2 [] r_lmix) (c_lother_length : CalleeK P w K mg base ec "_law_other_length" 1 1 [] r_lother_length) (c_lother_width : CalleeK P w K mg base ec "_law_other_width" 1 2 [] r_lother_width) {f : Addr} {fd : FuncData} (D : DefAt K mg "_law_wrong" s_lwrong f fd) : CalleeK P w K mg base ec "_law_wrong" 2 3 [] r_lwrong :=
  def_callee (k := 1) (g := g_lwrong) D sc_lwrong rfl (fun _ _ _ _ _ _ us hl => match us, hl with | [_, _, _], _ => rfl) fun cdv A outer s H E hr => by
  have hN : N_lwrong.Nodup := sc_lwrong.nd
  exact (DSs.cons (DS.set 3 hN (DE.mod (DE.call ⟨c_lmix.ex⟩ (hr.mono (by decide)) (takes_of rfl rfl rfl rfl) (by rfl) (DA.cons (DE.var 2) (DA.cons DE.int DA.nil))) DE.int))
    (DSs.cons (DS.set 4 hN (DE.mod (DE.call ⟨c_lmix.ex⟩ (hr.mono (by decide)) (takes_of rfl rfl rfl rfl) (by rfl) (DA.cons (DE.var 2) (DA.cons DE.int DA.nil))) (DE.add (DE.len (by rfl) n_len (DA.cons (DE.var 0) DA.nil)) DE.int)))
    (DSs.cons (DS.if_ (DT.eqX (u65 hr) (DE.var 3) DE.int) (DSs.one (DS.ret (DE.tuple_ (by rfl) n_tuple (DA.cons (DE.var 0) DA.nil)))) DSs.nil)
    (DSs.cons (DS.if_ (DT.eqX (u65 hr) (DE.var 3) DE.int) (DSs.one (DS.ret (DE.slice (DE.add (DE.var 0) (DE.mulT (DE.lst (DA.cons (DE.tup (DA.cons (DE.mulT (DE.tup (DA.cons DE.int DA.nil)) (DE.var 1)) (DA.cons (DE.tup DA.nil) DA.nil))) DA.nil)) DE.int)) DP.none (DP.some DE.int)))) DSs.nil)
    (DSs.cons (DS.if_ (DW.and_ (DT.eqX (u65 hr) (DE.var 3) DE.int) (DW.and1 (DT.gt (DE.len (by rfl) n_len (DA.cons (DE.var 0) DA.nil)) DE.int))).t (DSs.one (DS.ret (DE.slice (DE.add (DE.add (DE.slice (DE.var 0) DP.none (DP.some (DE.var 4))) (DE.lst (DA.cons (DE.call ⟨c_lother_length.ex⟩ (hr.mono (by decide)) (takes_of rfl rfl rfl rfl) (by rfl) (DA.cons (DE.var 1) DA.nil)) DA.nil))) (DE.slice (DE.var 0) (DP.some (DE.var 4)) DP.none)) DP.none (DP.some DE.int)))) DSs.nil)
    (DSs.cons (DS.set 5 hN (DE.call ⟨c_lother_width.ex⟩ (hr.mono (by decide)) (takes_of rfl rfl rfl rfl) (by rfl) (DA.cons (DE.var 0) (DA.cons (DE.var 1) DA.nil))))
    (DSs.cons (DS.if_ (DW.and_ (DT.eqX (u65 hr) (DE.var 3) DE.int) (DW.and1 (DT.notN (DE.var 5) DE.non))).t (DSs.one (DS.ret (DE.add (DE.add (DE.slice (DE.var 0) DP.none (DP.some (DE.var 4))) (DE.lst (DA.cons (DE.var 5) DA.nil))) (DE.slice (DE.var 0) (DP.some (DE.var 4)) DP.none)))) DSs.nil)
    (DSs.cons (DS.set 6 hN (DE.lst (DA.cons DE.non (DA.cons (DE.tup DA.nil) (DA.cons DE.int (DA.cons (DE.frz (DE.lst (DA.cons (DE.mulT (DE.tup (DA.cons DE.int DA.nil)) (DE.var 1)) (DA.cons (DE.tup DA.nil) DA.nil)))) (DA.cons (DE.tup (DA.cons (DE.mulT (DE.tup (DA.cons DE.int DA.nil)) (DE.var 1)) (DA.cons (DE.frz (DE.lst DA.nil)) DA.nil))) (DA.cons (DE.tup (DA.cons (DE.mulT (DE.tup (DA.cons DE.bl DA.nil)) DE.int) (DA.cons (DE.tup DA.nil) DA.nil))) (DA.cons (DE.tup (DA.cons (DE.tup (DA.cons DE.str DA.nil)) (DA.cons (DE.tup DA.nil) DA.nil))) (DA.cons DE.str DA.nil))))))))))
    (DSs.one (DS.ret (DE.add (DE.add (DE.slice (DE.var 0) DP.none (DP.some (DE.var 4))) (DE.lst (DA.cons (DE.ix (u1 hr) (DE.var 6) (DE.mod (DE.call ⟨c_lmix.ex⟩ (hr.mono (by decide)) (takes_of rfl rfl rfl rfl) (by rfl) (DA.cons (DE.var 2) (DA.cons DE.int DA.nil))) DE.int)) DA.nil))) (DE.slice (DE.var 0) (DP.some (DE.var 4)) DP.none))))))))))))
theorem ok_lnames (n_int : mg "int" = none) (n_range : mg "range" = none)  (c_lmix : CalleeK P w K mg base ec "_law_mix" 1 2 [] r_lmix) {f : Addr} {fd : FuncData} (D : DefAt K mg "_law_names" s_lnames f fd) : CalleeK P w K mg base ec "_law_names" 2 2 [] r_lnames :=
  def_callee (k := 1) (g := g_lnames) D sc_lnames rfl (fun _ _ _ _ _ _ us hl => match us, hl with | [_, _], _ => rfl) fun cdv A outer s H E hr => by
  have hN : N_lnames.Nodup := sc_lnames.nd
  exact (DSs.cons (DS.set 2 hN DE.str)
    (DSs.cons (DS.set 3 hN (DE.add DE.int (DE.mod (DE.call ⟨c_lmix.ex⟩ (hr.mono (by decide)) (takes_of rfl rfl rfl rfl) (by rfl) (DA.cons (DE.var 0) (DA.cons DE.int DA.nil))) DE.int)))
    (DSs.cons (DS.if_ (DT.eqX (u65 hr) (DE.mod (DE.call ⟨c_lmix.ex⟩ (hr.mono (by decide)) (takes_of rfl rfl rfl rfl) (by rfl) (DA.cons (DE.var 0) (DA.cons DE.int DA.nil))) DE.int) DE.int) (DSs.one (DS.set 3 hN DE.int)) DSs.nil)
    (DSs.cons (DS.set 4 hN (DE.lc rfl hN (DI.range1 (by rfl) n_range (DA.cons (DE.var 3) DA.nil)) (blkOk_by (own := [("_law_k", 5)]) (N := N_lnames) (sc := defScope s_lnames) (by decide +kernel)) (fun _ _ _ _ _ => (DG.name 5 hN)) (fun _ _ _ _ _ => DTs.nil) (fun _ _ _ _ _ => (DE.ix (u1 hr) (DE.var 2) (DE.mod (DE.call ⟨c_lmix.ex⟩ (hr.mono (by decide)) takes0 (by rfl) (DA.cons (DE.var 0) (DA.cons (DE.add DE.int (DE.var 5)) DA.nil))) DE.int)))))
    (DSs.cons (DS.put 4 (u1 hr) DE.int (DE.ix (u1 hr) (DE.var 2) (DE.mod (DE.call ⟨c_lmix.ex⟩ (hr.mono (by decide)) (takes_of rfl rfl rfl rfl) (by rfl) (DA.cons (DE.var 0) (DA.cons DE.int DA.nil))) DE.int)))
    (DSs.cons (DS.if_ (DT.eqX (u65 hr) (DE.mod (DE.call ⟨c_lmix.ex⟩ (hr.mono (by decide)) (takes_of rfl rfl rfl rfl) (by rfl) (DA.cons (DE.var 0) (DA.cons DE.int DA.nil))) DE.int) DE.int) (DSs.one (DS.ret (DE.lc rfl hN (DI.range1 (by rfl) n_range (DA.cons (DE.var 1) DA.nil)) (blkOk_by (own := [("_law_k", 5)]) (N := N_lnames) (sc := defScope s_lnames) (by decide +kernel)) (fun _ _ _ _ _ => (DG.name 5 hN)) (fun _ _ _ _ _ => DTs.nil) (fun _ _ _ _ _ => (DE.join DE.str (DE.slice (DE.var 4) DP.none (DP.some (DE.add (DE.var 5) DE.int)))))))) DSs.nil)
    (DSs.cons (DS.set 6 hN (DE.mod (DE.call ⟨c_lmix.ex⟩ (hr.mono (by decide)) (takes_of rfl rfl rfl rfl) (by rfl) (DA.cons (DE.var 0) (DA.cons DE.int DA.nil))) (DE.var 3)))
    (DSs.cons (DS.set 7 hN (DE.lst DA.nil))
    (DSs.cons (DS.for_ (passes_of rfl) rfl (DI.range1 (by rfl) n_range (DA.cons (DE.var 1) DA.nil)) (DG.name 5 hN) (DSs.cons (DS.put 4 (u1 hr) (DE.var 6) (DE.ix (u1 hr) (DE.var 2) (DE.mod (DE.add (DE.call ⟨c_lmix.ex⟩ (hr.mono (by decide)) (takes_of rfl rfl rfl rfl) (by rfl) (DA.cons (DE.var 0) (DA.cons DE.int DA.nil))) (DE.var 5)) (DE.add DE.int (DE.mul DE.int (DE.int_ (by rfl) n_int (DA.cons (DE.gt (DE.var 6) DE.int) DA.nil)))))))
    (DSs.one (DS.exprX (DX.meth 7 PySem.F.slot_list_append PySem.F.type_list_append mt_append own_append (DA.cons (DE.join DE.str (DE.var 4)) DA.nil))))))
    (DSs.one (DS.retVar 7)))))))))))
theorem ok_tables_of (n_len : mg "len" = none) (n_set : mg "set" = none) (n_sorted : mg "sorted" = none)   {f : Addr} {fd : FuncData} (D : DefAt K mg "tables_of" s_tables_of f fd) : CalleeK P w K mg base ec "tables_of" 1 1 [] r_tables_of :=
  def_callee (k := 0) (g := g_tables_of) D sc_tables_of rfl (fun _ _ _ _ _ _ us hl => match us, hl with | [_], _ => rfl) fun cdv A outer s H E hr => by
  have hN : N_tables_of.Nodup := sc_tables_of.nd
  exact (DSs.one (DS.ret (DE.sortSetX (u64 hr) rfl (by rfl) n_sorted (by rfl) n_set (DE.lc rfl hN (DI.seq (DE.var 0)) (blkOk_by (own := [("line", 1)]) (N := N_tables_of) (sc := defScope s_tables_of) (by decide +kernel)) (fun _ _ _ _ _ => (DG.name 1 hN)) (fun _ _ _ _ _ => DTs.nil) (fun _ _ _ _ _ => (DE.tup (DA.cons (DE.ix (u1 hr) (DE.var 1) DE.int) (DA.cons (DE.len (by rfl) n_len (DA.cons (DE.ix (u1 hr) (DE.var 1) DE.int) DA.nil)) DA.nil))))))))
theorem ok_one_width (n_len : mg "len" = none) (n_set : mg "set" = none)  (c_tables_of : CalleeK P w K mg base ec "tables_of" 1 1 [] r_tables_of) {f : Addr} {fd : FuncData} (D : DefAt K mg "one_width" s_one_width f fd) : CalleeK P w K mg base ec "one_width" 2 1 [] r_one_width :=
  def_callee (k := 1) (g := g_one_width) D sc_one_width rfl (fun _ _ _ _ _ _ us hl => match us, hl with | [_], _ => rfl) fun cdv A outer s H E hr => by
  have hN : N_one_width.Nodup := sc_one_width.nd
  exact (DSs.cons (DS.set 1 hN (DE.call ⟨c_tables_of.ex⟩ (hr.mono (by decide)) (takes_of rfl rfl rfl rfl) (by rfl) (DA.cons (DE.var 0) DA.nil)))
    (DSs.one (DS.ret (DE.eqX (u65 hr) (DE.len (by rfl) n_len (DA.cons (DE.var 1) DA.nil)) (DE.lenSetX rfl (by rfl) n_len (by rfl) n_set (DE.lc rfl hN (DI.seq (DE.var 1)) (blkOk_by (own := [("pair", 2)]) (N := N_one_width) (sc := defScope s_one_width) (by decide +kernel)) (fun _ _ _ _ _ => (DG.name 2 hN)) (fun _ _ _ _ _ => DTs.nil) (fun _ _ _ _ _ => (DE.ix (u1 hr) (DE.var 2) DE.int))))))))
theorem ok_is_name (n_isinstance : mg "isinstance" = none) (n_len : mg "len" = none) (n_str : mg "str" = none) (g_FIGURES : GlV mg "FIGURES" (.str "0123456789")) (g_LETTERS : GlV mg "LETTERS" (.str "abcdefghijklmnopqrstuvwxyz"))  {f : Addr} {fd : FuncData} (D : DefAt K mg "is_name" s_is_name f fd) : CalleeK P w K mg base ec "is_name" 1 1 [] r_is_name :=
  def_callee (k := 0) (g := g_is_name) D sc_is_name rfl (fun _ _ _ _ _ _ us hl => match us, hl with | [_], _ => rfl) fun cdv A outer s H E hr => by
  have hN : N_is_name.Nodup := sc_is_name.nd
  exact (DSs.cons (DS.if_ (DW.or_ (DT.not_ (DT.val (DE.isinst (by rfl) n_isinstance (by rfl) n_str (by rfl) (by decide) (DE.var 0)))) (DW.or1 (DT.not_ (DT.chain op_leA op_leA leT_ok leT_ok DE.int (DE.len (by rfl) n_len (DA.cons (DE.var 0) DA.nil)) DE.int)))).t (DSs.one (DS.ret DE.bl)) DSs.nil)
    (DSs.freeze 0 (DSs.cons (DS.for_ (passes_of rfl) rfl (DI.seq (DE.var 0)) (DG.name 1 hN) (DSs.one (DS.if_ (DW.and_ (DT.nin (u65 hr) (DE.var 1) (DE.gstr (by rfl) g_LETTERS)) (DW.and1 (DT.nin (u65 hr) (DE.var 1) (DE.gstr (by rfl) g_FIGURES)))).t (DSs.one (DS.ret DE.bl)) DSs.nil)))
    (DSs.one (DS.ret (DE.in_ (u65 hr) (DE.ix (u1 hr) (DE.var 0) DE.int) (DE.gstr (by rfl) g_LETTERS)))))))
theorem ok_is_whole (n_bool : mg "bool" = none) (n_int : mg "int" = none) (n_isinstance : mg "isinstance" = none)   {f : Addr} {fd : FuncData} (D : DefAt K mg "is_whole" s_is_whole f fd) : CalleeK P w K mg base ec "is_whole" 1 1 [] r_is_whole :=
  def_callee (k := 0) (g := g_is_whole) D sc_is_whole rfl (fun _ _ _ _ _ _ us hl => match us, hl with | [_], _ => rfl) fun cdv A outer s H E hr => by
  have hN : N_is_whole.Nodup := sc_is_whole.nd
  exact (DSs.one (DS.ret (DE.and_ (DE.isinst (by rfl) n_isinstance (by rfl) n_int (by rfl) (by decide) (DE.var 0)) (DE.bop1 (DE.not_ (DE.isinst (by rfl) n_isinstance (by rfl) n_bool (by rfl) (by decide) (DE.var 0)))))))
theorem ok_is_number (n_abs : mg "abs" = none)  (c_is_whole : CalleeK P w K mg base ec "is_whole" 1 1 [] r_is_whole) {f : Addr} {fd : FuncData} (D : DefAt K mg "is_number" s_is_number f fd) : CalleeK P w K mg base ec "is_number" 2 1 [] r_is_number :=
  def_callee (k := 1) (g := g_is_number) D sc_is_number rfl (fun _ _ _ _ _ _ us hl => match us, hl with | [_], _ => rfl) fun cdv A outer s H E hr => by
  have hN : N_is_number.Nodup := sc_is_number.nd
  exact (DSs.one (DS.ret (DE.and_ (DE.call ⟨c_is_whole.ex⟩ (hr.mono (by decide)) (takes_of rfl rfl rfl rfl) (by rfl) (DA.cons (DE.var 0) DA.nil)) (DE.bop1 (DE.lt (u1 hr) (DE.abs_ (by rfl) n_abs (DA.cons (DE.var 0) DA.nil)) (DE.pow DE.int DE.int))))))
theorem ok_is_term   (c_is_name : CalleeK P w K mg base ec "is_name" 1 1 [] r_is_name) (c_is_number : CalleeK P w K mg base ec "is_number" 2 1 [] r_is_number) {f : Addr} {fd : FuncData} (D : DefAt K mg "is_term" s_is_term f fd) : CalleeK P w K mg base ec "is_term" 3 1 [] r_is_term :=
  def_callee (k := 2) (g := g_is_term) D sc_is_term rfl (fun _ _ _ _ _ _ us hl => match us, hl with | [_], _ => rfl) fun cdv A outer s H E hr => by
  have hN : N_is_term.Nodup := sc_is_term.nd
  exact (DSs.one (DS.ret (DE.or_ (DE.call ⟨c_is_name.ex⟩ (hr.mono (by decide)) (takes_of rfl rfl rfl rfl) (by rfl) (DA.cons (DE.var 0) DA.nil)) (DE.bop1 (DE.call ⟨c_is_number.ex⟩ (hr.mono (by decide)) (takes_of rfl rfl rfl rfl) (by rfl) (DA.cons (DE.var 0) DA.nil))))))
theorem ok_all_terms   (c_is_term : CalleeK P w K mg base ec "is_term" 3 1 [] r_is_term) {f : Addr} {fd : FuncData} (D : DefAt K mg "all_terms" s_all_terms f fd) : CalleeK P w K mg base ec "all_terms" 4 1 [] r_all_terms :=
  def_callee (k := 3) (g := g_all_terms) D sc_all_terms rfl (fun _ _ _ _ _ _ us hl => match us, hl with | [_], _ => rfl) fun cdv A outer s H E hr => by
  have hN : N_all_terms.Nodup := sc_all_terms.nd
  exact (DSs.freeze 0 (DSs.cons (DS.for_ (passes_of rfl) rfl (DI.seq (DE.var 0)) (DG.name 1 hN) (DSs.one (DS.if_ (DT.not_ (DT.val (DE.call ⟨c_is_term.ex⟩ (hr.mono (by decide)) (takes_of rfl rfl rfl rfl) (by rfl) (DA.cons (DE.var 1) DA.nil)))) (DSs.one (DS.ret DE.bl)) DSs.nil)))
    (DSs.one (DS.ret DE.bl))))
theorem ok_is_line (n_isinstance : mg "isinstance" = none) (n_len : mg "len" = none) (n_tuple : mg "tuple" = none)  (c_all_terms : CalleeK P w K mg base ec "all_terms" 4 1 [] r_all_terms) (c_is_name : CalleeK P w K mg base ec "is_name" 1 1 [] r_is_name) {f : Addr} {fd : FuncData} (D : DefAt K mg "is_line" s_is_line f fd) : CalleeK P w K mg base ec "is_line" 5 1 [] r_is_line :=
  def_callee (k := 4) (g := g_is_line) D sc_is_line rfl (fun _ _ _ _ _ _ us hl => match us, hl with | [_], _ => rfl) fun cdv A outer s H E hr => by
  have hN : N_is_line.Nodup := sc_is_line.nd
  exact (DSs.cons (DS.if_ (DW.or_ (DT.not_ (DT.val (DE.isinst (by rfl) n_isinstance (by rfl) n_tuple (by rfl) (by decide) (DE.var 0)))) (DW.or_ (DT.neX (u65 hr) (DE.len (by rfl) n_len (DA.cons (DE.var 0) DA.nil)) DE.int) (DW.or1 (DT.not_ (DT.val (DE.call ⟨c_is_name.ex⟩ (hr.mono (by decide)) (takes_of rfl rfl rfl rfl) (by rfl) (DA.cons (DE.ix (u1 hr) (DE.var 0) DE.int) DA.nil))))))).t (DSs.one (DS.ret DE.bl)) DSs.nil)
    (DSs.one (DS.ret (DE.and_ (DE.isinst (by rfl) n_isinstance (by rfl) n_tuple (by rfl) (by decide) (DE.ix (u1 hr) (DE.var 0) DE.int)) (DE.and_ (DE.chain op_leA op_leA leT_ok leT_ok DE.int (DE.len (by rfl) n_len (DA.cons (DE.ix (u1 hr) (DE.var 0) DE.int) DA.nil)) DE.int) (DE.bop1 (DE.call ⟨c_all_terms.ex⟩ (hr.mono (by decide)) (takes_of rfl rfl rfl rfl) (by rfl) (DA.cons (DE.ix (u1 hr) (DE.var 0) DE.int) DA.nil))))))))
theorem ok_names_of (n_isinstance : mg "isinstance" = none) (n_str : mg "str" = none)   {f : Addr} {fd : FuncData} (D : DefAt K mg "names_of" s_names_of f fd) : CalleeK P w K mg base ec "names_of" 1 1 [] r_names_of :=
  def_callee (k := 0) (g := g_names_of) D sc_names_of rfl (fun _ _ _ _ _ _ us hl => match us, hl with | [_], _ => rfl) fun cdv A outer s H E hr => by
  have hN : N_names_of.Nodup := sc_names_of.nd
  exact (DSs.cons (DS.set 1 hN (DE.lst DA.nil))
    (DSs.freeze 0 (DSs.cons (DS.for_ (passes_of rfl) rfl (DI.seq (DE.var 0)) (DG.name 2 hN) (DSs.one (DS.for_ (passes_of rfl) rfl (DI.seq (DE.ix (u1 hr) (DE.var 2) DE.int)) (DG.name 3 hN) (DSs.one (DS.if_ (DW.and_ (DT.val (DE.isinst (by rfl) n_isinstance (by rfl) n_str (by rfl) (by decide) (DE.var 3))) (DW.and1 (DT.nin (u65 hr) (DE.var 3) (DE.var 1)))).t (DSs.freeze 3 (DSs.one (DS.exprX (DX.meth 1 PySem.F.slot_list_append PySem.F.type_list_append mt_append own_append (DA.cons (DE.var 3) DA.nil))))) DSs.nil)))))
    (DSs.one (DS.retVar 1)))))
theorem ok_is_alternative (n_isinstance : mg "isinstance" = none) (n_len : mg "len" = none) (n_str : mg "str" = none) (n_tuple : mg "tuple" = none)  (c_all_terms : CalleeK P w K mg base ec "all_terms" 4 1 [] r_all_terms) (c_is_line : CalleeK P w K mg base ec "is_line" 5 1 [] r_is_line) (c_names_of : CalleeK P w K mg base ec "names_of" 1 1 [] r_names_of) (c_one_width : CalleeK P w K mg base ec "one_width" 2 1 [] r_one_width) {f : Addr} {fd : FuncData} (D : DefAt K mg "is_alternative" s_is_alternative f fd) : CalleeK P w K mg base ec "is_alternative" 6 1 [] r_is_alternative :=
  def_callee (k := 5) (g := g_is_alternative) D sc_is_alternative rfl (fun _ _ _ _ _ _ us hl => match us, hl with | [_], _ => rfl) fun cdv A outer s H E hr => by
  have hN : N_is_alternative.Nodup := sc_is_alternative.nd
  exact (DSs.cons (DS.if_ (DW.or_ (DT.not_ (DT.val (DE.isinst (by rfl) n_isinstance (by rfl) n_tuple (by rfl) (by decide) (DE.var 0)))) (DW.or1 (DT.neX (u65 hr) (DE.len (by rfl) n_len (DA.cons (DE.var 0) DA.nil)) DE.int))).t (DSs.one (DS.ret DE.bl)) DSs.nil)
    (DSs.cons (DS.set 1 hN (DE.ix (u1 hr) (DE.var 0) DE.int))
    (DSs.cons (DS.set 2 hN (DE.ix (u1 hr) (DE.var 0) DE.int))
    (DSs.cons (DS.if_ (DW.or_ (DT.not_ (DT.val (DE.isinst (by rfl) n_isinstance (by rfl) n_tuple (by rfl) (by decide) (DE.var 1)))) (DW.or_ (DT.gt (DE.len (by rfl) n_len (DA.cons (DE.var 1) DA.nil)) DE.int) (DW.or1 (DT.not_ (DT.val (DE.call ⟨c_all_terms.ex⟩ (hr.mono (by decide)) (takes_of rfl rfl rfl rfl) (by rfl) (DA.cons (DE.var 1) DA.nil))))))).t (DSs.one (DS.ret DE.bl)) DSs.nil)
    (DSs.cons (DS.if_ (DW.or_ (DT.not_ (DT.val (DE.isinst (by rfl) n_isinstance (by rfl) n_tuple (by rfl) (by decide) (DE.var 2)))) (DW.or1 (DT.gt (DE.len (by rfl) n_len (DA.cons (DE.var 2) DA.nil)) DE.int))).t (DSs.one (DS.ret DE.bl)) DSs.nil)
    (DSs.freeze 2 (DSs.cons (DS.for_ (passes_of rfl) rfl (DI.seq (DE.var 2)) (DG.name 3 hN) (DSs.one (DS.if_ (DT.not_ (DT.val (DE.call ⟨c_is_line.ex⟩ (hr.mono (by decide)) (takes_of rfl rfl rfl rfl) (by rfl) (DA.cons (DE.var 3) DA.nil)))) (DSs.one (DS.ret DE.bl)) DSs.nil)))
    (DSs.cons (DS.set 4 hN (DE.call ⟨c_names_of.ex⟩ (hr.mono (by decide)) (takes_of rfl rfl rfl rfl) (by rfl) (DA.cons (DE.var 2) DA.nil)))
    (DSs.freeze 1 (DSs.cons (DS.for_ (passes_of rfl) rfl (DI.seq (DE.var 1)) (DG.name 5 hN) (DSs.one (DS.if_ (DW.and_ (DT.val (DE.isinst (by rfl) n_isinstance (by rfl) n_str (by rfl) (by decide) (DE.var 5))) (DW.and1 (DT.nin (u65 hr) (DE.var 5) (DE.var 4)))).t (DSs.one (DS.ret DE.bl)) DSs.nil)))
    (DSs.one (DS.ret (DE.call ⟨c_one_width.ex⟩ (hr.mono (by decide)) (takes_of rfl rfl rfl rfl) (by rfl) (DA.cons (DE.var 2) DA.nil))))))))))))))
theorem ok_is_question (n_isinstance : mg "isinstance" = none) (n_len : mg "len" = none) (n_list : mg "list" = none)  (c_is_alternative : CalleeK P w K mg base ec "is_alternative" 6 1 [] r_is_alternative) (c_one_width : CalleeK P w K mg base ec "one_width" 2 1 [] r_one_width) {f : Addr} {fd : FuncData} (D : DefAt K mg "is_question" s_is_question f fd) : CalleeK P w K mg base ec "is_question" 7 1 [] r_is_question :=
  def_callee (k := 6) (g := g_is_question) D sc_is_question rfl (fun _ _ _ _ _ _ us hl => match us, hl with | [_], _ => rfl) fun cdv A outer s H E hr => by
  have hN : N_is_question.Nodup := sc_is_question.nd
  exact (DSs.cons (DS.if_ (DW.or_ (DT.not_ (DT.val (DE.isinst (by rfl) n_isinstance (by rfl) n_list (by rfl) (by decide) (DE.var 0)))) (DW.or1 (DT.gt (DE.len (by rfl) n_len (DA.cons (DE.var 0) DA.nil)) DE.int))).t (DSs.one (DS.ret DE.bl)) DSs.nil)
    (DSs.cons (DS.set 1 hN (DE.lst DA.nil))
    (DSs.freeze 0 (DSs.cons (DS.for_ (passes_of rfl) rfl (DI.seq (DE.var 0)) (DG.name 2 hN) (DSs.cons (DS.if_ (DW.or_ (DT.not_ (DT.val (DE.call ⟨c_is_alternative.ex⟩ (hr.mono (by decide)) (takes_of rfl rfl rfl rfl) (by rfl) (DA.cons (DE.var 2) DA.nil)))) (DW.or1 (DT.neX (u65 hr) (DE.len (by rfl) n_len (DA.cons (DE.ix (u1 hr) (DE.var 2) DE.int) DA.nil)) (DE.len (by rfl) n_len (DA.cons (DE.ix (u1 hr) (DE.ix (u1 hr) (DE.var 0) DE.int) DE.int) DA.nil))))).t (DSs.one (DS.ret DE.bl)) DSs.nil)
    (DSs.one (DS.exprX (DX.meth 1 PySem.F.slot_list_extend PySem.F.type_list_extend (MtR.or mt_extend mt_extT) own_extX (DA.cons (DE.ix (u1 hr) (DE.var 2) DE.int) DA.nil))))))
    (DSs.one (DS.ret (DE.call ⟨c_one_width.ex⟩ (hr.mono (by decide)) (takes_of rfl rfl rfl rfl) (by rfl) (DA.cons (DE.var 1) DA.nil))))))))
theorem ok_ltold (n_bool : mg "bool" = none) (n_isinstance : mg "isinstance" = none)   {f : Addr} {fd : FuncData} (D : DefAt K mg "_law_told" s_ltold f fd) : CalleeK P w K mg base ec "_law_told" 1 2 [] r_ltold :=
  def_callee (k := 0) (g := g_ltold) D sc_ltold rfl (fun _ _ _ _ _ _ us hl => match us, hl with | [_, _], _ => rfl) fun cdv A outer s H E hr => by
  have hN : N_ltold.Nodup := sc_ltold.nd
  exact (DSs.one (DS.ret (DE.and_ (DE.isinst (by rfl) n_isinstance (by rfl) n_bool (by rfl) (by decide) (DE.var 0)) (DE.bop1 (DE.eqX (u65 hr) (DE.var 0) (DE.var 1))))))
theorem ok_ltables (n_len : mg "len" = none)  (c_lmix : CalleeK P w K mg base ec "_law_mix" 1 2 [] r_lmix) (c_lnames : CalleeK P w K mg base ec "_law_names" 2 2 [] r_lnames) {f : Addr} {fd : FuncData} (D : DefAt K mg "_law_tables" s_ltables f fd) : CalleeK P w K mg base ec "_law_tables" 3 2 [] r_ltables :=
  def_callee (k := 2) (g := g_ltables) D sc_ltables rfl (fun _ _ _ _ _ _ us hl => match us, hl with | [_, _], _ => rfl) fun cdv A outer s H E hr => by
  have hN : N_ltables.Nodup := sc_ltables.nd
  exact (DSs.cons (DS.set 2 hN (DE.lst DA.nil))
    (DSs.cons (DS.for_ (passes_of rfl) rfl (DI.seq (DE.call ⟨c_lnames.ex⟩ (hr.mono (by decide)) (takes_of rfl rfl rfl rfl) (by rfl) (DA.cons (DE.var 0) (DA.cons (DE.var 1) DA.nil)))) (DG.name 3 hN) (DSs.freeze 3 (DSs.one (DS.exprX (DX.meth 2 PySem.F.slot_list_append PySem.F.type_list_append mt_append own_append (DA.cons (DE.tup (DA.cons (DE.var 3) (DA.cons (DE.add DE.int (DE.mod (DE.call ⟨c_lmix.ex⟩ (hr.mono (by decide)) (takes_of rfl rfl rfl rfl) (by rfl) (DA.cons (DE.var 0) (DA.cons (DE.add DE.int (DE.len (by rfl) n_len (DA.cons (DE.var 2) DA.nil))) DA.nil))) DE.int)) DA.nil))) DA.nil))))))
    (DSs.one (DS.retVar 2))))
theorem okf_law (n_list : mg "list" = none) (n_range : mg "range" = none)  (c_lalternative : CalleeK P w K mg base ec "_law_alternative" 4 5 [] r_lalternative) (c_lcell : CalleeK P w K mg base ec "_law_cell" 1 2 [] r_lcell) (c_lmix : CalleeK P w K mg base ec "_law_mix" 1 2 [] r_lmix) (c_lnames : CalleeK P w K mg base ec "_law_names" 2 2 [] r_lnames) (c_ltables : CalleeK P w K mg base ec "_law_tables" 3 2 [] r_ltables) (c_ltold : CalleeK P w K mg base ec "_law_told" 1 2 [] r_ltold) (c_lwrong : CalleeK P w K mg base ec "_law_wrong" 2 3 [] r_lwrong) (c_is_question : CalleeK P w K mg base ec "is_question" 7 1 [] r_is_question) {f : Addr} {fd : FuncData} (D : DefAt K mg "law" s_law f fd) : FnOk P w K mg base (L2.CX P w) 8 f fd ["_law_script"] (SPc K ec 1 r_law) :=
  def_fn (k := 7) (g := g_law) D sc_law rfl fun cdv A outer s H E hr => by
  have hN : N_law.Nodup := sc_law.nd
  exact (DSs.cons (DS.set 1 hN (DE.call ⟨c_lcell.ex⟩ (hr.mono (by decide)) (takes_of rfl rfl rfl rfl) (by rfl) (DA.cons (DE.var 0) (DA.cons DE.int DA.nil))))
    (DSs.cons (DS.set 2 hN (DE.call ⟨c_lnames.ex⟩ (hr.mono (by decide)) (takes_of rfl rfl rfl rfl) (by rfl) (DA.cons (DE.call ⟨c_lcell.ex⟩ (hr.mono (by decide)) (takes_of rfl rfl rfl rfl) (by rfl) (DA.cons (DE.var 0) (DA.cons DE.int DA.nil))) (DA.cons DE.int DA.nil))))
    (DSs.cons (DS.set 3 hN (DE.call ⟨c_ltables.ex⟩ (hr.mono (by decide)) (takes_of rfl rfl rfl rfl) (by rfl) (DA.cons (DE.var 1) (DA.cons DE.int DA.nil))))
    (DSs.cons (DS.set 4 hN (DE.mod (DE.call ⟨c_lmix.ex⟩ (hr.mono (by decide)) (takes_of rfl rfl rfl rfl) (by rfl) (DA.cons (DE.var 1) (DA.cons DE.int DA.nil))) DE.int))
    (DSs.cons (DS.set 5 hN (DE.lst DA.nil))
    (DSs.cons (DS.for_ (passes_of rfl) rfl (DI.range1 (by rfl) n_range (DA.cons (DE.mod (DE.call ⟨c_lmix.ex⟩ (hr.mono (by decide)) (takes_of rfl rfl rfl rfl) (by rfl) (DA.cons (DE.var 1) (DA.cons DE.int DA.nil))) DE.int) DA.nil)) (DG.name 6 hN) (DSs.one (DS.exprX (DX.meth 5 PySem.F.slot_list_append PySem.F.type_list_append mt_append own_append (DA.cons (DE.call ⟨c_lalternative.ex⟩ (hr.mono (by decide)) (takes_of rfl rfl rfl rfl) (by rfl) (DA.cons (DE.var 0) (DA.cons (DE.add DE.int (DE.mul DE.int (DE.var 6))) (DA.cons (DE.var 3) (DA.cons (DE.var 2) (DA.cons (DE.var 4) DA.nil)))))) DA.nil)))))
    (DSs.cons (DS.set 7 hN (DE.listX rfl (by rfl) n_list (DA.cons (DE.var 5) DA.nil)))
    (DSs.cons (DS.if_ (DW.or_ (DT.not_ (DT.val (DE.call ⟨c_ltold.ex⟩ (hr.mono (by decide)) (takes_of rfl rfl rfl rfl) (by rfl) (DA.cons (DE.call ⟨c_is_question.ex⟩ (hr.mono (by decide)) (takes_of rfl rfl rfl rfl) (by rfl) (DA.cons (DE.var 5) DA.nil)) (DA.cons DE.bl DA.nil))))) (DW.or1 (DT.neX (u65 hr) (DE.var 5) (DE.var 7)))).t (DSs.one (DS.ret DE.bl)) DSs.nil)
    (DSs.cons (DS.for_ (passes_of rfl) rfl (DI.seq (DE.add (DE.lst (DA.cons (DE.call ⟨c_lcell.ex⟩ (hr.mono (by decide)) (takes_of rfl rfl rfl rfl) (by rfl) (DA.cons (DE.var 0) (DA.cons DE.int DA.nil))) DA.nil)) (DE.slice (DE.var 0) (DP.some DE.int) (DP.some DE.int)))) (DG.name 8 hN) (DSs.cons (DS.set 9 hN (DE.call ⟨c_lwrong.ex⟩ (hr.mono (by decide)) (takes_of rfl rfl rfl rfl) (by rfl) (DA.cons (DE.var 5) (DA.cons (DE.var 4) (DA.cons (DE.var 8) DA.nil)))))
    (DSs.one (DS.if_ (DT.not_ (DT.val (DE.call ⟨c_ltold.ex⟩ (hr.mono (by decide)) (takes_of rfl rfl rfl rfl) (by rfl) (DA.cons (DE.call ⟨c_is_question.ex⟩ (hr.mono (by decide)) (takes_of rfl rfl rfl rfl) (by rfl) (DA.cons (DE.var 9) DA.nil)) (DA.cons DE.bl DA.nil))))) (DSs.one (DS.ret DE.bl)) DSs.nil))))
    (DSs.cons (DS.for_ (passes_of rfl) rfl (DI.seq (DE.lst (DA.cons DE.non (DA.cons DE.bl (DA.cons DE.int (DA.cons DE.str (DA.cons (DE.frz DE.dnew) (DA.cons (DE.tup DA.nil) (DA.cons (DE.tup (DA.cons (DE.tup DA.nil) (DA.cons (DE.tup DA.nil) DA.nil))) (DA.cons (DE.frz (DE.lst (DA.cons (DE.frz (DE.lst DA.nil)) DA.nil))) (DA.cons (DE.frz (DE.lst (DA.cons (DE.tup DA.nil) DA.nil))) (DA.cons (DE.frz (DE.lst (DA.cons DE.non DA.nil))) DA.nil)))))))))))) (DG.name 10 hN) (DSs.one (DS.if_ (DT.not_ (DT.val (DE.call ⟨c_ltold.ex⟩ (hr.mono (by decide)) (takes_of rfl rfl rfl rfl) (by rfl) (DA.cons (DE.call ⟨c_is_question.ex⟩ (hr.mono (by decide)) (takes_of rfl rfl rfl rfl) (by rfl) (DA.cons (DE.var 10) DA.nil)) (DA.cons DE.bl DA.nil))))) (DSs.one (DS.ret DE.bl)) DSs.nil)))
    (DSs.one (DS.ret (DE.and_ (DE.call ⟨c_ltold.ex⟩ (hr.mono (by decide)) (takes_of rfl rfl rfl rfl) (by rfl) (DA.cons (DE.call ⟨c_is_question.ex⟩ (hr.mono (by decide)) (takes_of rfl rfl rfl rfl) (by rfl) (DA.cons (DE.lst DA.nil) DA.nil)) (DA.cons DE.bl DA.nil))) (DE.bop1 (DE.eqX (u65 hr) (DE.var 5) (DE.var 7))))))))))))))))
end
theorem all_mk {l : PySem.W.OpenLaw} {w : World} {K : PySem.W.Frag} {h : Heap} {mg : Str → Option Value} {fa : Addr} (X : K.In h) (G : h.Ns mainGlobals mg) (hfa : mg "law" = some (.ref fa))
  {f0 : Addr} {od0 an0 : Option Addr} {sl0 : Array (Option Value)} {oc0 kV0 dc0 pm0 cd0 ct0 : Value} (a0 : PySem.W.nsIn K mainGlobals "_law_mix" = some (some (.ref f0))) (l0 : K.lookup f0 = some ⟨oc0, od0, .func (PySem.W.fnOf "_law_mix" "_law_mix" (defArgs s_lmix) (defBody s_lmix) (defScope s_lmix) .none kV0 dc0 pm0 an0 cd0 ct0), sl0⟩) (c0 : PySem.W.codeIn K cd0 "_law_mix" = true) (k0 : PySem.W.keepIn K (.ref f0) = true)
  {f1 : Addr} {od1 an1 : Option Addr} {sl1 : Array (Option Value)} {oc1 kV1 dc1 pm1 cd1 ct1 : Value} (a1 : PySem.W.nsIn K mainGlobals "_law_term" = some (some (.ref f1))) (l1 : K.lookup f1 = some ⟨oc1, od1, .func (PySem.W.fnOf "_law_term" "_law_term" (defArgs s_lterm) (defBody s_lterm) (defScope s_lterm) .none kV1 dc1 pm1 an1 cd1 ct1), sl1⟩) (c1 : PySem.W.codeIn K cd1 "_law_term" = true) (k1 : PySem.W.keepIn K (.ref f1) = true)
  {f2 : Addr} {od2 an2 : Option Addr} {sl2 : Array (Option Value)} {oc2 kV2 dc2 pm2 cd2 ct2 : Value} (a2 : PySem.W.nsIn K mainGlobals "_law_cell" = some (some (.ref f2))) (l2 : K.lookup f2 = some ⟨oc2, od2, .func (PySem.W.fnOf "_law_cell" "_law_cell" (defArgs s_lcell) (defBody s_lcell) (defScope s_lcell) .none kV2 dc2 pm2 an2 cd2 ct2), sl2⟩) (c2 : PySem.W.codeIn K cd2 "_law_cell" = true) (k2 : PySem.W.keepIn K (.ref f2) = true)
  {f3 : Addr} {od3 an3 : Option Addr} {sl3 : Array (Option Value)} {oc3 kV3 dc3 pm3 cd3 ct3 : Value} (a3 : PySem.W.nsIn K mainGlobals "_law_lines" = some (some (.ref f3))) (l3 : K.lookup f3 = some ⟨oc3, od3, .func (PySem.W.fnOf "_law_lines" "_law_lines" (defArgs s_llines) (defBody s_llines) (defScope s_llines) .none kV3 dc3 pm3 an3 cd3 ct3), sl3⟩) (c3 : PySem.W.codeIn K cd3 "_law_lines" = true) (k3 : PySem.W.keepIn K (.ref f3) = true)
  {f4 : Addr} {od4 an4 : Option Addr} {sl4 : Array (Option Value)} {oc4 kV4 dc4 pm4 cd4 ct4 : Value} (a4 : PySem.W.nsIn K mainGlobals "_law_alternative" = some (some (.ref f4))) (l4 : K.lookup f4 = some ⟨oc4, od4, .func (PySem.W.fnOf "_law_alternative" "_law_alternative" (defArgs s_lalternative) (defBody s_lalternative) (defScope s_lalternative) .none kV4 dc4 pm4 an4 cd4 ct4), sl4⟩) (c4 : PySem.W.codeIn K cd4 "_law_alternative" = true) (k4 : PySem.W.keepIn K (.ref f4) = true)
  {f5 : Addr} {od5 an5 : Option Addr} {sl5 : Array (Option Value)} {oc5 kV5 dc5 pm5 cd5 ct5 : Value} (a5 : PySem.W.nsIn K mainGlobals "_law_other_length" = some (some (.ref f5))) (l5 : K.lookup f5 = some ⟨oc5, od5, .func (PySem.W.fnOf "_law_other_length" "_law_other_length" (defArgs s_lother_length) (defBody s_lother_length) (defScope s_lother_length) .none kV5 dc5 pm5 an5 cd5 ct5), sl5⟩) (c5 : PySem.W.codeIn K cd5 "_law_other_length" = true) (k5 : PySem.W.keepIn K (.ref f5) = true)
  {f6 : Addr} {od6 an6 : Option Addr} {sl6 : Array (Option Value)} {oc6 kV6 dc6 pm6 cd6 ct6 : Value} (a6 : PySem.W.nsIn K mainGlobals "_law_other_width" = some (some (.ref f6))) (l6 : K.lookup f6 = some ⟨oc6, od6, .func (PySem.W.fnOf "_law_other_width" "_law_other_width" (defArgs s_lother_width) (defBody s_lother_width) (defScope s_lother_width) .none kV6 dc6 pm6 an6 cd6 ct6), sl6⟩) (c6 : PySem.W.codeIn K cd6 "_law_other_width" = true) (k6 : PySem.W.keepIn K (.ref f6) = true)
  {f7 : Addr} {od7 an7 : Option Addr} {sl7 : Array (Option Value)} {oc7 kV7 dc7 pm7 cd7 ct7 : Value} (a7 : PySem.W.nsIn K mainGlobals "_law_wrong" = some (some (.ref f7))) (l7 : K.lookup f7 = some ⟨oc7, od7, .func (PySem.W.fnOf "_law_wrong" "_law_wrong" (defArgs s_lwrong) (defBody s_lwrong) (defScope s_lwrong) .none kV7 dc7 pm7 an7 cd7 ct7), sl7⟩) (c7 : PySem.W.codeIn K cd7 "_law_wrong" = true) (k7 : PySem.W.keepIn K (.ref f7) = true)
  {f8 : Addr} {od8 an8 : Option Addr} {sl8 : Array (Option Value)} {oc8 kV8 dc8 pm8 cd8 ct8 : Value} (a8 : PySem.W.nsIn K mainGlobals "_law_names" = some (some (.ref f8))) (l8 : K.lookup f8 = some ⟨oc8, od8, .func (PySem.W.fnOf "_law_names" "_law_names" (defArgs s_lnames) (defBody s_lnames) (defScope s_lnames) .none kV8 dc8 pm8 an8 cd8 ct8), sl8⟩) (c8 : PySem.W.codeIn K cd8 "_law_names" = true) (k8 : PySem.W.keepIn K (.ref f8) = true)
  {f9 : Addr} {od9 an9 : Option Addr} {sl9 : Array (Option Value)} {oc9 kV9 dc9 pm9 cd9 ct9 : Value} (a9 : PySem.W.nsIn K mainGlobals "tables_of" = some (some (.ref f9))) (l9 : K.lookup f9 = some ⟨oc9, od9, .func (PySem.W.fnOf "tables_of" "tables_of" (defArgs s_tables_of) (defBody s_tables_of) (defScope s_tables_of) .none kV9 dc9 pm9 an9 cd9 ct9), sl9⟩) (c9 : PySem.W.codeIn K cd9 "tables_of" = true) (k9 : PySem.W.keepIn K (.ref f9) = true)
  {f10 : Addr} {od10 an10 : Option Addr} {sl10 : Array (Option Value)} {oc10 kV10 dc10 pm10 cd10 ct10 : Value} (a10 : PySem.W.nsIn K mainGlobals "one_width" = some (some (.ref f10))) (l10 : K.lookup f10 = some ⟨oc10, od10, .func (PySem.W.fnOf "one_width" "one_width" (defArgs s_one_width) (defBody s_one_width) (defScope s_one_width) .none kV10 dc10 pm10 an10 cd10 ct10), sl10⟩) (c10 : PySem.W.codeIn K cd10 "one_width" = true) (k10 : PySem.W.keepIn K (.ref f10) = true)
  {f11 : Addr} {od11 an11 : Option Addr} {sl11 : Array (Option Value)} {oc11 kV11 dc11 pm11 cd11 ct11 : Value} (a11 : PySem.W.nsIn K mainGlobals "is_name" = some (some (.ref f11))) (l11 : K.lookup f11 = some ⟨oc11, od11, .func (PySem.W.fnOf "is_name" "is_name" (defArgs s_is_name) (defBody s_is_name) (defScope s_is_name) .none kV11 dc11 pm11 an11 cd11 ct11), sl11⟩) (c11 : PySem.W.codeIn K cd11 "is_name" = true) (k11 : PySem.W.keepIn K (.ref f11) = true)
  {f12 : Addr} {od12 an12 : Option Addr} {sl12 : Array (Option Value)} {oc12 kV12 dc12 pm12 cd12 ct12 : Value} (a12 : PySem.W.nsIn K mainGlobals "is_whole" = some (some (.ref f12))) (l12 : K.lookup f12 = some ⟨oc12, od12, .func (PySem.W.fnOf "is_whole" "is_whole" (defArgs s_is_whole) (defBody s_is_whole) (defScope s_is_whole) .none kV12 dc12 pm12 an12 cd12 ct12), sl12⟩) (c12 : PySem.W.codeIn K cd12 "is_whole" = true) (k12 : PySem.W.keepIn K (.ref f12) = true)
  {f13 : Addr} {od13 an13 : Option Addr} {sl13 : Array (Option Value)} {oc13 kV13 dc13 pm13 cd13 ct13 : Value} (a13 : PySem.W.nsIn K mainGlobals "is_number" = some (some (.ref f13))) (l13 : K.lookup f13 = some ⟨oc13, od13, .func (PySem.W.fnOf "is_number" "is_number" (defArgs s_is_number) (defBody s_is_number) (defScope s_is_number) .none kV13 dc13 pm13 an13 cd13 ct13), sl13⟩) (c13 : PySem.W.codeIn K cd13 "is_number" = true) (k13 : PySem.W.keepIn K (.ref f13) = true)
  {f14 : Addr} {od14 an14 : Option Addr} {sl14 : Array (Option Value)} {oc14 kV14 dc14 pm14 cd14 ct14 : Value} (a14 : PySem.W.nsIn K mainGlobals "is_term" = some (some (.ref f14))) (l14 : K.lookup f14 = some ⟨oc14, od14, .func (PySem.W.fnOf "is_term" "is_term" (defArgs s_is_term) (defBody s_is_term) (defScope s_is_term) .none kV14 dc14 pm14 an14 cd14 ct14), sl14⟩) (c14 : PySem.W.codeIn K cd14 "is_term" = true) (k14 : PySem.W.keepIn K (.ref f14) = true)
  {f15 : Addr} {od15 an15 : Option Addr} {sl15 : Array (Option Value)} {oc15 kV15 dc15 pm15 cd15 ct15 : Value} (a15 : PySem.W.nsIn K mainGlobals "all_terms" = some (some (.ref f15))) (l15 : K.lookup f15 = some ⟨oc15, od15, .func (PySem.W.fnOf "all_terms" "all_terms" (defArgs s_all_terms) (defBody s_all_terms) (defScope s_all_terms) .none kV15 dc15 pm15 an15 cd15 ct15), sl15⟩) (c15 : PySem.W.codeIn K cd15 "all_terms" = true) (k15 : PySem.W.keepIn K (.ref f15) = true)
  {f16 : Addr} {od16 an16 : Option Addr} {sl16 : Array (Option Value)} {oc16 kV16 dc16 pm16 cd16 ct16 : Value} (a16 : PySem.W.nsIn K mainGlobals "is_line" = some (some (.ref f16))) (l16 : K.lookup f16 = some ⟨oc16, od16, .func (PySem.W.fnOf "is_line" "is_line" (defArgs s_is_line) (defBody s_is_line) (defScope s_is_line) .none kV16 dc16 pm16 an16 cd16 ct16), sl16⟩) (c16 : PySem.W.codeIn K cd16 "is_line" = true) (k16 : PySem.W.keepIn K (.ref f16) = true)
  {f17 : Addr} {od17 an17 : Option Addr} {sl17 : Array (Option Value)} {oc17 kV17 dc17 pm17 cd17 ct17 : Value} (a17 : PySem.W.nsIn K mainGlobals "names_of" = some (some (.ref f17))) (l17 : K.lookup f17 = some ⟨oc17, od17, .func (PySem.W.fnOf "names_of" "names_of" (defArgs s_names_of) (defBody s_names_of) (defScope s_names_of) .none kV17 dc17 pm17 an17 cd17 ct17), sl17⟩) (c17 : PySem.W.codeIn K cd17 "names_of" = true) (k17 : PySem.W.keepIn K (.ref f17) = true)
  {f18 : Addr} {od18 an18 : Option Addr} {sl18 : Array (Option Value)} {oc18 kV18 dc18 pm18 cd18 ct18 : Value} (a18 : PySem.W.nsIn K mainGlobals "is_alternative" = some (some (.ref f18))) (l18 : K.lookup f18 = some ⟨oc18, od18, .func (PySem.W.fnOf "is_alternative" "is_alternative" (defArgs s_is_alternative) (defBody s_is_alternative) (defScope s_is_alternative) .none kV18 dc18 pm18 an18 cd18 ct18), sl18⟩) (c18 : PySem.W.codeIn K cd18 "is_alternative" = true) (k18 : PySem.W.keepIn K (.ref f18) = true)
  {f19 : Addr} {od19 an19 : Option Addr} {sl19 : Array (Option Value)} {oc19 kV19 dc19 pm19 cd19 ct19 : Value} (a19 : PySem.W.nsIn K mainGlobals "is_question" = some (some (.ref f19))) (l19 : K.lookup f19 = some ⟨oc19, od19, .func (PySem.W.fnOf "is_question" "is_question" (defArgs s_is_question) (defBody s_is_question) (defScope s_is_question) .none kV19 dc19 pm19 an19 cd19 ct19), sl19⟩) (c19 : PySem.W.codeIn K cd19 "is_question" = true) (k19 : PySem.W.keepIn K (.ref f19) = true)
  {f20 : Addr} {od20 an20 : Option Addr} {sl20 : Array (Option Value)} {oc20 kV20 dc20 pm20 cd20 ct20 : Value} (a20 : PySem.W.nsIn K mainGlobals "_law_told" = some (some (.ref f20))) (l20 : K.lookup f20 = some ⟨oc20, od20, .func (PySem.W.fnOf "_law_told" "_law_told" (defArgs s_ltold) (defBody s_ltold) (defScope s_ltold) .none kV20 dc20 pm20 an20 cd20 ct20), sl20⟩) (c20 : PySem.W.codeIn K cd20 "_law_told" = true) (k20 : PySem.W.keepIn K (.ref f20) = true)
  {f21 : Addr} {od21 an21 : Option Addr} {sl21 : Array (Option Value)} {oc21 kV21 dc21 pm21 cd21 ct21 : Value} (a21 : PySem.W.nsIn K mainGlobals "_law_tables" = some (some (.ref f21))) (l21 : K.lookup f21 = some ⟨oc21, od21, .func (PySem.W.fnOf "_law_tables" "_law_tables" (defArgs s_ltables) (defBody s_ltables) (defScope s_ltables) .none kV21 dc21 pm21 an21 cd21 ct21), sl21⟩) (c21 : PySem.W.codeIn K cd21 "_law_tables" = true) (k21 : PySem.W.keepIn K (.ref f21) = true)
  {f22 : Addr} {od22 an22 : Option Addr} {sl22 : Array (Option Value)} {oc22 kV22 dc22 pm22 cd22 ct22 : Value} (a22 : PySem.W.nsIn K mainGlobals "law" = some (some (.ref f22))) (l22 : K.lookup f22 = some ⟨oc22, od22, .func (PySem.W.fnOf "law" "law" (defArgs s_law) (defBody s_law) (defScope s_law) .none kV22 dc22 pm22 an22 cd22 ct22), sl22⟩) (c22 : PySem.W.codeIn K cd22 "law" = true) (k22 : PySem.W.keepIn K (.ref f22) = true)
  (z_abs : PySem.W.nsIn K mainGlobals "abs" = some none)
  (z_bool : PySem.W.nsIn K mainGlobals "bool" = some none)
  (z_int : PySem.W.nsIn K mainGlobals "int" = some none)
  (z_isinstance : PySem.W.nsIn K mainGlobals "isinstance" = some none)
  (z_len : PySem.W.nsIn K mainGlobals "len" = some none)
  (z_list : PySem.W.nsIn K mainGlobals "list" = some none)
  (z_range : PySem.W.nsIn K mainGlobals "range" = some none)
  (z_set : PySem.W.nsIn K mainGlobals "set" = some none)
  (z_sorted : PySem.W.nsIn K mainGlobals "sorted" = some none)
  (z_str : PySem.W.nsIn K mainGlobals "str" = some none)
  (z_tuple : PySem.W.nsIn K mainGlobals "tuple" = some none)
  {u_FIGURES : Value} (y_FIGURES : PySem.W.nsIn K mainGlobals "FIGURES" = some (some u_FIGURES)) (v_FIGURES : RelV (.str "0123456789") u_FIGURES)
  {u_LETTERS : Value} (y_LETTERS : PySem.W.nsIn K mainGlobals "LETTERS" = some (some u_LETTERS)) (v_LETTERS : RelV (.str "abcdefghijklmnopqrstuvwxyz") u_LETTERS)
  : ∃ fd : FuncData, (∀ (s : Shared) (u : Value), BindsTo s fd ⟨[u], []⟩ [("_law_script", u)]) ∧ ∃ ec : Nat → Addr, ∀ base : Heap, K.In base → base.Ns mainGlobals mg → FnOk l.prog w K mg base (L2.CX l.prog w) 8 fa fd ["_law_script"] (SPc K ec 1 r_law) := by
  have e := hfa.symm.trans (PySem.W.mg_of X G a22)
  cases e
  refine ⟨PySem.W.fnOf "law" "law" (defArgs s_law) (defBody s_law) (defScope s_law) .none kV22 dc22 pm22 an22 cd22 ct22, fun s v => .of_eq rfl, fun _ => 0, fun base _ _ => ?_⟩
  have n_abs := PySem.W.mg_none_of X G z_abs
  have n_bool := PySem.W.mg_none_of X G z_bool
  have n_int := PySem.W.mg_none_of X G z_int
  have n_isinstance := PySem.W.mg_none_of X G z_isinstance
  have n_len := PySem.W.mg_none_of X G z_len
  have n_list := PySem.W.mg_none_of X G z_list
  have n_range := PySem.W.mg_none_of X G z_range
  have n_set := PySem.W.mg_none_of X G z_set
  have n_sorted := PySem.W.mg_none_of X G z_sorted
  have n_str := PySem.W.mg_none_of X G z_str
  have n_tuple := PySem.W.mg_none_of X G z_tuple
  have g_FIGURES : GlV mg "FIGURES" (.str "0123456789") := ⟨u_FIGURES, PySem.W.mg_of X G y_FIGURES, v_FIGURES⟩
  have g_LETTERS : GlV mg "LETTERS" (.str "abcdefghijklmnopqrstuvwxyz") := ⟨u_LETTERS, PySem.W.mg_of X G y_LETTERS, v_LETTERS⟩
  have c_lmix : CalleeK l.prog w K mg base (fun _ => 0) "_law_mix" 1 2 [] r_lmix := ok_lmix    ⟨fun_mk (st := s_lmix) l0 c0 k0, PySem.W.mg_of X G a0⟩
  have c_lterm : CalleeK l.prog w K mg base (fun _ => 0) "_law_term" 2 2 [] r_lterm := ok_lterm n_len  c_lmix ⟨fun_mk (st := s_lterm) l1 c1 k1, PySem.W.mg_of X G a1⟩
  have c_lcell : CalleeK l.prog w K mg base (fun _ => 0) "_law_cell" 1 2 [] r_lcell := ok_lcell n_len   ⟨fun_mk (st := s_lcell) l2 c2 k2, PySem.W.mg_of X G a2⟩
  have c_llines : CalleeK l.prog w K mg base (fun _ => 0) "_law_lines" 3 5 [] r_llines := ok_llines n_len n_range n_tuple  c_lcell c_lmix c_lterm ⟨fun_mk (st := s_llines) l3 c3 k3, PySem.W.mg_of X G a3⟩
  have c_lalternative : CalleeK l.prog w K mg base (fun _ => 0) "_law_alternative" 4 5 [] r_lalternative := ok_lalternative n_len n_range n_tuple  c_lcell c_llines c_lmix ⟨fun_mk (st := s_lalternative) l4 c4 k4, PySem.W.mg_of X G a4⟩
  have c_lother_length : CalleeK l.prog w K mg base (fun _ => 0) "_law_other_length" 1 1 [] r_lother_length := ok_lother_length    ⟨fun_mk (st := s_lother_length) l5 c5 k5, PySem.W.mg_of X G a5⟩
  have c_lother_width : CalleeK l.prog w K mg base (fun _ => 0) "_law_other_width" 1 2 [] r_lother_width := ok_lother_width n_len   ⟨fun_mk (st := s_lother_width) l6 c6 k6, PySem.W.mg_of X G a6⟩
  have c_lwrong : CalleeK l.prog w K mg base (fun _ => 0) "_law_wrong" 2 3 [] r_lwrong := ok_lwrong n_len n_tuple  c_lmix c_lother_length c_lother_width ⟨fun_mk (st := s_lwrong) l7 c7 k7, PySem.W.mg_of X G a7⟩
  have c_lnames : CalleeK l.prog w K mg base (fun _ => 0) "_law_names" 2 2 [] r_lnames := ok_lnames n_int n_range  c_lmix ⟨fun_mk (st := s_lnames) l8 c8 k8, PySem.W.mg_of X G a8⟩
  have c_tables_of : CalleeK l.prog w K mg base (fun _ => 0) "tables_of" 1 1 [] r_tables_of := ok_tables_of n_len n_set n_sorted   ⟨fun_mk (st := s_tables_of) l9 c9 k9, PySem.W.mg_of X G a9⟩
  have c_one_width : CalleeK l.prog w K mg base (fun _ => 0) "one_width" 2 1 [] r_one_width := ok_one_width n_len n_set  c_tables_of ⟨fun_mk (st := s_one_width) l10 c10 k10, PySem.W.mg_of X G a10⟩
  have c_is_name : CalleeK l.prog w K mg base (fun _ => 0) "is_name" 1 1 [] r_is_name := ok_is_name n_isinstance n_len n_str g_FIGURES g_LETTERS  ⟨fun_mk (st := s_is_name) l11 c11 k11, PySem.W.mg_of X G a11⟩
  have c_is_whole : CalleeK l.prog w K mg base (fun _ => 0) "is_whole" 1 1 [] r_is_whole := ok_is_whole n_bool n_int n_isinstance   ⟨fun_mk (st := s_is_whole) l12 c12 k12, PySem.W.mg_of X G a12⟩
  have c_is_number : CalleeK l.prog w K mg base (fun _ => 0) "is_number" 2 1 [] r_is_number := ok_is_number n_abs  c_is_whole ⟨fun_mk (st := s_is_number) l13 c13 k13, PySem.W.mg_of X G a13⟩
  have c_is_term : CalleeK l.prog w K mg base (fun _ => 0) "is_term" 3 1 [] r_is_term := ok_is_term   c_is_name c_is_number ⟨fun_mk (st := s_is_term) l14 c14 k14, PySem.W.mg_of X G a14⟩
  have c_all_terms : CalleeK l.prog w K mg base (fun _ => 0) "all_terms" 4 1 [] r_all_terms := ok_all_terms   c_is_term ⟨fun_mk (st := s_all_terms) l15 c15 k15, PySem.W.mg_of X G a15⟩
  have c_is_line : CalleeK l.prog w K mg base (fun _ => 0) "is_line" 5 1 [] r_is_line := ok_is_line n_isinstance n_len n_tuple  c_all_terms c_is_name ⟨fun_mk (st := s_is_line) l16 c16 k16, PySem.W.mg_of X G a16⟩
  have c_names_of : CalleeK l.prog w K mg base (fun _ => 0) "names_of" 1 1 [] r_names_of := ok_names_of n_isinstance n_str   ⟨fun_mk (st := s_names_of) l17 c17 k17, PySem.W.mg_of X G a17⟩
  have c_is_alternative : CalleeK l.prog w K mg base (fun _ => 0) "is_alternative" 6 1 [] r_is_alternative := ok_is_alternative n_isinstance n_len n_str n_tuple  c_all_terms c_is_line c_names_of c_one_width ⟨fun_mk (st := s_is_alternative) l18 c18 k18, PySem.W.mg_of X G a18⟩
  have c_is_question : CalleeK l.prog w K mg base (fun _ => 0) "is_question" 7 1 [] r_is_question := ok_is_question n_isinstance n_len n_list  c_is_alternative c_one_width ⟨fun_mk (st := s_is_question) l19 c19 k19, PySem.W.mg_of X G a19⟩
  have c_ltold : CalleeK l.prog w K mg base (fun _ => 0) "_law_told" 1 2 [] r_ltold := ok_ltold n_bool n_isinstance   ⟨fun_mk (st := s_ltold) l20 c20 k20, PySem.W.mg_of X G a20⟩
  have c_ltables : CalleeK l.prog w K mg base (fun _ => 0) "_law_tables" 3 2 [] r_ltables := ok_ltables n_len  c_lmix c_lnames ⟨fun_mk (st := s_ltables) l21 c21 k21, PySem.W.mg_of X G a21⟩
  exact okf_law n_list n_range  c_lalternative c_lcell c_lmix c_lnames c_ltables c_ltold c_lwrong c_is_question ⟨fun_mk (st := s_law) l22 c22 k22, PySem.W.mg_of X G a22⟩
end K06

set_option maxHeartbeats 4000000
namespace K06
open PySem PySem.Spec L2 VS
open PyProof.Rows hiding St
theorem r_cell_ex (ns : List Int) (k : Int) (h0 : 0 ≤ k) (h1 : k < 1000000) : ∃ v, r_lcell [.lst .fzn (ns.map T.int), .int k] = .ok (.int v) := by
  unfold r_lcell g_lcell
  simp (disch := first | assumption | omega | (simp [-getElem?_pos, -List.getD_eq_getElem?_getD] <;> omega) | fail) [-getElem?_pos, -List.getD_eq_getElem?_getD]
  by_cases c : k < ns.length
  · simp (disch := first | assumption | omega | (simp [-getElem?_pos, -List.getD_eq_getElem?_getD] <;> omega) | fail) [-getElem?_pos, -List.getD_eq_getElem?_getD, c, ixT_ints]
  · simp (disch := first | assumption | omega | (simp [-getElem?_pos, -List.getD_eq_getElem?_getD] <;> omega) | fail) [-getElem?_pos, -List.getD_eq_getElem?_getD, c, mulT_r]
    by_cases e : 0 < (ns.length : Int)
    · have h2 : 0 ≤ k * 7 % (ns.length : Int) := Int.emod_nonneg _ (by omega)
      have h3 : k * 7 % (ns.length : Int) < ns.length := Int.emod_lt_of_pos _ e
      have e1 : 0 < ns.length := by omega
      simp (disch := first | assumption | omega | (simp [-getElem?_pos, -List.getD_eq_getElem?_getD] <;> omega) | fail) [-getElem?_pos, -List.getD_eq_getElem?_getD, e, e1, mulT_r, modT_ok, ixT_ints]
    · have e1 : ¬ 0 < ns.length := by omega
      simp (disch := first | assumption | omega | (simp [-getElem?_pos, -List.getD_eq_getElem?_getD] <;> omega) | fail) [-getElem?_pos, -List.getD_eq_getElem?_getD, e, e1, mulT_r, modT_ok]
noncomputable def cellI (ns : List Int) (k : Int) : Int := if h : 0 ≤ k ∧ k < 1000000 then Classical.choose (r_cell_ex ns k h.1 h.2) else 0
theorem r_cell (ns : List Int) (k : Int) (h0 : 0 ≤ k) (h1 : k < 1000000) : r_lcell [.lst .fzn (ns.map T.int), .int k] = .ok (.int (cellI ns k)) := by
  unfold cellI
  rw [dif_pos ⟨h0, h1⟩]
  exact Classical.choose_spec (r_cell_ex ns k h0 h1)
theorem r_mix_ex (c k : Int) (h0 : 0 ≤ k) (h1 : k < 1000) : ∃ v, r_lmix [.int c, .int k] = .ok (.int v) ∧ 0 ≤ v ∧ v < 2147483587 := by
  have s0 : 0 ≤ k * k := Int.mul_nonneg h0 h0
  have s1 : k * k ≤ 999 * 999 := Int.mul_le_mul (by omega) (by omega) h0 (by omega)
  unfold r_lmix g_lmix
  simp (disch := first | assumption | omega | (simp [-getElem?_pos, -List.getD_eq_getElem?_getD] <;> omega) | fail) [-getElem?_pos, -List.getD_eq_getElem?_getD, mulT_r, modT_ok]
  have m0 : 0 ≤ (c % 2147483647 * 48271 + k * k * 69621 + k + 11) % 2147483629 := Int.emod_nonneg _ (by omega)
  have m1 : (c % 2147483647 * 48271 + k * k * 69621 + k + 11) % 2147483629 < 2147483629 := Int.emod_lt_of_pos _ (by omega)
  exact ⟨Int.emod_nonneg _ (by omega), Int.emod_lt_of_pos _ (by omega)⟩
noncomputable def mixI (c k : Int) : Int := if h : 0 ≤ k ∧ k < 1000 then Classical.choose (r_mix_ex c k h.1 h.2) else 0
theorem r_mix (c k : Int) (h0 : 0 ≤ k) (h1 : k < 1000) : r_lmix [.int c, .int k] = .ok (.int (mixI c k)) := by
  unfold mixI
  rw [dif_pos ⟨h0, h1⟩]
  exact (Classical.choose_spec (r_mix_ex c k h0 h1)).1
theorem mix_nn (c k : Int) : 0 ≤ mixI c k := by
  unfold mixI
  split
  · rename_i h; exact (Classical.choose_spec (r_mix_ex c k h.1 h.2)).2.1
  · omega
theorem mix_lt (c k : Int) : mixI c k < 2147483587 := by
  unfold mixI
  split
  · rename_i h; exact (Classical.choose_spec (r_mix_ex c k h.1 h.2)).2.2
  · omega
def isL (c : Nat) : Bool := decide (97 ≤ c ∧ c ≤ 122)
def isF (c : Nat) : Bool := decide (48 ≤ c ∧ c ≤ 57)
theorem mem_letters (c : Nat) : c ∈ ("abcdefghijklmnopqrstuvwxyz" : Str).cps.toList ↔ isL c = true := by
  have e : ("abcdefghijklmnopqrstuvwxyz" : Str).cps.toList = (List.range 26).map (97 + ·) := by decide +kernel
  rw [e, List.mem_map]
  simp only [List.mem_range, isL, decide_eq_true_eq]
  constructor
  · rintro ⟨a, h, rfl⟩; omega
  · intro h; exact ⟨c - 97, by omega, by omega⟩
theorem mem_figures (c : Nat) : c ∈ ("0123456789" : Str).cps.toList ↔ isF c = true := by
  have e : ("0123456789" : Str).cps.toList = (List.range 10).map (48 + ·) := by decide +kernel
  rw [e, List.mem_map]
  simp only [List.mem_range, isF, decide_eq_true_eq]
  constructor
  · rintro ⟨a, h, rfl⟩; omega
  · intro h; exact ⟨c - 48, by omega, by omega⟩
theorem in_letters (c : Nat) : inO (.str ⟨#[c]⟩) (.str "abcdefghijklmnopqrstuvwxyz") = some (.bl (isL c)) := by
  have : inT (.str ⟨#[c]⟩) (.str "abcdefghijklmnopqrstuvwxyz") = some (decide (c ∈ ("abcdefghijklmnopqrstuvwxyz" : Str).cps.toList)) := rfl
  rw [inO, this]
  by_cases h : isL c = true
  · rw [h, decide_eq_true ((mem_letters c).mpr h)]; rfl
  · have h2 : isL c = false := by simpa using h
    rw [h2, decide_eq_false (fun m => h ((mem_letters c).mp m))]; rfl
theorem nin_letters (c : Nat) : ninO (.str ⟨#[c]⟩) (.str "abcdefghijklmnopqrstuvwxyz") = some (.bl (!isL c)) := by
  have : inT (.str ⟨#[c]⟩) (.str "abcdefghijklmnopqrstuvwxyz") = some (decide (c ∈ ("abcdefghijklmnopqrstuvwxyz" : Str).cps.toList)) := rfl
  rw [ninO, this]
  by_cases h : isL c = true
  · rw [h, decide_eq_true ((mem_letters c).mpr h)]; rfl
  · have h2 : isL c = false := by simpa using h
    rw [h2, decide_eq_false (fun m => h ((mem_letters c).mp m))]; rfl
theorem nin_figures (c : Nat) : ninO (.str ⟨#[c]⟩) (.str "0123456789") = some (.bl (!isF c)) := by
  have : inT (.str ⟨#[c]⟩) (.str "0123456789") = some (decide (c ∈ ("0123456789" : Str).cps.toList)) := rfl
  rw [ninO, this]
  by_cases h : isF c = true
  · rw [h, decide_eq_true ((mem_figures c).mpr h)]; rfl
  · have h2 : isF c = false := by simpa using h
    rw [h2, decide_eq_false (fun m => h ((mem_figures c).mp m))]; rfl
def nameB (S : Str) : Bool := decide (1 ≤ S.length ∧ S.length ≤ 12) && S.cps.toList.all (fun c => isL c || isF c) && isL (S.cps.toList.getD 0 0)
theorem len_cps (S : Str) : S.cps.toList.length = S.length := Array.length_toList
theorem ixT_str0 {S : Str} (h : 0 < S.length) (h2 : S.length ≤ 16777216) : ixT (.str S) (.int 0) = some (.str ⟨#[S.cps.toList.getD 0 0]⟩) := by
  have hl := len_cps S
  cases e : S.cps.toList with
  | nil => rw [e] at hl; simp at hl; omega
  | cons c r =>
    have : ixT (.str S) (.int 0) = (atI S.cps.toList 0).map fun c => .str ⟨#[c]⟩ := by simp [ixT, sizeLine_eq, h2]
    rw [this, e, atI_0]; rfl
@[simp] theorem itemsOf_str (lp : Bool) (S : Str) : itemsOf lp (.str S) = .ok (S.cps.toList.map fun c => .str ⟨#[c]⟩) := id rfl
theorem r_name_str (S : Str) (hS : S.length ≤ 1000) : r_is_name [.str S] = .ok (.bl (nameB S)) := by
  have hl := len_cps S
  unfold r_is_name g_is_name
  by_cases h1 : 1 ≤ S.length ∧ S.length ≤ 12
  · have z1 : (1 : Int) ≤ S.length := by omega
    have z2 : (S.length : Int) ≤ 12 := by omega
    simp (disch := first | assumption | omega | (simp [-getElem?_pos, -List.getD_eq_getElem?_getD, hS] <;> omega) | fail) [-getElem?_pos, -List.getD_eq_getElem?_getD, lenT_str, z1, z2, in_letters, nin_letters, nin_figures]
    refine loopM (P := fun o => bodyR o = .ok (.bl (nameB S))) (fun p env => ∃ u, env = [some (.str S), u] ∧ p.all (fun c => isL c || isF c) = true) ⟨_, rfl, rfl⟩ ?_ ?_
    · rintro p c q env e ⟨u, rfl, hp⟩
      cases a : isL c <;> cases b : isF c <;> simp (disch := first | assumption | omega | (simp [-getElem?_pos, -List.getD_eq_getElem?_getD] <;> omega) | fail) [-getElem?_pos, -List.getD_eq_getElem?_getD, nin_letters, nin_figures, a, b]
      · simp [nameB, e, a, b]
      all_goals simpa using hp
    · rintro env ⟨u, rfl, hp⟩
      have h0 : 0 < S.length := by omega
      have h3 : S.length ≤ 16777216 := by omega
      simp (disch := first | assumption | omega | (simp [-getElem?_pos, -List.getD_eq_getElem?_getD] <;> omega) | fail) [-getElem?_pos, -List.getD_eq_getElem?_getD, ixT_str0, h0, h3, in_letters]
      simp only [nameB, h1, hp, decide_true, Bool.true_and, and_self]
  · have e : nameB S = false := by simp [nameB, h1]
    rw [e]
    by_cases z1 : (1 : Int) ≤ S.length
    · have z2 : ¬ (S.length : Int) ≤ 12 := by omega
      simp (disch := first | assumption | omega | (simp [-getElem?_pos, -List.getD_eq_getElem?_getD, hS] <;> omega) | fail) [-getElem?_pos, -List.getD_eq_getElem?_getD, lenT_str, z1, z2]
    · simp (disch := first | assumption | omega | (simp [-getElem?_pos, -List.getD_eq_getElem?_getD, hS] <;> omega) | fail) [-getElem?_pos, -List.getD_eq_getElem?_getD, lenT_str, z1]
theorem litA : Str.length ("abcdefghijklmnopqrstuvwxyz0123456789" : Str) = 36 := by decide +kernel
theorem litAn : ("abcdefghijklmnopqrstuvwxyz0123456789" : Str).cps.toList.Nodup := by decide +kernel
theorem litAl : ("abcdefghijklmnopqrstuvwxyz0123456789" : Str).cps.toList.length = 36 := by decide +kernel
theorem litA36 : ∀ j, j < 36 → (isL (("abcdefghijklmnopqrstuvwxyz0123456789" : Str).cps.toList.getD j 0) || isF (("abcdefghijklmnopqrstuvwxyz0123456789" : Str).cps.toList.getD j 0)) = true := by
  have : ((List.range 36).all fun j => (isL (("abcdefghijklmnopqrstuvwxyz0123456789" : Str).cps.toList.getD j 0) || isF (("abcdefghijklmnopqrstuvwxyz0123456789" : Str).cps.toList.getD j 0))) = true := by decide +kernel
  exact fun j h => List.all_eq_true.mp this j (List.mem_range.mpr h)
theorem litA26 : ∀ j, j < 26 → isL (("abcdefghijklmnopqrstuvwxyz0123456789" : Str).cps.toList.getD j 0) = true := by
  have : ((List.range 26).all fun j => isL (("abcdefghijklmnopqrstuvwxyz0123456789" : Str).cps.toList.getD j 0)) = true := by decide +kernel
  exact fun j h => List.all_eq_true.mp this j (List.mem_range.mpr h)
structure NamesR (n : Nat) (r : VS.R T) : Prop where
  ex : ∃ ws : List Str, r = .ok (.lst .own (ws.map T.str)) ∧ ws.length = n ∧ ws.Nodup ∧ ∀ w ∈ ws, nameB w = true
structure Ones (n : Nat) (bs : List Str) : Prop where
  len : bs.length = n
  one : ∀ b ∈ bs, b.length = 1
  sg : ∀ b ∈ bs, ∃ c, b = ⟨#[c]⟩ ∧ (isL c || isF c) = true
structure Hd (bs : List Str) : Prop where
  hd : ∀ b, bs[0]? = some b → ∃ c, b = ⟨#[c]⟩ ∧ isL c = true
theorem cps_join : ∀ bs : List Str, (Txt.join "" bs).cps.toList = bs.flatMap fun b => b.cps.toList := fun bs => by
  rw [TL.join_eq]
  induction bs with
  | nil =>
    show (Str.empty).cps.toList = []
    decide +kernel
  | cons x r ih =>
    cases r with
    | nil =>
      show x.cps.toList = _
      simp
    | cons z r =>
      have em : ("" : Str).cps = #[] := by decide +kernel
      show (x ++ ("" : Str) ++ Str.join "" (z :: r)).cps.toList = _
      rw [PySem.Str.cps_append, PySem.Str.cps_append, em, Array.toList_append, ih]
      simp
theorem ones_len : ∀ {bs : List Str}, (∀ b ∈ bs, b.length = 1) → (bs.flatMap fun b => b.cps.toList).length = bs.length
  | [], _ => rfl
  | b :: bs, h => by
    have h1 : b.cps.toList.length = 1 := by have := h b (by simp); simpa [Str.length] using this
    rw [List.flatMap_cons, List.length_append, ones_len fun x m => h x (by simp [m]), h1, List.length_cons]; omega
theorem ones_at : ∀ {bs : List Str} {p : Nat} {ch : Nat}, (∀ b ∈ bs, b.length = 1) → bs[p]? = some ⟨#[ch]⟩ → (bs.flatMap fun b => b.cps.toList)[p]? = some ch
  | [], p, ch, _, e => by simp at e
  | b :: bs, 0, ch, _, e => by
    simp only [List.getElem?_cons_zero, Option.some.injEq] at e
    subst e
    simp
  | b :: bs, p + 1, ch, h, e => by
    have h1 : b.cps.toList.length = 1 := by have := h b (by simp); simpa [Str.length] using this
    have ih := ones_at (bs := bs) (p := p) (ch := ch) (fun x m => h x (by simp [m])) (by simpa using e)
    rw [List.flatMap_cons, List.getElem?_append_right (by omega), h1]
    simpa using ih
theorem nd_map_range {α : Type} {f : Nat → α} : ∀ {n : Nat}, (∀ i j, i < j → j < n → f i ≠ f j) → ((List.range n).map f).Nodup := fun {n} h => by
  rw [List.nodup_iff_pairwise_ne, List.pairwise_map]
  have : (List.range n).Pairwise (· < ·) := List.pairwise_lt_range
  refine List.Pairwise.imp_of_mem (fun {a b} _ mb l => h a b l (List.mem_range.mp mb)) this
theorem A_ne {A : List Nat} (nd : A.Nodup) {i j : Nat} (hi : i < A.length) (hj : j < A.length) (n : i ≠ j) : A.getD i 0 ≠ A.getD j 0 := by
  rw [List.getD_eq_getElem?_getD, List.getD_eq_getElem?_getD, List.getElem?_eq_getElem hi, List.getElem?_eq_getElem hj]
  have pw := List.pairwise_iff_getElem.mp (List.nodup_iff_pairwise_ne.mp nd)
  intro e
  have e : A[i] = A[j] := e
  rcases Nat.lt_or_gt_of_ne n with l | l
  · exact pw i j hi hj l e
  · exact pw j i hj hi l e.symm
theorem nameB_join {z : Nat} {bs : List Str} (o : Ones z bs) (h : Hd bs) (z0 : 0 < z) (z1 : z ≤ 12) : nameB (Txt.join "" bs) = true := by
  have e := cps_join bs
  have l := ones_len o.one
  have lz := o.len
  have ln : (Txt.join "" bs).length = z := by rw [← len_cps, e, l, lz]
  simp only [nameB, Bool.and_eq_true, decide_eq_true_eq]
  refine ⟨⟨⟨by omega, by omega⟩, ?_⟩, ?_⟩
  · rw [e, List.all_eq_true]
    intro c m
    obtain ⟨b, mb, mc⟩ := List.mem_flatMap.mp m
    obtain ⟨d, rfl, hd⟩ := o.sg b mb
    simp at mc
    subst mc
    exact hd
  · rw [e]
    cases bs with
    | nil => simp at lz; omega
    | cons b bs =>
      obtain ⟨d, rfl, hd⟩ := h.hd b rfl
      simpa using hd
theorem r_names (c : Int) (n : Nat) (hn : n ≤ 10) : NamesR n (r_lnames [.int c, .int n]) := by
  unfold r_lnames g_lnames
  have lA := litA
  have nA := litAn
  have kA := litAl
  have a36 := litA36
  have a26 := litA26
  generalize ("abcdefghijklmnopqrstuvwxyz0123456789" : Str) = A at *
  simp (disch := first | assumption | omega | (simp [-getElem?_pos, -List.getD_eq_getElem?_getD, lA] <;> omega) | fail) [-getElem?_pos, -List.getD_eq_getElem?_getD, r_mix, modT_ok]
  have x0 : 0 ≤ mixI c 1 % 12 := Int.emod_nonneg _ (by omega)
  have x1 : mixI c 1 % 12 < 12 := Int.emod_lt_of_pos _ (by omega)
  refine contJ (P := fun o => NamesR n (bodyR o)) (fun e => ∃ z : Nat, e = [some (.int c), some (.int n), some (.str A), some (.int z), none, none, none, none] ∧ 0 < z ∧ z ≤ 12 ∧ (mixI c 2 % 3 = 0 → z = 12)) ?_ ?_
  · by_cases q : mixI c 2 % 3 = 0
    · simp (disch := first | assumption | omega | (simp [-getElem?_pos, -List.getD_eq_getElem?_getD] <;> omega) | fail) [-getElem?_pos, -List.getD_eq_getElem?_getD, q]
      exact ⟨12, rfl, by omega, by omega, rfl⟩
    · simp (disch := first | assumption | omega | (simp [-getElem?_pos, -List.getD_eq_getElem?_getD] <;> omega) | fail) [-getElem?_pos, -List.getD_eq_getElem?_getD, q]
      refine ⟨(1 + mixI c 1 % 12).toNat, ?_, by omega, by omega⟩
      omega
  · rintro e ⟨z, rfl, z0, z1, z12⟩
    have hz : z ≤ 16777216 := by omega
    simp (disch := first | assumption | omega | (simp [-getElem?_pos, -List.getD_eq_getElem?_getD, lA] <;> omega) | fail) [-getElem?_pos, -List.getD_eq_getElem?_getD, rng2_ok, hz]
    have em : Str.length ("" : Str) = 0 := by decide +kernel
    rw [comp_allT (fun k : Nat => .str ⟨#[A.cps.toList.getD (mixI c (30 + k) % 36).toNat 0]⟩)]
    · obtain ⟨bs, hbs, ob⟩ : ∃ bs : List Str, (List.range z).map (fun k : Nat => T.str ⟨#[A.cps.toList.getD (mixI c (30 + k) % 36).toNat 0]⟩) = bs.map T.str ∧ Ones z bs :=
        ⟨(List.range z).map fun k : Nat => ⟨#[A.cps.toList.getD (mixI c (30 + k) % 36).toNat 0]⟩, by rw [List.map_map]; rfl, ⟨by simp, fun b hb => by obtain ⟨k, _, rfl⟩ := List.mem_map.mp hb; rfl, fun b hb => by
          obtain ⟨k, hk, rfl⟩ := List.mem_map.mp hb
          have b0 : 0 ≤ mixI c (30 + k) % 36 := Int.emod_nonneg _ (by omega)
          have b1 : mixI c (30 + k) % 36 < 36 := Int.emod_lt_of_pos _ (by omega)
          exact ⟨_, rfl, a36 _ (by omega)⟩⟩⟩
      rw [hbs]
      have hl := ob.len
      have y0 : 0 ≤ mixI c 50 % 26 := Int.emod_nonneg _ (by omega)
      have y1 : mixI c 50 % 26 < 26 := Int.emod_lt_of_pos _ (by omega)
      have cut : ∀ (bs : List Str) (z : Nat) (i : Nat) (ch : Nat), Ones z bs → (isL ch || isF ch) = true → Ones z (bs.set i ⟨#[ch]⟩) := fun bs z i ch o hc => ⟨by simp [o.len], fun b hb => (mem_set hb).elim (o.one b) fun e => by rw [e]; rfl, fun b hb => (mem_set hb).elim (o.sg b) fun e => ⟨ch, e, hc⟩⟩
      have cutH : ∀ (bs : List Str) (i : Nat) (ch : Nat), Hd bs → (i = 0 → isL ch = true) → Hd (bs.set i ⟨#[ch]⟩) := fun bs i ch o hc => ⟨fun b hb => by
        by_cases e : i = 0
        · subst e
          cases bs with
          | nil => simp at hb
          | cons x xs => simp at hb; exact ⟨ch, hb.symm, hc rfl⟩
        · rw [List.getElem?_set_ne (by omega)] at hb
          exact o.hd b hb⟩
      simp (disch := first | assumption | omega | (simp [-getElem?_pos, -List.getD_eq_getElem?_getD, lA] <;> omega) | fail) [-getElem?_pos, -List.getD_eq_getElem?_getD, r_mix, modT_ok, ixT_str, setT_lst]
      rw [map_set]
      have o2 := cut bs z 0 (A.cps.toList.getD (mixI c 50 % 26).toNat 0) ob (a36 _ (by omega))
      have h2 : Hd (bs.set 0 ⟨#[A.cps.toList.getD (mixI c 50 % 26).toNat 0]⟩) := ⟨fun b hb => by
        cases bs with
        | nil => simp at hb
        | cons x xs =>
          simp only [List.set_cons_zero, List.getElem?_cons_zero, Option.some.injEq] at hb
          exact ⟨_, hb.symm, a26 _ (by omega)⟩⟩
      generalize bs.set 0 ⟨#[A.cps.toList.getD (mixI c 50 % 26).toNat 0]⟩ = b2 at *
      have hl2 := o2.len
      by_cases q : mixI c 2 % 3 = 0
      · have hn2 : n ≤ 16777216 := by omega
        have zz := z12 q
        simp (disch := first | assumption | omega | (simp [-getElem?_pos, -List.getD_eq_getElem?_getD, lA] <;> omega) | fail) [-getElem?_pos, -List.getD_eq_getElem?_getD, q, rng2_ok, hn2]
        rw [comp_allT (fun k : Nat => .str (Txt.join "" (cutT b2 none (some (k + 1)))))]
        · simp (disch := first | assumption | omega | (simp [-getElem?_pos, -List.getD_eq_getElem?_getD] <;> omega) | fail) [-getElem?_pos, -List.getD_eq_getElem?_getD]
          refine ⟨(List.range n).map fun k : Nat => Txt.join "" (cutT b2 none (some (k + 1))), by simp [Function.comp_def], by simp, nd_map_range fun i j hij hj e => ?_, fun w hw => ?_⟩
          have e2 := congrArg (fun s : Str => s.cps.toList.length) e
          have ln : ∀ k : Nat, k < n → (Txt.join "" (cutT b2 none (some ((k : Int) + 1)))).cps.toList.length = k + 1 := fun k hk => by
            rw [cps_join, ones_len (fun b hb => o2.one b (mem_cutT hb)), cutT_take _ _ (by omega), List.length_take, hl2]; omega
          simp only [ln i (by omega), ln j hj] at e2
          omega
          obtain ⟨k, hk, rfl⟩ := List.mem_map.mp hw
          have hk := List.mem_range.mp hk
          refine nameB_join (z := k + 1) ⟨?_, fun b hb => o2.one b (mem_cutT hb), fun b hb => o2.sg b (mem_cutT hb)⟩ ⟨fun b hb => ?_⟩ (by omega) (by omega)
          · rw [cutT_take _ _ (by omega), List.length_take, hl2]; omega
          · rw [cutT_take _ _ (by omega), List.getElem?_take] at hb
            simp at hb
            exact h2.hd b hb
        · intro k hk
          have hk := List.mem_range.mp hk
          have jo := join_ones (x := .lst .own ((cutT b2 none (some ((k : Int) + 1))).map T.str)) (.inr ⟨_, rfl⟩) (fun b hb => o2.one b (mem_cutT hb)) (by have := cutT_len b2 none (some ((k : Int) + 1)); omega)
          simp (disch := first | assumption | omega | (simp [-getElem?_pos, -List.getD_eq_getElem?_getD] <;> omega) | fail) [-getElem?_pos, -List.getD_eq_getElem?_getD, cutT_map, jo]
      · have w0 : 0 ≤ mixI c 3 % (z : Int) := Int.emod_nonneg _ (by omega)
        have w1 : mixI c 3 % (z : Int) < z := Int.emod_lt_of_pos _ (by omega)
        have m0 := mix_nn c 4
        obtain ⟨M, hM, M36, M26⟩ : ∃ M : Int, (M = 36 ∨ M = 26) ∧ (0 < mixI c 3 % (z : Int) → M = 36) ∧ (¬ 0 < mixI c 3 % (z : Int) → M = 26) := by
          by_cases e2 : 0 < mixI c 3 % (z : Int)
          · exact ⟨36, .inl rfl, fun _ => rfl, fun h => absurd e2 h⟩
          · exact ⟨26, .inr rfl, fun h => absurd h e2, fun _ => rfl⟩
        obtain ⟨pp, hpp⟩ : ∃ pp : Nat, pp = (mixI c 3 % (z : Int)).toNat := ⟨_, rfl⟩
        obtain ⟨nm, hnm⟩ : ∃ nm : Nat → Str, nm = fun k : Nat => Txt.join "" (b2.set pp ⟨#[A.cps.toList.getD ((mixI c 4 + k) % M).toNat 0]⟩) := ⟨_, rfl⟩
        have nmd : ∀ i j, i < j → j < n → nm i ≠ nm j := fun i j hij hj e => by
          rw [hnm] at e
          have e2 := congrArg (fun s : Str => s.cps.toList[pp]?) e
          have at_ : ∀ k : Nat, (Txt.join "" (b2.set pp ⟨#[A.cps.toList.getD ((mixI c 4 + k) % M).toNat 0]⟩)).cps.toList[pp]? = some (A.cps.toList.getD ((mixI c 4 + k) % M).toNat 0) := fun k => by
            rw [cps_join]
            exact ones_at (fun b hb => (mem_set hb).elim (o2.one b) fun e => by rw [e]; rfl) (List.getElem?_set_self (by omega))
          simp only [at_, Option.some.injEq] at e2
          refine A_ne nA ?_ ?_ ?_ e2
          · rcases hM with rfl | rfl <;> omega
          · rcases hM with rfl | rfl <;> omega
          · rcases hM with rfl | rfl <;> omega
        have nmB : ∀ k : Nat, nameB (nm k) = true := fun k => by
          rw [hnm]
          refine nameB_join (cut b2 z pp _ o2 ?_) (cutH b2 pp _ h2 fun e0 => ?_) (by omega) (by omega)
          · refine a36 _ ?_
            rcases hM with rfl | rfl <;> omega
          · have e26 := M26 (by omega)
            subst e26
            exact a26 _ (by omega)
        simp (disch := first | assumption | omega | (simp [-getElem?_pos, -List.getD_eq_getElem?_getD, lA] <;> omega) | fail) [-getElem?_pos, -List.getD_eq_getElem?_getD, q, rng2_ok, r_mix, modT_ok]
        refine loopR (P := fun o => NamesR n (bodyR o)) (fun k env => ∃ (b3 ws : List Str) (v : Option T), env = [some (.int c), some (.int n), some (.str A), some (.int z), some (.lst .own (b3.map T.str)), v, some (.int (mixI c 3 % z)), some (.lst .own (ws.map T.str))] ∧ Ones z b3 ∧ (∀ s, b3.set pp s = b2.set pp s) ∧ ws = (List.range k).map nm) ⟨b2, [], _, rfl, o2, fun _ => rfl, rfl⟩ ?_ ?_
        · rintro k env hk ⟨b3, ws, v, rfl, o3, hb3, hw⟩
          have lws : ws.length = k := by rw [hw]; simp
          have hl3 := o3.len
          have jo : ∀ ch : Nat, joinT ("" : Str) (.lst .brw ((b3.map T.str).set (mixI c 3 % z).toNat (.str ⟨#[ch]⟩))) = some (.str (Txt.join "" (b3.set (mixI c 3 % z).toNat ⟨#[ch]⟩))) := fun ch => by
            rw [map_set]
            exact join_ones (.inr ⟨_, rfl⟩) (fun b hb => (mem_set hb).elim (o3.one b) fun e => by rw [e]; rfl) (by simp; omega)
          have tg : ∀ (i ch : Nat), T.tags view ((b3.map T.str).set i (.str ⟨#[ch]⟩)) = (b3.map T.str).set i (.str ⟨#[ch]⟩) := fun i ch => by rw [map_set, tags_strs]
          have ss : ∀ ch s, (b3.set pp ch).set pp s = b2.set pp s := fun ch s => by rw [List.set_set]; exact hb3 s
          have wsn : (List.range (k + 1)).map nm = ws ++ [nm k] := by rw [List.range_succ, List.map_append, hw]; rfl
          by_cases e2 : 0 < mixI c 3 % (z : Int)
          · have b0 : 0 ≤ (mixI c 4 + k) % 36 := Int.emod_nonneg _ (by omega)
            have b1 : (mixI c 4 + k) % 36 < 36 := Int.emod_lt_of_pos _ (by omega)
            have nk : nm k = Txt.join "" (b3.set pp ⟨#[A.cps.toList.getD ((mixI c 4 + k) % 36).toNat 0]⟩) := by rw [hnm, hb3, M36 e2]
            simp (disch := first | assumption | omega | (simp [-getElem?_pos, -List.getD_eq_getElem?_getD, lA] <;> omega) | fail) [-getElem?_pos, -List.getD_eq_getElem?_getD, e2, r_mix, mulT_r, modT_ok, ixT_str, setT_lst, jo, tg, mAppend_ok]
            rw [← hpp]
            exact ⟨_, ws ++ [nm k], ⟨map_set _ _ _ _, by rw [nk]; exact map_str_snoc _ _⟩, cut b3 z _ _ o3 (a36 _ (by omega)), ss _, wsn.symm⟩
          · have b0 : 0 ≤ (mixI c 4 + k) % 26 := Int.emod_nonneg _ (by omega)
            have b1 : (mixI c 4 + k) % 26 < 26 := Int.emod_lt_of_pos _ (by omega)
            have nk : nm k = Txt.join "" (b3.set pp ⟨#[A.cps.toList.getD ((mixI c 4 + k) % 26).toNat 0]⟩) := by rw [hnm, hb3, M26 e2]
            simp (disch := first | assumption | omega | (simp [-getElem?_pos, -List.getD_eq_getElem?_getD, lA] <;> omega) | fail) [-getElem?_pos, -List.getD_eq_getElem?_getD, e2, r_mix, mulT_r, modT_ok, ixT_str, setT_lst, jo, tg, mAppend_ok]
            rw [← hpp]
            exact ⟨_, ws ++ [nm k], ⟨map_set _ _ _ _, by rw [nk]; exact map_str_snoc _ _⟩, cut b3 z _ _ o3 (a36 _ (by omega)), ss _, wsn.symm⟩
        · rintro env ⟨b3, ws, v, rfl, o3, _, hw⟩
          simp (disch := first | assumption | omega | (simp [-getElem?_pos, -List.getD_eq_getElem?_getD] <;> omega) | fail) [-getElem?_pos, -List.getD_eq_getElem?_getD]
          exact ⟨ws, rfl, by rw [hw]; simp, by rw [hw]; exact nd_map_range nmd, fun w m => by
            rw [hw] at m
            obtain ⟨k, _, rfl⟩ := List.mem_map.mp m
            exact nmB k⟩
    · intro k hk
      have hk := List.mem_range.mp hk
      have b0 : 0 ≤ mixI c (30 + k) % 36 := Int.emod_nonneg _ (by omega)
      have b1 : mixI c (30 + k) % 36 < 36 := Int.emod_lt_of_pos _ (by omega)
      simp (disch := first | assumption | omega | (simp [-getElem?_pos, -List.getD_eq_getElem?_getD, lA] <;> omega) | fail) [-getElem?_pos, -List.getD_eq_getElem?_getD, r_mix, modT_ok, ixT_str]
def tabT (t : Str × Int) : T := .tup [.str t.1, .int t.2]
@[simp] theorem vals_tabs (ts : List (Str × Int)) : T.vals (ts.map tabT) = true := vals_iff.mpr fun t ht => by obtain ⟨l, _, rfl⟩ := List.mem_map.mp ht; rfl
@[simp] theorem tag_tab (f) (t : Str × Int) : T.tag f (tabT t) = tabT t := val_tag f rfl
@[simp] theorem has_tab (g) (t : Str × Int) : T.has g (tabT t) = false := val_has g rfl
@[simp] theorem tab_0 (t : Str × Int) : ixT (tabT t) (.int 0) = some (.str t.1) := id rfl
@[simp] theorem tab_1 (t : Str × Int) : ixT (tabT t) (.int 1) = some (.int t.2) := id rfl
structure okTab (t : Str × Int) : Prop where
  lo : 1 ≤ t.2
  hi : t.2 ≤ 6
  ok : nameB t.1 = true
structure Tabs (ts : List (Str × Int)) : Prop where
  len : ts.length = 3
  ok : ∀ t ∈ ts, okTab t
  nd : (ts.map (·.1)).Nodup
structure TabsR (r : R T) : Prop where
  ex : ∃ ts : List (Str × Int), r = .ok (.lst .own (ts.map tabT)) ∧ Tabs ts
theorem nameB_ok {s : Str} (h : nameB s = true) : strOkB s = true := by
  simp only [nameB, Bool.and_eq_true] at h
  have all := List.all_eq_true.mp h.1.2
  have key : ∀ c ∈ s.cps.toList, c ≤ 122 := fun c m => by
    have := all c m
    simp [isL, isF] at this
    omega
  have : (s.cps.toList.all fun c => decide (c < 1114112)) = true := List.all_eq_true.mpr fun c m => by have := key c m; simp; omega
  simpa [strOkB, PyData.strOk] using this
theorem nameB_len {s : Str} (h : nameB s = true) : s.length ≤ 12 := by
  simp only [nameB, Bool.and_eq_true, decide_eq_true_eq] at h
  exact h.1.1.2
structure IsTabs (p : List Str) (ts : List (Str × Int)) : Prop where
  eq : ts.map (·.1) = p
  ok : ∀ t ∈ ts, okTab t
theorem r_tables (c : Int) : TabsR (r_ltables [.int c, .int 3]) := by
  unfold r_ltables g_ltables
  obtain ⟨ws, hw, lw, nd, ow⟩ := (r_names c 3 (by omega)).ex
  have hw : r_lnames [.int c, .int 3] = .ok (.lst .own (ws.map T.str)) := hw
  simp (disch := first | assumption | omega | (simp [-getElem?_pos, -List.getD_eq_getElem?_getD] <;> omega) | fail) [-getElem?_pos, -List.getD_eq_getElem?_getD, hw]
  refine loopM (P := fun o => TabsR (bodyR o)) (fun p env => ∃ (ts : List (Str × Int)) (u : Option T), env = [some (.int c), some (.int 3), some (.lst .own (ts.map tabT)), u] ∧ IsTabs p ts) ⟨[], _, rfl, ⟨rfl, by simp⟩⟩ ?_ ?_
  · intro p x q env e hI
    obtain ⟨ts, u, hu, ht⟩ := hI
    subst hu
    have ox : nameB x = true := ow x (by rw [e]; simp)
    have hp : ts.length < 3 := by
      have := congrArg List.length e
      have := congrArg List.length ht.eq
      simp at *; omega
    have b0 := Int.emod_nonneg (mixI c (60 + ts.length)) (show (6 : Int) ≠ 0 by omega)
    have b1 := Int.emod_lt_of_pos (mixI c (60 + ts.length)) (show (0 : Int) < 6 by omega)
    simp (disch := first | assumption | omega | (simp [-getElem?_pos, -List.getD_eq_getElem?_getD] <;> omega) | fail) [-getElem?_pos, -List.getD_eq_getElem?_getD, r_mix, modT_ok, divT_ok, mAppend_ok]
    refine ⟨ts ++ [(x, 1 + mixI c (60 + ts.length) % 6)], by simp [tabT], ⟨by simp [ht.eq], fun t m => ?_⟩⟩
    rcases List.mem_append.mp m with m | m
    · exact ht.ok t m
    · rw [List.mem_singleton.mp m]
      exact ⟨by show 1 ≤ 1 + _; omega, by show 1 + _ ≤ 6; omega, ox⟩
  · intro env hI
    obtain ⟨ts, u, hu, ht⟩ := hI
    subst hu
    simp (disch := first | assumption | omega | (simp [-getElem?_pos, -List.getD_eq_getElem?_getD] <;> omega) | fail) [-getElem?_pos, -List.getD_eq_getElem?_getD]
    exact ⟨ts, rfl, ⟨by have := congrArg List.length ht.eq; simp at this; omega, ht.ok, by rw [ht.eq]; exact nd⟩⟩
def numB (i : Int) : Bool := decide ((i.natAbs : Int) < 10 ^ 60)
def okT : Key → Bool
  | .inl i => numB i
  | .inr s => nameB s
theorem okT_ok {k : Key} (h : okT k = true) : okK k := by
  cases k with
  | inl i => trivial
  | inr s => exact nameB_ok h
theorem abs_lt {i B : Int} : ((i.natAbs : Int) < B) ↔ (-B < i ∧ i < B) := by omega
theorem numB_iff (i : Int) : numB i = true ↔ -(10 ^ 60) < i ∧ i < 10 ^ 60 := decide_eq_true_iff.trans abs_lt
structure okW (n : Nat) (ws : List Str) : Prop where
  len : ws.length = n
  pos : 0 < n
  lt : n ≤ 100
  ok : ∀ w ∈ ws, nameB w = true
theorem r_term_ex {n : Nat} (c : Int) (ws : List Str) (h : okW n ws) : ∃ k : Key, r_lterm [.int c, .lst .prt (ws.map T.str)] = .ok (kT k) ∧ okT k = true := by
  unfold r_lterm g_lterm
  have hw := h.len
  have h0 := h.pos
  have h1 := h.lt
  have a0 := Int.emod_nonneg (mixI c 7 / 4) (show (n : Int) ≠ 0 by omega)
  have a1 := Int.emod_lt_of_pos (mixI c 7 / 4) (show (0 : Int) < n by omega)
  by_cases z : mixI c 7 % 4 < 3
  · simp (disch := first | assumption | omega | (simp [-getElem?_pos, -List.getD_eq_getElem?_getD, hw] <;> omega) | fail) [-getElem?_pos, -List.getD_eq_getElem?_getD, r_mix, modT_ok, divT_ok, z, ixT_lstM (f := T.str) ("" : Str), hw]
    refine ⟨.inr (ws.getD (mixI c 7 / 4 % n).toNat ""), rfl, ?_⟩
    have : (mixI c 7 / 4 % n).toNat < ws.length := by omega
    simp only [okT, List.getD_eq_getElem?_getD, List.getElem?_eq_getElem this, Option.getD_some]
    exact h.ok _ (List.getElem_mem _)
  · by_cases y : mixI c 7 / 4 % 2 = 0
    · simp (disch := first | assumption | omega | (simp [-getElem?_pos, -List.getD_eq_getElem?_getD] <;> omega) | fail) [-getElem?_pos, -List.getD_eq_getElem?_getD, r_mix, modT_ok, divT_ok, z, y]
      refine ⟨.inl (mixI c 7 / 8 % 3 - 1), rfl, (numB_iff _).mpr ?_⟩
      omega
    · simp (disch := first | assumption | omega | (simp [-getElem?_pos, -List.getD_eq_getElem?_getD] <;> omega) | fail) [-getElem?_pos, -List.getD_eq_getElem?_getD, r_mix, modT_ok, divT_ok, z, y, powT_ok, mulT_l]
      refine ⟨.inl _, rfl, (numB_iff _).mpr ?_⟩
      omega
open Classical in
noncomputable def termK (n : Nat) (ws : List Str) (c : Int) : Key := if h : okW n ws then Classical.choose (r_term_ex c ws h) else .inl 0
theorem r_term {n : Nat} (ws : List Str) (c : Int) (h : okW n ws) : r_lterm [.int c, .lst .prt (ws.map T.str)] = .ok (kT (termK n ws c)) := by
  unfold termK
  rw [dif_pos h]
  exact (Classical.choose_spec (r_term_ex c ws h)).1
theorem ok_term (n : Nat) (ws : List Str) (c : Int) : okT (termK n ws c) = true := by
  unfold termK
  split
  · rename_i h; exact (Classical.choose_spec (r_term_ex c ws h)).2
  · exact (numB_iff 0).mpr (by omega)
structure okLine (ts : List (Str × Int)) (l : Line) : Prop where
  tab : (l.1, (l.2.length : Int)) ∈ ts
  ks : ∀ k ∈ l.2, okT k = true
structure okL (ts : List (Str × Int)) (L : List Line) : Prop where
  ok : ∀ l ∈ L, okLine ts l
theorem okL.snoc {ts} {L : List Line} (o : okL ts L) {l : Line} (h : okLine ts l) : okL ts (L ++ [l]) := ⟨fun x hx => (List.mem_append.mp hx).elim (o.ok x) fun e => by rw [List.mem_singleton.mp e]; exact h⟩
theorem okL.set {ts} {L : List Line} (o : okL ts L) {l : Line} (h : okLine ts l) (i : Nat) : okL ts (L.set i l) := ⟨fun x hx => (mem_set hx).elim (o.ok x) fun e => by rw [e]; exact h⟩
theorem getD_in {α : Type} {xs : List α} {i : Nat} (d : α) (h : i < xs.length) : xs.getD i d ∈ xs := by
  rw [List.getD_eq_getElem?_getD, List.getElem?_eq_getElem h]
  exact List.getElem_mem h
structure LinesR (ts : List (Str × Int)) (n : Nat) (r : R T) : Prop where
  ex : ∃ L : List Line, r = .ok (.lst .own (L.map lineT)) ∧ L.length = n ∧ okL ts L
theorem r_lines {w : Nat} (ns : List Int) (st : Nat) (hst : st ≤ 1000) (ts : List (Str × Int)) (ws : List Str) (n : Nat) (hn : n ≤ 5) (tb : Tabs ts) (hw : okW w ws) :
    LinesR ts n (r_llines [.lst .fzn (ns.map T.int), .int st, .lst .prt (ts.map tabT), .lst .prt (ws.map T.str), .int n]) := by
  have ht := tb.len
  unfold r_llines g_llines
  simp (disch := first | assumption | omega | (simp [-getElem?_pos, -List.getD_eq_getElem?_getD] <;> omega) | fail) [-getElem?_pos, -List.getD_eq_getElem?_getD, rng2_ok]
  refine loopR (P := fun o => LinesR ts n (bodyR o)) (fun k env => ∃ (L : List Line) (at_ : Int) (a b c d e : Option T), env = [some (.lst .fzn (ns.map T.int)), some (.int st), some (.lst .prt (ts.map tabT)), some (.lst .prt (ws.map T.str)), some (.int n), some (.lst .own (L.map lineT)), some (.int at_), a, b, c, d, e] ∧ L.length = k ∧ okL ts L ∧ 0 ≤ at_ ∧ at_ ≤ st + 10 * k) ⟨[], st, _, _, _, _, _, rfl, rfl, ⟨by simp⟩, by omega, by omega⟩ ?_ ?_
  · rintro k env hk ⟨L, at_, a, b, c, d, e, rfl, hL, oL, h0, h1⟩
    have m0 := mix_nn (cellI ns at_) 8
    have i0 := Int.emod_nonneg (mixI (cellI ns at_) 8) (show (3 : Int) ≠ 0 by omega)
    have i1 := Int.emod_lt_of_pos (mixI (cellI ns at_) 8) (show (0 : Int) < 3 by omega)
    have tm : ts.getD (mixI (cellI ns at_) 8 % 3).toNat ("", 1) ∈ ts := getD_in _ (by omega)
    have tw := tb.ok _ tm
    simp (disch := first | assumption | omega | (simp [-getElem?_pos, -List.getD_eq_getElem?_getD, ht] <;> omega) | fail) [-getElem?_pos, -List.getD_eq_getElem?_getD, r_cell, r_mix, modT_ok, ixT_lstM (f := tabT) (("", 1) : Str × Int), ht]
    generalize ts.getD (mixI (cellI ns at_) 8 % 3).toNat ("", 1) = tb at *
    have t0 := tw.lo
    have t1 := tw.hi
    have hz : tb.2.toNat ≤ 16777216 := by omega
    simp (disch := first | assumption | omega | (simp [-getElem?_pos, -List.getD_eq_getElem?_getD] <;> omega) | fail) [-getElem?_pos, -List.getD_eq_getElem?_getD, rng2_ok, hz]
    rw [comp_allT (fun j : Nat => kT (termK w ws (cellI ns (at_ + 1 + j))))]
    · obtain ⟨tms, htm, ltm, otm⟩ : ∃ tms : List Key, (List.range tb.2.toNat).map (fun j : Nat => kT (termK w ws (cellI ns (at_ + 1 + j)))) = tms.map kT ∧ tms.length = tb.2.toNat ∧ ∀ k ∈ tms, okT k = true :=
        ⟨(List.range tb.2.toNat).map fun j : Nat => termK w ws (cellI ns (at_ + 1 + j)), by rw [List.map_map]; rfl, by simp, fun k hk => by obtain ⟨j, _, rfl⟩ := List.mem_map.mp hk; exact ok_term _ _ _⟩
      rw [htm]
      have ol : okLine ts (tb.1, tms) := ⟨by
        have : ((tb.1, tms).1, ((tb.1, tms).2.length : Int)) = tb := Prod.ext rfl (by show (tms.length : Int) = tb.2; omega)
        rw [this]; exact tm, otm⟩
      have oL2 := oL.snoc ol
      have eq1 : T.tup [T.str tb.1, T.tup (tms.map kT)] = lineT (tb.1, tms) := rfl
      by_cases q : 0 < (k : Int) ∧ mixI (cellI ns at_) 8 / 8 % 6 = 0
      · have j0 := Int.emod_nonneg (mixI (cellI ns at_) 8 / 64) (show (k : Int) ≠ 0 by omega)
        have j1 := Int.emod_lt_of_pos (mixI (cellI ns at_) 8 / 64) q.1
        have q0 : 0 < k := by omega
        simp (disch := first | assumption | omega | (simp [-getElem?_pos, -List.getD_eq_getElem?_getD, hL] <;> omega) | fail) [-getElem?_pos, -List.getD_eq_getElem?_getD, r_cell, r_mix, modT_ok, divT_ok, mAppend_ok, q.1, q.2, q0, eq1]
        rw [show List.map lineT L ++ [lineT (tb.1, tms)] = (L ++ [(tb.1, tms)]).map lineT by simp]
        have hlen : (L ++ [(tb.1, tms)]).length = k + 1 := by simp [hL]
        generalize L ++ [(tb.1, tms)] = Lx at *
        have v3 := oL2.ok (Lx.getD (mixI (cellI ns at_) 8 / 64 % (k : Int)).toNat ("", [])) (getD_in _ (by omega))
        simp (disch := first | assumption | omega | (simp [-getElem?_pos, -List.getD_eq_getElem?_getD, hlen] <;> omega) | fail) [-getElem?_pos, -List.getD_eq_getElem?_getD, ixT_lstM (f := lineT) (("", []) : Line), setT_lst]
        exact ⟨Lx.set k (Lx.getD (mixI (cellI ns at_) 8 / 64 % (k : Int)).toNat ("", [])), _, ⟨map_set _ _ _ _, rfl⟩, by simp [hlen], oL2.set v3 k, by omega, by omega⟩
      · by_cases q1 : 0 < (k : Int)
        · have q2 : ¬ mixI (cellI ns at_) 8 / 8 % 6 = 0 := fun z => q ⟨q1, z⟩
          have q0 : 0 < k := by omega
          simp (disch := first | assumption | omega | (simp [-getElem?_pos, -List.getD_eq_getElem?_getD, hL] <;> omega) | fail) [-getElem?_pos, -List.getD_eq_getElem?_getD, r_cell, r_mix, modT_ok, divT_ok, mAppend_ok, q1, q2, q0, eq1]
          exact ⟨L ++ [(tb.1, tms)], _, ⟨by simp, rfl⟩, by simp [hL], oL2, by omega, by omega⟩
        · have q0 : ¬ 0 < k := by omega
          simp (disch := first | assumption | omega | (simp [-getElem?_pos, -List.getD_eq_getElem?_getD, hL] <;> omega) | fail) [-getElem?_pos, -List.getD_eq_getElem?_getD, r_cell, r_mix, modT_ok, divT_ok, mAppend_ok, q1, q0, eq1]
          exact ⟨L ++ [(tb.1, tms)], _, ⟨by simp, rfl⟩, by simp [hL], oL2, by omega, by omega⟩
    · intro j hj
      have hj := List.mem_range.mp hj
      simp (disch := first | assumption | omega | (simp [-getElem?_pos, -List.getD_eq_getElem?_getD] <;> omega) | fail) [-getElem?_pos, -List.getD_eq_getElem?_getD, r_cell, r_term _ _ hw]
  · rintro env ⟨L, at_, a, b, c, d, e, rfl, hL, oL, h0, h1⟩
    simp (disch := first | assumption | omega | (simp [-getElem?_pos, -List.getD_eq_getElem?_getD] <;> omega) | fail) [-getElem?_pos, -List.getD_eq_getElem?_getD]
    exact ⟨L, rfl, hL, oL⟩
theorem okLine.len {ts} {l : Line} (tb : Tabs ts) (h : okLine ts l) : 1 ≤ l.2.length ∧ l.2.length ≤ 6 := by
  have a := (tb.ok _ h.tab).lo
  have b := (tb.ok _ h.tab).hi
  simp only at a b
  omega
theorem okLine.nm {ts} {l : Line} (tb : Tabs ts) (h : okLine ts l) : nameB l.1 = true := (tb.ok _ h.tab).ok
theorem cut_from {α : Type} (xs : List α) (w : Int) (h : 0 ≤ w) : cutT xs (some w) none = xs.drop w.toNat := by
  unfold cutT
  have h1 : HT.sIx xs.length 0 (some w) = min w.toNat xs.length := by
    show (if w < 0 then _ else min w.toNat xs.length) = _
    rw [if_neg (by omega)]
  have h2 : HT.sIx xs.length xs.length none = xs.length := rfl
  rw [h1, h2]
  rcases Nat.le_total w.toNat xs.length with q | q
  · rw [Nat.min_eq_left q]
    exact List.take_of_length_le (by simp)
  · rw [Nat.min_eq_right q, Nat.sub_self, List.take_zero, List.drop_eq_nil_of_le q]
/-! ### what the program tells of terms and lines -/
@[simp] theorem isB_int (i : Int) : isT "bool" (.int i) = some (.bl false) := id rfl
theorem r_whole_int (i : Int) : r_is_whole [.int i] = .ok (.bl true) := by
  unfold r_is_whole g_is_whole
  simp (disch := first | assumption | omega | (simp [-getElem?_pos, -List.getD_eq_getElem?_getD] <;> omega) | fail) [-getElem?_pos, -List.getD_eq_getElem?_getD]
theorem absT_int (v : Int) : absT [.int v] = some (.int (v.natAbs : Int)) := by
  have abs_nat : (if v < 0 then -v else v) = (v.natAbs : Int) := by split <;> omega
  simp [absT, abs_nat]
theorem r_number_int (i : Int) : r_is_number [.int i] = .ok (.bl (numB i)) := by
  unfold r_is_number g_is_number numB
  simp (disch := first | assumption | omega | (simp [-getElem?_pos, -List.getD_eq_getElem?_getD] <;> omega) | fail) [-getElem?_pos, -List.getD_eq_getElem?_getD, r_whole_int, absT_int, powT_ok]
theorem r_number_str (s : Str) : r_is_number [.str s] = .ok (.bl false) := by
  unfold r_is_number g_is_number
  have h : r_is_whole [.str s] = .ok (.bl false) := by
    unfold r_is_whole g_is_whole
    simp (disch := first | assumption | omega | (simp [-getElem?_pos, -List.getD_eq_getElem?_getD] <;> omega) | fail) [-getElem?_pos, -List.getD_eq_getElem?_getD]
  simp (disch := first | assumption | omega | (simp [-getElem?_pos, -List.getD_eq_getElem?_getD] <;> omega) | fail) [-getElem?_pos, -List.getD_eq_getElem?_getD, h]
theorem r_name_int (i : Int) : r_is_name [.int i] = .ok (.bl false) := by
  unfold r_is_name g_is_name
  simp (disch := first | assumption | omega | (simp [-getElem?_pos, -List.getD_eq_getElem?_getD] <;> omega) | fail) [-getElem?_pos, -List.getD_eq_getElem?_getD]
/-- terms and what is none -/
def noL : List T := [.bl true]
abbrev XT := Key ⊕ Nat
def xT : XT → T
  | .inl k => kT k
  | .inr i => noL.getD i .non
def xOk : XT → Bool
  | .inl k => okT k
  | .inr _ => false
def xFit : XT → Prop
  | .inl (.inr s) => s.length ≤ 1000
  | _ => True
theorem r_term_no (i : Nat) : r_is_term [noL.getD i .non] = .ok (.bl false) := by
  have n0 : ∀ i : Int, r_is_name [.int i] = .ok (.bl false) := r_name_int
  have cs : ∀ t ∈ (T.non :: noL), r_is_term [t] = .ok (.bl false) := by
    intro t m
    simp only [noL, List.mem_cons, List.not_mem_nil, or_false] at m
    have st : ∀ s : Str, s.length ≤ 1000 → nameB s = false → r_is_term [.str s] = .ok (.bl false) := fun s h1 h2 => by
      have a := r_name_str s h1
      have b := r_number_str s
      rw [h2] at a
      unfold r_is_term g_is_term
      simp (disch := first | assumption | omega | (simp [-getElem?_pos, -List.getD_eq_getElem?_getD] <;> omega) | fail) [-getElem?_pos, -List.getD_eq_getElem?_getD, a, b]
    have bi : ∀ i : Int, numB i = false → r_is_term [.int i] = .ok (.bl false) := fun i h => by
      have a := r_name_int i
      have b := r_number_int i
      rw [h] at b
      unfold r_is_term g_is_term
      simp (disch := first | assumption | omega | (simp [-getElem?_pos, -List.getD_eq_getElem?_getD] <;> omega) | fail) [-getElem?_pos, -List.getD_eq_getElem?_getD, a, b]
    have ot : ∀ t : T, r_is_name [t] = .ok (.bl false) → r_is_number [t] = .ok (.bl false) → T.has .brw t = false → T.tag view t = t → r_is_term [t] = .ok (.bl false) := fun t h1 h2 h3 h4 => by
      unfold r_is_term g_is_term
      simp (disch := first | assumption | omega | (simp [-getElem?_pos, -List.getD_eq_getElem?_getD, h3] <;> omega) | fail) [-getElem?_pos, -List.getD_eq_getElem?_getD, h1, h2, h3, h4]
    have bl : ∀ b, r_is_name [.bl b] = .ok (.bl false) ∧ r_is_number [.bl b] = .ok (.bl false) := fun b => by
      constructor
      · unfold r_is_name g_is_name
        simp (disch := first | assumption | omega | (simp [-getElem?_pos, -List.getD_eq_getElem?_getD] <;> omega) | fail) [-getElem?_pos, -List.getD_eq_getElem?_getD]
      · have h : r_is_whole [.bl b] = .ok (.bl false) := by
          unfold r_is_whole g_is_whole
          simp (disch := first | assumption | omega | (simp [-getElem?_pos, -List.getD_eq_getElem?_getD] <;> omega) | fail) [-getElem?_pos, -List.getD_eq_getElem?_getD]
        unfold r_is_number g_is_number
        simp (disch := first | assumption | omega | (simp [-getElem?_pos, -List.getD_eq_getElem?_getD] <;> omega) | fail) [-getElem?_pos, -List.getD_eq_getElem?_getD, h]
    rcases m with rfl | rfl
    · refine ot _ ?_ ?_ rfl rfl
      · unfold r_is_name g_is_name
        simp (disch := first | assumption | omega | (simp [-getElem?_pos, -List.getD_eq_getElem?_getD] <;> omega) | fail) [-getElem?_pos, -List.getD_eq_getElem?_getD]
      · have h : r_is_whole [.non] = .ok (.bl false) := by
          unfold r_is_whole g_is_whole
          simp (disch := first | assumption | omega | (simp [-getElem?_pos, -List.getD_eq_getElem?_getD] <;> omega) | fail) [-getElem?_pos, -List.getD_eq_getElem?_getD]
        unfold r_is_number g_is_number
        simp (disch := first | assumption | omega | (simp [-getElem?_pos, -List.getD_eq_getElem?_getD] <;> omega) | fail) [-getElem?_pos, -List.getD_eq_getElem?_getD, h]
    · exact ot _ (bl _).1 (bl _).2 rfl rfl
  apply cs
  rw [List.getD_eq_getElem?_getD]
  cases e : noL[i]? with
  | none => simp
  | some t => simp [List.mem_of_getElem? e]
theorem r_term_x (x : XT) (h : xFit x) : r_is_term [xT x] = .ok (.bl (xOk x)) := by
  cases x with
  | inr i => exact r_term_no i
  | inl k =>
    cases k with
    | inl i =>
      have a := r_name_int i
      have b := r_number_int i
      unfold r_is_term g_is_term
      show bodyR _ = .ok (.bl (numB i))
      simp (disch := first | assumption | omega | (simp [-getElem?_pos, -List.getD_eq_getElem?_getD] <;> omega) | fail) [-getElem?_pos, -List.getD_eq_getElem?_getD, xT, kT, a, b]
    | inr s =>
      have a := r_name_str s h
      have b := r_number_str s
      unfold r_is_term g_is_term
      show bodyR _ = .ok (.bl (nameB s))
      cases c : nameB s <;> rw [c] at a <;> simp (disch := first | assumption | omega | (simp [-getElem?_pos, -List.getD_eq_getElem?_getD] <;> omega) | fail) [-getElem?_pos, -List.getD_eq_getElem?_getD, xT, kT, a, b]
theorem noL_val : ∀ t ∈ (T.non :: noL), t.val = true := by
  intro t m
  simp only [noL, List.mem_cons, List.not_mem_nil, or_false] at m
  rcases m with rfl | rfl <;> rfl
theorem xT_val (x : XT) : (xT x).val = true := by
  cases x with
  | inl k => cases k <;> rfl
  | inr i =>
    refine noL_val _ ?_
    show noL.getD i .non ∈ _
    rw [List.getD_eq_getElem?_getD]
    cases e : noL[i]? with
    | none => simp
    | some t => simp [List.mem_of_getElem? e]
@[simp] theorem vals_xs (xs : List XT) : T.vals (xs.map xT) = true := vals_iff.mpr fun t m => by obtain ⟨x, _, rfl⟩ := List.mem_map.mp m; exact xT_val x
@[simp] theorem hasL_xs (g : Tg) (xs : List XT) : T.hasL g (xs.map xT) = false := vals_has g (vals_xs xs)
@[simp] theorem tags_xs (f : Tg → Tg) (xs : List XT) : T.tags f (xs.map xT) = xs.map xT := vals_tags f (vals_xs xs)
@[simp] theorem has_x (g : Tg) (x : XT) : T.has g (xT x) = false := val_has g (xT_val x)
@[simp] theorem tag_x (f : Tg → Tg) (x : XT) : T.tag f (xT x) = xT x := val_tag f (xT_val x)
theorem r_all (xs : List XT) (h : ∀ x ∈ xs, xFit x) : r_all_terms [.tup (xs.map xT)] = .ok (.bl (xs.all xOk)) := by
  unfold r_all_terms g_all_terms
  simp (disch := first | assumption | omega | (simp [-getElem?_pos, -List.getD_eq_getElem?_getD] <;> omega) | fail) [-getElem?_pos, -List.getD_eq_getElem?_getD]
  refine loopM (P := fun o => bodyR o = .ok (.bl (xs.all xOk))) (fun p env => ∃ (u : Option T), env = [some (.tup (xs.map xT)), u] ∧ p.all xOk = true) ⟨_, rfl, rfl⟩ ?_ ?_
  · intro p x q env e hI
    obtain ⟨u, hu, hp⟩ := hI
    subst hu
    have ht := r_term_x x (h x (by rw [e]; simp))
    cases c : xOk x with
    | true =>
      rw [c] at ht
      simp (disch := first | assumption | omega | (simp [-getElem?_pos, -List.getD_eq_getElem?_getD] <;> omega) | fail) [-getElem?_pos, -List.getD_eq_getElem?_getD, ht]
      exact ⟨by simpa using hp, c⟩
    | false =>
      rw [c] at ht
      simp (disch := first | assumption | omega | (simp [-getElem?_pos, -List.getD_eq_getElem?_getD] <;> omega) | fail) [-getElem?_pos, -List.getD_eq_getElem?_getD, ht]
      rw [e]
      simp
      exact ⟨x, .inr (.inl rfl), c⟩
  · intro env hI
    obtain ⟨u, hu, hp⟩ := hI
    subst hu
    simp (disch := first | assumption | omega | (simp [-getElem?_pos, -List.getD_eq_getElem?_getD] <;> omega) | fail) [-getElem?_pos, -List.getD_eq_getElem?_getD, hp]
/-! ### what is_line tells -/
structure Fine (t : T) : Prop where
  h : ∀ g, g ≠ .shr → T.has g t = false
  tg : ∀ f : Tg → Tg, f .shr = .shr → T.tag f t = t
theorem Fine.hb {t : T} (f : Fine t) : T.has .brw t = false := f.h _ (by decide)
theorem Fine.val {t : T} (h : t.val = true) : Fine t := ⟨fun g _ => val_has _ h, fun f _ => val_tag f h⟩
theorem Fine.lst {ts : List T} (h : T.vals ts = true) : Fine (.lst .shr ts) := ⟨fun g hg => by
  have : decide (Tg.shr = g) = false := decide_eq_false fun e => hg e.symm
  rw [has_lst, vals_has _ h, this]; rfl, fun f e => by simp [T.tag, e, vals_tags f h]⟩
theorem Fine.tup2 {a b : T} (ha : Fine a) (hb : Fine b) : Fine (.tup [a, b]) := ⟨fun g hg => by simp [ha.h g hg, hb.h g hg], fun f e => by simp [ha.tg f e, hb.tg f e]⟩
structure Bad (t : T) : Prop extends Fine t where
  isl : r_is_line [t] = .ok (.bl false)
theorem line_lst (ts : List T) : r_is_line [.lst .shr ts] = .ok (.bl false) := by
  unfold r_is_line g_is_line
  simp (disch := first | assumption | omega | (simp [-getElem?_pos, -List.getD_eq_getElem?_getD] <;> omega) | fail) [-getElem?_pos, -List.getD_eq_getElem?_getD]
theorem line_len (ts : List T) (ht : T.tags view ts = ts) (h : ts.length ≠ 2) (h2 : ts.length ≤ 1000) : r_is_line [.tup ts] = .ok (.bl false) := by
  have h3 : ¬ (ts.length : Int) = 2 := by omega
  have h4 : ts.length ≤ 16777216 := by omega
  unfold r_is_line g_is_line
  simp (disch := first | assumption | omega | (simp [-getElem?_pos, -List.getD_eq_getElem?_getD] <;> omega) | fail) [-getElem?_pos, -List.getD_eq_getElem?_getD, ht, h, h3, h4]
theorem line_name (a b : T) (fa : Fine a) (h : r_is_name [a] = .ok (.bl false)) : r_is_line [.tup [a, b]] = .ok (.bl false) := by
  have e1 := fa.hb
  have e2 := fa.tg view rfl
  unfold r_is_line g_is_line
  simp (disch := first | assumption | omega | (simp [-getElem?_pos, -List.getD_eq_getElem?_getD, e1] <;> omega) | fail) [-getElem?_pos, -List.getD_eq_getElem?_getD, h, e1, e2]
theorem line_terms (s : Str) (hs : s.length ≤ 1000) (xs : List XT) (fit : ∀ x ∈ xs, xFit x) (hx : xs.length ≤ 1000) : r_is_line [.tup [.str s, .tup (xs.map xT)]] = .ok (.bl (nameB s && (decide (1 ≤ xs.length ∧ xs.length ≤ 6) && xs.all xOk))) := by
  have hn := r_name_str s hs
  have ha := r_all xs fit
  have h4 : xs.length ≤ 16777216 := by omega
  unfold r_is_line g_is_line
  cases c : nameB s with
  | false =>
    rw [c] at hn
    simp (disch := first | assumption | omega | (simp [-getElem?_pos, -List.getD_eq_getElem?_getD] <;> omega) | fail) [-getElem?_pos, -List.getD_eq_getElem?_getD, hn]
  | true =>
    rw [c] at hn
    by_cases q1 : 1 ≤ xs.length
    · have q2 : (1 : Int) ≤ xs.length := by omega
      by_cases q3 : xs.length ≤ 6
      · have q4 : (xs.length : Int) ≤ 6 := by omega
        simp (disch := first | assumption | omega | (simp [-getElem?_pos, -List.getD_eq_getElem?_getD] <;> omega) | fail) [-getElem?_pos, -List.getD_eq_getElem?_getD, hn, ha, q1, q2, q3, q4, h4]
      · have q4 : ¬ (xs.length : Int) ≤ 6 := by omega
        simp (disch := first | assumption | omega | (simp [-getElem?_pos, -List.getD_eq_getElem?_getD] <;> omega) | fail) [-getElem?_pos, -List.getD_eq_getElem?_getD, hn, ha, q1, q2, q3, q4, h4]
    · have q2 : ¬ (1 : Int) ≤ xs.length := by omega
      simp (disch := first | assumption | omega | (simp [-getElem?_pos, -List.getD_eq_getElem?_getD] <;> omega) | fail) [-getElem?_pos, -List.getD_eq_getElem?_getD, hn, ha, q1, q2, h4]
theorem line_flat (s : Str) (hs : s.length ≤ 1000) (b : T) (hb : isT "tuple" b = some (.bl false)) (fb : Fine b) : r_is_line [.tup [.str s, b]] = .ok (.bl false) := by
  have hn := r_name_str s hs
  have e1 := fb.hb
  have e2 := fb.tg view rfl
  unfold r_is_line g_is_line
  cases c : nameB s with
  | false =>
    rw [c] at hn
    simp (disch := first | assumption | omega | (simp [-getElem?_pos, -List.getD_eq_getElem?_getD] <;> omega) | fail) [-getElem?_pos, -List.getD_eq_getElem?_getD, hn]
  | true =>
    rw [c] at hn
    simp (disch := first | assumption | omega | (simp [-getElem?_pos, -List.getD_eq_getElem?_getD, e1] <;> omega) | fail) [-getElem?_pos, -List.getD_eq_getElem?_getD, hn, hb, e1, e2]

theorem keys_xs (ks : List Key) : ks.map kT = (ks.map (fun k => (Sum.inl k : XT))).map xT := by rw [List.map_map]; rfl
theorem all_keys (ks : List Key) : (ks.map (fun k => (Sum.inl k : XT))).all xOk = ks.all okT := by rw [List.all_map]; rfl
theorem fit_keys {ks : List Key} (h : ∀ k ∈ ks, okT k = true) : ∀ x ∈ ks.map (fun k => (Sum.inl k : XT)), xFit x := by
  intro x m
  obtain ⟨k, hk, rfl⟩ := List.mem_map.mp m
  cases k with
  | inl i => trivial
  | inr s => have := nameB_len (h _ hk); show s.length ≤ 1000; omega
theorem r_namesof (L : List Line) (hL : L.length ≤ 1000) (hl : ∀ l ∈ L, l.2.length ≤ 1000) : r_names_of [.tup (L.map lineT)] = .ok (.lst .own ((namesK L).map kT)) := by
  unfold r_names_of g_names_of
  simp (disch := first | assumption | omega | (simp [-getElem?_pos, -List.getD_eq_getElem?_getD] <;> omega) | fail) [-getElem?_pos, -List.getD_eq_getElem?_getD]
  refine loopM (P := fun o => bodyR o = .ok (.lst .own ((namesK L).map kT))) (fun p env => ∃ (f : List Key) (u v : Option T), env = [some (.tup (L.map lineT)), some (.lst .own (f.map kT)), u, v] ∧ f = namesK p ∧ f.length ≤ 1000 * p.length) ⟨[], _, _, rfl, rfl, by simp⟩ ?_ ?_
  · rintro p x q env e ⟨f, u, v, rfl, hf, hlen⟩
    have hp : p.length < 1000 := by
      have := congrArg List.length e
      simp at this; omega
    have hx : x.2.length ≤ 1000 := hl x (by rw [e]; simp)
    simp (disch := first | assumption | omega | (simp [-getElem?_pos, -List.getD_eq_getElem?_getD] <;> omega) | fail) [-getElem?_pos, -List.getD_eq_getElem?_getD]
    refine loopM1s (fun r env => ∃ (f' : List Key) (v : Option T), env = [some (.tup (L.map lineT)), some (.lst .own (f'.map kT)), some (lineT x), v] ∧ f' = r.foldl nameStep f) ⟨f, _, rfl, rfl⟩ ?_ ?_
    · rintro r k s env e2 ⟨f', v, rfl, hf'⟩
      have hr : r.length < 1000 := by
        have := congrArg List.length e2
        simp at this; omega
      have b1 := nameFold_len r f
      rw [← hf'] at b1
      by_cases c : k.isRight = true
      · by_cases c2 : k ∈ f'
        · simp (disch := first | assumption | omega | (simp [-getElem?_pos, -List.getD_eq_getElem?_getD] <;> omega) | fail) [-getElem?_pos, -List.getD_eq_getElem?_getD, c, c2, ← hf', nameStep]
        · simp (disch := first | assumption | omega | (simp [-getElem?_pos, -List.getD_eq_getElem?_getD] <;> omega) | fail) [-getElem?_pos, -List.getD_eq_getElem?_getD, c, c2, mAppend_ok, ← hf', nameStep]
      · simp (disch := first | assumption | omega | (simp [-getElem?_pos, -List.getD_eq_getElem?_getD] <;> omega) | fail) [-getElem?_pos, -List.getD_eq_getElem?_getD, c, ← hf', nameStep]
    · rintro env ⟨f', v, rfl, hf'⟩
      have b1 := nameFold_len x.2 f
      rw [← hf'] at b1
      have e3 : f' = namesK (p ++ [x]) := by rw [hf', hf]; simp [namesK, List.foldl_append]
      simp (disch := first | assumption | omega | (simp [-getElem?_pos, -List.getD_eq_getElem?_getD] <;> omega) | fail) [-getElem?_pos, -List.getD_eq_getElem?_getD, ← e3]
      exact ⟨f', rfl, rfl, by omega⟩
  · rintro env ⟨f, u, v, rfl, hf, _⟩
    simp (disch := first | assumption | omega | (simp [-getElem?_pos, -List.getD_eq_getElem?_getD] <;> omega) | fail) [-getElem?_pos, -List.getD_eq_getElem?_getD, hf]
/-! ### one width for each table -/
structure GoodL (l : Line) : Prop where
  nm : nameB l.1 = true
  len : 1 ≤ l.2.length ∧ l.2.length ≤ 6
  ks : ∀ k ∈ l.2, okT k = true
theorem okLine.good {ts} {l : Line} (tb : Tabs ts) (h : okLine ts l) : GoodL l := ⟨h.nm tb, h.len tb, h.ks⟩
def prL (l : Line) : Pr := (l.1, (l.2.length : Int))
theorem prs_ok {L : List Line} (oL : ∀ l ∈ L, GoodL l) : ∀ p ∈ L.map prL, strOkB p.1 = true := fun p m => by
  obtain ⟨l, h, rfl⟩ := List.mem_map.mp m
  exact nameB_ok (oL l h).nm
theorem r_tabs0 (y : T) (L : List Line) (hy : y = .tup (L.map lineT) ∨ y = .lst .prt (L.map lineT)) (oL : ∀ l ∈ L, GoodL l) (hL : L.length ≤ 60) : r_tables_of [y] = .ok (.lst .own ((sortP (ddA (L.map prL))).map prT)) := by
  unfold r_tables_of g_tables_of
  have h1 := sortSetX_prs (g := .brw) (ps := L.map prL) (by simp; omega) (prs_ok oL)
  have h2 := sortSetX_prs (g := .own) (ps := L.map prL) (by simp; omega) (prs_ok oL)
  have e1 : (L.map prL).map prT = L.map (fun l => prT (prL l)) := by rw [List.map_map]; rfl
  rw [e1] at h1 h2
  have hz : L.length ≤ 16777216 := by omega
  have vS := vals_prs (sortP (ddA (L.map prL)))
  generalize hS : (sortP (ddA (L.map prL))).map prT = S at *
  have hb : ∀ g, T.hasL g S = false := fun g => vals_has g vS
  rcases hy with rfl | rfl
  all_goals
    simp (disch := first | assumption | omega | (simp [-getElem?_pos, -List.getD_eq_getElem?_getD] <;> omega) | fail) [-getElem?_pos, -List.getD_eq_getElem?_getD, hz]
    rw [comp_allT (fun l : Line => prT (prL l))]
    · simp (disch := first | assumption | omega | (simp [-getElem?_pos, -List.getD_eq_getElem?_getD, hb] <;> omega) | fail) [-getElem?_pos, -List.getD_eq_getElem?_getD, h1, h2, hb]
    · intro l hl
      have h6 := (oL l hl).len.2
      have hz : l.2.length ≤ 16777216 := by omega
      simp (disch := first | assumption | omega | (simp [-getElem?_pos, -List.getD_eq_getElem?_getD] <;> omega) | fail) [-getElem?_pos, -List.getD_eq_getElem?_getD, hz]
      rfl
theorem r_tabs (L : List Line) (oL : ∀ l ∈ L, GoodL l) (hL : L.length ≤ 60) : r_tables_of [.tup (L.map lineT)] = .ok (.lst .own ((sortP (ddA (L.map prL))).map prT)) := r_tabs0 _ L (.inl rfl) oL hL
theorem ddA_le {α : Type} [DecidableEq α] (ns : List α) : (ddA ns).length ≤ ns.length := (nd_ddA ns).length_le_of_subset fun k m => mem_ddA.mp m
theorem ddA_nd {α : Type} [DecidableEq α] : ∀ {ns : List α}, ns.Nodup → ddA ns = ns
  | [], _ => rfl
  | n :: ns, h => by
    have h := List.nodup_cons.mp h
    rw [ddA, if_neg h.1, ddA_nd h.2]
theorem ddA_lt {α : Type} [DecidableEq α] : ∀ {ns : List α}, ¬ ns.Nodup → (ddA ns).length < ns.length
  | [], h => absurd List.nodup_nil h
  | n :: ns, h => by
    rw [ddA]
    split
    · have := ddA_le ns; simp; omega
    · rename_i m
      have : ¬ ns.Nodup := fun z => h (List.nodup_cons.mpr ⟨m, z⟩)
      have := ddA_lt this
      simp; omega
@[simp] theorem has_pr (g : Tg) (p : Pr) : T.has g (prT p) = false := val_has g rfl
@[simp] theorem tag_pr (f : Tg → Tg) (p : Pr) : T.tag f (prT p) = prT p := val_tag f rfl
theorem ix0_pr (p : Pr) : ixT (prT p) (.int 0) = some (kT (.inr p.1)) := rfl
theorem r_one_at0 (y : T) (L : List Line) (hy : y = .tup (L.map lineT) ∨ y = .lst .prt (L.map lineT)) (oL : ∀ l ∈ L, GoodL l) (hL : L.length ≤ 60) : r_one_width [y] = .ok (.bl (decide (((sortP (ddA (L.map prL))).map fun p => (Sum.inr p.1 : Key)).Nodup))) := by
  have ht := r_tabs0 y L hy oL hL
  unfold r_one_width g_one_width
  have lS : (sortP (ddA (L.map prL))).length ≤ 60 := by
    rw [(sortP_perm _).length_eq]
    have := ddA_le (L.map prL)
    rw [List.length_map] at this
    omega
  generalize sortP (ddA (L.map prL)) = S at *
  have vS := vals_prs S
  have hb : ∀ g, T.hasL g (S.map prT) = false := fun g => vals_has g vS
  have tS : ∀ f, T.tags f (S.map prT) = S.map prT := fun f => vals_tags f vS
  have hz : S.length ≤ 16777216 := by omega
  rcases hy with rfl | rfl
  all_goals
    simp (disch := first | assumption | omega | (simp [-getElem?_pos, -List.getD_eq_getElem?_getD, hb] <;> omega) | fail) [-getElem?_pos, -List.getD_eq_getElem?_getD, ht, hb, tS, hz]
    rw [comp_allT (fun p : Pr => kT (.inr p.1))]
    · have e : S.map (fun p : Pr => kT (.inr p.1)) = (S.map fun p => (Sum.inr p.1 : Key)).map kT := by rw [List.map_map]; rfl
      have lk : (S.map fun p => (Sum.inr p.1 : Key)).length = S.length := by simp
      rw [e]
      generalize (S.map fun p => (Sum.inr p.1 : Key)) = K at *
      have k1 : ∀ g, lenSetX (.lst g (K.map kT)) = some (.int (ddA K).length) := fun g => lenSetX_keys (by omega)
      by_cases nd : K.Nodup
      · have e2 : (ddA K).length = S.length := by rw [ddA_nd nd]; exact lk
        simp (disch := first | assumption | omega | (simp [-getElem?_pos, -List.getD_eq_getElem?_getD] <;> omega) | fail) [-getElem?_pos, -List.getD_eq_getElem?_getD, k1, e2, nd]
      · have l2 := ddA_lt nd
        have e2 : ¬ (S.length : Int) = ((ddA K).length : Int) := by omega
        have e3 : ¬ S.length = (ddA K).length := by omega
        simp (disch := first | assumption | omega | (simp [-getElem?_pos, -List.getD_eq_getElem?_getD] <;> omega) | fail) [-getElem?_pos, -List.getD_eq_getElem?_getD, k1, nd, e2, e3]
    · intro p hp
      simp (disch := first | assumption | omega | (simp [-getElem?_pos, -List.getD_eq_getElem?_getD] <;> omega) | fail) [-getElem?_pos, -List.getD_eq_getElem?_getD, ix0_pr]
theorem r_one_at (L : List Line) (oL : ∀ l ∈ L, GoodL l) (hL : L.length ≤ 60) : r_one_width [.tup (L.map lineT)] = .ok (.bl (decide (((sortP (ddA (L.map prL))).map fun p => (Sum.inr p.1 : Key)).Nodup))) := r_one_at0 _ L (.inl rfl) oL hL
theorem inj_of_nodup {α β : Type} {f : α → β} : ∀ {xs : List α} {a b : α}, (xs.map f).Nodup → a ∈ xs → b ∈ xs → f a = f b → a = b
  | [], _, _, _, h, _, _ => by simp at h
  | x :: xs, a, b, h, ha, hb, e => by
    have h := List.nodup_cons.mp h
    rcases List.mem_cons.mp ha with ea | ma
    · rcases List.mem_cons.mp hb with eb | mb
      · rw [ea, eb]
      · subst ea
        exact absurd (by rw [e]; exact List.mem_map_of_mem mb) h.1
    · rcases List.mem_cons.mp hb with eb | mb
      · subst eb
        exact absurd (by rw [← e]; exact List.mem_map_of_mem ma) h.1
      · exact inj_of_nodup h.2 ma mb e
def W1 (L : List Line) : Prop := ∀ l ∈ L, ∀ m ∈ L, l.1 = m.1 → l.2.length = m.2.length
theorem one_iff (L : List Line) : ((sortP (ddA (L.map prL))).map fun p => (Sum.inr p.1 : Key)).Nodup ↔ W1 L := by
  have nd : (sortP (ddA (L.map prL))).Nodup := (sortP_perm _).nodup_iff.mpr (nd_ddA _)
  have mem : ∀ p, p ∈ sortP (ddA (L.map prL)) ↔ p ∈ L.map prL := fun p => by rw [(sortP_perm _).mem_iff, mem_ddA]
  generalize sortP (ddA (L.map prL)) = S at *
  constructor
  · intro h l hl m hm e
    have a := (mem (prL l)).mpr (List.mem_map_of_mem hl)
    have b := (mem (prL m)).mpr (List.mem_map_of_mem hm)
    have : prL l = prL m := inj_of_nodup h a b (by show (Sum.inr l.1 : Key) = Sum.inr m.1; rw [e])
    have := congrArg Prod.snd this
    simp only [prL] at this
    omega
  · intro h
    rw [List.nodup_iff_pairwise_ne, List.pairwise_map]
    refine (List.nodup_iff_pairwise_ne.mp nd).imp_of_mem fun {p q} mp mq ne e => ?_
    obtain ⟨l, hl, rfl⟩ := List.mem_map.mp ((mem p).mp mp)
    obtain ⟨m, hm, rfl⟩ := List.mem_map.mp ((mem q).mp mq)
    have e1 : l.1 = m.1 := by simpa [prL] using e
    exact ne (by simp [prL, e1, h l hl m hm e1])

theorem one_true {L : List Line} (oL : ∀ l ∈ L, GoodL l) (hL : L.length ≤ 60) (h : W1 L) : r_one_width [.tup (L.map lineT)] = .ok (.bl true) := by
  rw [r_one_at L oL hL, decide_eq_true ((one_iff L).mpr h)]
theorem one_false {L : List Line} (oL : ∀ l ∈ L, GoodL l) (hL : L.length ≤ 60) (h : ¬ W1 L) : r_one_width [.tup (L.map lineT)] = .ok (.bl false) := by
  rw [r_one_at L oL hL, decide_eq_false fun z => h ((one_iff L).mp z)]
theorem okL.w1 {ts} {L : List Line} (tb : Tabs ts) (h : okL ts L) : W1 L := fun l hl m hm e => by
  have a := (h.ok l hl).tab
  have b := (h.ok m hm).tab
  have := inj_of_nodup tb.nd a b e
  have := congrArg Prod.snd this
  simp only at this
  omega
/-! ### what is_alternative tells -/
theorem line_true {l : Line} (g : GoodL l) : r_is_line [lineT l] = .ok (.bl true) := by
  obtain ⟨s, ks⟩ := l
  have h1 : nameB s = true := g.nm
  have h2 := g.len
  have h3 : ∀ k ∈ ks, okT k = true := g.ks
  have h2 : 1 ≤ ks.length ∧ ks.length ≤ 6 := h2
  have := line_terms s (by have := nameB_len h1; omega) (ks.map (fun k => (Sum.inl k : XT))) (fit_keys h3) (by simp; omega)
  rw [← keys_xs, all_keys] at this
  have e : ks.all okT = true := List.all_eq_true.mpr h3
  rw [h1, e] at this
  simp [h2.1, h2.2] at this
  exact this
structure Known (hs : List Key) (L : List Line) : Prop where
  ok : ∀ k ∈ hs, okT k = true
  kn : ∀ k ∈ hs, k.isRight = true → k ∈ namesK L
theorem alt_go {hs : List Key} {L : List Line} (oh : ∀ k ∈ hs, okT k = true) (lh : hs.length ≤ 4) (oL : ∀ l ∈ L, GoodL l) (lL : L.length ≤ 5) :
    r_is_alternative [.tup [.tup (hs.map kT), .tup (L.map lineT)]] = if (∀ k ∈ hs, k.isRight = true → k ∈ namesK L) then r_one_width [.tup (L.map lineT)] else .ok (.bl false) := by
  have ha := r_all (hs.map (fun k => (Sum.inl k : XT))) (fit_keys oh)
  rw [← keys_xs, all_keys, List.all_eq_true.mpr oh] at ha
  have z1 : hs.length ≤ 16777216 := by omega
  have z2 : L.length ≤ 16777216 := by omega
  have z3 : ¬ (4 : Int) < hs.length := by omega
  have z4 : ¬ (5 : Int) < L.length := by omega
  have z5 : ¬ 4 < hs.length := by omega
  have z6 : ¬ 5 < L.length := by omega
  have hn := r_namesof L (by omega) fun l m => by have := (oL l m).len.2; omega
  have ho := r_one_at L oL (by omega)
  rw [ho]
  generalize hZ : (if (∀ k ∈ hs, k.isRight = true → k ∈ namesK L) then (R.ok (T.bl (decide (((sortP (ddA (L.map prL))).map fun p => (Sum.inr p.1 : Key)).Nodup)))) else R.ok (T.bl false)) = Z
  generalize hb : decide (((sortP (ddA (L.map prL))).map fun p => (Sum.inr p.1 : Key)).Nodup) = b at *
  unfold r_is_alternative g_is_alternative
  have hZt : (∀ k ∈ hs, k.isRight = true → k ∈ namesK L) → R.ok (T.bl b) = Z := fun h => by rw [← hZ, if_pos h]
  have hZf : ∀ k, k ∈ hs → k.isRight = true → k ∉ namesK L → R.ok (T.bl false) = Z := fun k h1 h2 h3 => by rw [← hZ, if_neg fun z => h3 (z k h1 h2)]
  clear hZ
  generalize namesK L = N at *
  simp (disch := first | assumption | omega | (simp [-getElem?_pos, -List.getD_eq_getElem?_getD] <;> omega) | fail) [-getElem?_pos, -List.getD_eq_getElem?_getD, ha, z1, z2, z3, z4, z5, z6]
  refine loopM (P := fun o => bodyR o = Z) (fun p env => ∃ (u : Option T), env = [some (.tup [.tup (hs.map kT), .tup (L.map lineT)]), some (.tup (hs.map kT)), some (.tup (L.map lineT)), u, none, none]) ⟨_, rfl⟩ ?_ ?_
  · intro p x q env e hI
    obtain ⟨u, hu⟩ := hI
    subst hu
    have hx := line_true (oL x (by rw [e]; simp))
    simp (disch := first | assumption | omega | (simp [-getElem?_pos, -List.getD_eq_getElem?_getD] <;> omega) | fail) [-getElem?_pos, -List.getD_eq_getElem?_getD, hx]
  · intro env hI
    obtain ⟨u, hu⟩ := hI
    subst hu
    simp (disch := first | assumption | omega | (simp [-getElem?_pos, -List.getD_eq_getElem?_getD] <;> omega) | fail) [-getElem?_pos, -List.getD_eq_getElem?_getD, hn]
    refine loopM (P := fun o => bodyR o = Z) (fun p env => ∃ (v : Option T), env = [some (.tup [.tup (hs.map kT), .tup (L.map lineT)]), some (.tup (hs.map kT)), some (.tup (L.map lineT)), u, some (.lst .own (N.map kT)), v] ∧ ∀ k ∈ p, k.isRight = true → k ∈ N) ⟨_, rfl, by simp⟩ ?_ ?_
    · intro p x q env e hI
      obtain ⟨v, hu, hp⟩ := hI
      subst hu
      have hx : x ∈ hs := by rw [e]; simp
      have st := fun g => ninO_lstK x g N
      by_cases c : x.isRight = true
      · by_cases d : x ∈ N
        · simp (disch := first | assumption | omega | (simp [-getElem?_pos, -List.getD_eq_getElem?_getD] <;> omega) | fail) [-getElem?_pos, -List.getD_eq_getElem?_getD, c, st, d]
          intro k hk hr
          rcases hk with hk | rfl
          · exact hp k hk hr
          · exact d
        · have := hZf x hx c d
          simp (disch := first | assumption | omega | (simp [-getElem?_pos, -List.getD_eq_getElem?_getD] <;> omega) | fail) [-getElem?_pos, -List.getD_eq_getElem?_getD, c, st, d]
          exact this
      · simp (disch := first | assumption | omega | (simp [-getElem?_pos, -List.getD_eq_getElem?_getD] <;> omega) | fail) [-getElem?_pos, -List.getD_eq_getElem?_getD, c]
        intro k hk hr
        rcases hk with hk | rfl
        · exact hp k hk hr
        · exact absurd hr c
    · intro env hI
      obtain ⟨v, hu, hp⟩ := hI
      subst hu
      simp (disch := first | assumption | omega | (simp [-getElem?_pos, -List.getD_eq_getElem?_getD] <;> omega) | fail) [-getElem?_pos, -List.getD_eq_getElem?_getD, ho]
      exact hZt hp

theorem alt_true {hs : List Key} {L : List Line} (k : Known hs L) (lh : hs.length ≤ 4) (oL : ∀ l ∈ L, GoodL l) (lL : L.length ≤ 5) (w : W1 L) : r_is_alternative [.tup [.tup (hs.map kT), .tup (L.map lineT)]] = .ok (.bl true) := by
  rw [alt_go k.ok lh oL lL, if_pos k.kn, one_true oL (by omega) w]
theorem alt_unknown {hs : List Key} {L : List Line} (oh : ∀ k ∈ hs, okT k = true) (lh : hs.length ≤ 4) (oL : ∀ l ∈ L, GoodL l) (lL : L.length ≤ 5) {k : Key} (m : k ∈ hs) (r : k.isRight = true) (n : k ∉ namesK L) : r_is_alternative [.tup [.tup (hs.map kT), .tup (L.map lineT)]] = .ok (.bl false) := by
  rw [alt_go oh lh oL lL, if_neg fun z => n (z k m r)]
theorem alt_width {hs : List Key} {L : List Line} (oh : ∀ k ∈ hs, okT k = true) (lh : hs.length ≤ 4) (oL : ∀ l ∈ L, GoodL l) (lL : L.length ≤ 5) (w : ¬ W1 L) : r_is_alternative [.tup [.tup (hs.map kT), .tup (L.map lineT)]] = .ok (.bl false) := by
  rw [alt_go oh lh oL lL, one_false oL (by omega) w]
  split <;> rfl
theorem alt_flat {t : T} (h : isT "tuple" t = some (.bl false)) (f : Fine t) : r_is_alternative [t] = .ok (.bl false) := by
  have e1 := f.hb
  have e2 := f.tg view rfl
  unfold r_is_alternative g_is_alternative
  simp (disch := first | assumption | omega | (simp [-getElem?_pos, -List.getD_eq_getElem?_getD, e1] <;> omega) | fail) [-getElem?_pos, -List.getD_eq_getElem?_getD, h, e1, e2]
theorem alt_len {ts : List T} (ht : T.tags view ts = ts) (h : ts.length ≠ 2) (h2 : ts.length ≤ 1000) : r_is_alternative [.tup ts] = .ok (.bl false) := by
  have h3 : ¬ (ts.length : Int) = 2 := by omega
  have h4 : ts.length ≤ 16777216 := by omega
  unfold r_is_alternative g_is_alternative
  simp (disch := first | assumption | omega | (simp [-getElem?_pos, -List.getD_eq_getElem?_getD] <;> omega) | fail) [-getElem?_pos, -List.getD_eq_getElem?_getD, ht, h, h3, h4]
theorem alt_head {a b : T} (h : isT "tuple" a = some (.bl false)) (fa : Fine a) (fb : Fine b) : r_is_alternative [.tup [a, b]] = .ok (.bl false) := by
  have e1 := fa.hb
  have e2 := fa.tg view rfl
  have e3 := fb.hb
  have e4 := fb.tg view rfl
  unfold r_is_alternative g_is_alternative
  simp (disch := first | assumption | omega | (simp [-getElem?_pos, -List.getD_eq_getElem?_getD, e1, e3] <;> omega) | fail) [-getElem?_pos, -List.getD_eq_getElem?_getD, h, e1, e2, e3, e4]
theorem alt_terms {xs : List XT} {b : T} (fit : ∀ x ∈ xs, xFit x) (lx : xs.length ≤ 1000) (h : 4 < xs.length ∨ xs.all xOk = false) (fb : Fine b) : r_is_alternative [.tup [.tup (xs.map xT), b]] = .ok (.bl false) := by
  have e3 := fb.hb
  have e4 := fb.tg view rfl
  have ha := r_all xs fit
  have z1 : xs.length ≤ 16777216 := by omega
  unfold r_is_alternative g_is_alternative
  by_cases c : 4 < xs.length
  · have c2 : (4 : Int) < xs.length := by omega
    simp (disch := first | assumption | omega | (simp [-getElem?_pos, -List.getD_eq_getElem?_getD, e3] <;> omega) | fail) [-getElem?_pos, -List.getD_eq_getElem?_getD, ha, e3, e4, z1, c, c2]
  · have c2 : ¬ (4 : Int) < xs.length := by omega
    have h := h.resolve_left c
    rw [h] at ha
    simp (disch := first | assumption | omega | (simp [-getElem?_pos, -List.getD_eq_getElem?_getD, e3] <;> omega) | fail) [-getElem?_pos, -List.getD_eq_getElem?_getD, ha, e3, e4, z1, c, c2]
theorem alt_lines {hs : List Key} {b : T} (oh : ∀ k ∈ hs, okT k = true) (lh : hs.length ≤ 4) (h : isT "tuple" b = some (.bl false)) (fb : Fine b) : r_is_alternative [.tup [.tup (hs.map kT), b]] = .ok (.bl false) := by
  have e3 := fb.hb
  have e4 := fb.tg view rfl
  have ha := r_all (hs.map (fun k => (Sum.inl k : XT))) (fit_keys oh)
  rw [← keys_xs, all_keys, List.all_eq_true.mpr oh] at ha
  have z1 : hs.length ≤ 16777216 := by omega
  have z3 : ¬ (4 : Int) < hs.length := by omega
  have z5 : ¬ 4 < hs.length := by omega
  unfold r_is_alternative g_is_alternative
  simp (disch := first | assumption | omega | (simp [-getElem?_pos, -List.getD_eq_getElem?_getD, e3] <;> omega) | fail) [-getElem?_pos, -List.getD_eq_getElem?_getD, ha, e3, e4, z1, z3, z5, h]
theorem alt_many {hs : List Key} {ts : List T} (oh : ∀ k ∈ hs, okT k = true) (lh : hs.length ≤ 4) (lt : 5 < ts.length) (l2 : ts.length ≤ 1000) (fb : Fine (.tup ts)) : r_is_alternative [.tup [.tup (hs.map kT), .tup ts]] = .ok (.bl false) := by
  have e3 := fb.hb
  have e4 := fb.tg view rfl
  have e5 : T.hasL .brw ts = false := e3
  have e6 : T.tags view ts = ts := by simpa using e4
  have ha := r_all (hs.map (fun k => (Sum.inl k : XT))) (fit_keys oh)
  rw [← keys_xs, all_keys, List.all_eq_true.mpr oh] at ha
  have z1 : hs.length ≤ 16777216 := by omega
  have z2 : ts.length ≤ 16777216 := by omega
  have z3 : ¬ (4 : Int) < hs.length := by omega
  have z5 : ¬ 4 < hs.length := by omega
  have z4 : (5 : Int) < ts.length := by omega
  unfold r_is_alternative g_is_alternative
  simp (disch := first | assumption | omega | (simp [-getElem?_pos, -List.getD_eq_getElem?_getD, e5] <;> omega) | fail) [-getElem?_pos, -List.getD_eq_getElem?_getD, ha, e5, e6, z1, z2, z3, z4, z5, lt]
/-- a wrong line amid right ones -/
theorem alt_bad {hs : List Key} {L1 : List Line} {t : T} {rest : List T} (oh : ∀ k ∈ hs, okT k = true) (lh : hs.length ≤ 4) (oL : ∀ l ∈ L1, GoodL l) (bad : Bad t) (lt : L1.length + rest.length < 5) (fr : ∀ u ∈ rest, Fine u) :
    r_is_alternative [.tup [.tup (hs.map kT), .tup (L1.map lineT ++ t :: rest)]] = .ok (.bl false) := by
  have ha := r_all (hs.map (fun k => (Sum.inl k : XT))) (fit_keys oh)
  rw [← keys_xs, all_keys, List.all_eq_true.mpr oh] at ha
  have fl : ∀ {l : Line}, Fine (lineT l) := fun {l} => .val (by
    obtain ⟨s, ks⟩ := l
    show T.vals [.str s, .tup (ks.map kT)] = true
    simp [T.vals, T.val])
  have fine : ∀ u ∈ L1.map lineT ++ t :: rest, Fine u := fun u m => by
    rcases List.mem_append.mp m with m | m
    · obtain ⟨l, _, rfl⟩ := List.mem_map.mp m
      exact fl
    · rcases List.mem_cons.mp m with rfl | m
      · exact bad.toFine
      · exact fr u m
  have ln : (L1.map lineT ++ t :: rest).length = L1.length + 1 + rest.length := by simp; omega
  have at_ : ∀ p x q, L1.map lineT ++ t :: rest = p ++ x :: q → (p.length < L1.length → ∃ l ∈ L1, x = lineT l) ∧ (p.length = L1.length → x = t) := fun p x q e => by
    have := congrArg (fun l => l[p.length]?) e
    simp only [List.getElem?_append_right (Nat.le_refl p.length), Nat.sub_self, List.getElem?_cons_zero] at this
    constructor
    · intro h
      rw [List.getElem?_append_left (by simpa using h), List.getElem?_map, List.getElem?_eq_getElem h] at this
      exact ⟨_, List.getElem_mem h, (Option.some.inj this).symm⟩
    · intro h
      rw [List.getElem?_append_right (by simp; omega)] at this
      simp [h] at this
      exact this.symm
  generalize L1.map lineT ++ t :: rest = M at *
  have hasM : T.hasL .brw M = false := by
    clear at_ ln
    induction M with
    | nil => rfl
    | cons u M ih => simp [(fine u (by simp)).hb, ih fun v m => fine v (by simp [m])]
  have tagM : ∀ f : Tg → Tg, f .shr = .shr → T.tags f M = M := fun f hf => by
    clear at_ ln hasM
    induction M with
    | nil => rfl
    | cons u M ih => simp [(fine u (by simp)).tg f hf, ih fun v m => fine v (by simp [m])]
  have t1 := tagM view rfl
  have t2 := tagM frze rfl
  have z1 : hs.length ≤ 16777216 := by omega
  have z2 : M.length ≤ 16777216 := by omega
  have z3 : ¬ (4 : Int) < hs.length := by omega
  have z4 : ¬ (5 : Int) < M.length := by omega
  have z5 : ¬ 4 < hs.length := by omega
  have z6 : ¬ 5 < M.length := by omega
  unfold r_is_alternative g_is_alternative
  have it : itemsOf true (.tup M) = .ok M := by simp [itemsOf, hasM, t2]
  simp (disch := first | assumption | omega | (simp [-getElem?_pos, -List.getD_eq_getElem?_getD, hasM] <;> omega) | fail) [-getElem?_pos, -List.getD_eq_getElem?_getD, ha, z1, z2, z3, z4, z5, z6, hasM, t1, t2, it]
  refine loopL (P := fun o => bodyR o = .ok (.bl false)) (fun p env => ∃ (u : Option T), env = [some (.tup [.tup (hs.map kT), .tup M]), some (.tup (hs.map kT)), some (.tup M), u, none, none] ∧ p.length ≤ L1.length) ⟨_, rfl, by simp⟩ ?_ ?_
  · intro p x q env e hI
    obtain ⟨u, hu, hp⟩ := hI
    subst hu
    have fx := fine x (by rw [e]; simp)
    have f1 := fx.hb
    have f2 := fx.tg view rfl
    obtain ⟨a1, a2⟩ := at_ p x q e
    by_cases c : p.length < L1.length
    · obtain ⟨l, hl, rfl⟩ := a1 c
      have hx := line_true (oL l hl)
      simp (disch := first | assumption | omega | (simp [-getElem?_pos, -List.getD_eq_getElem?_getD, f1] <;> omega) | fail) [-getElem?_pos, -List.getD_eq_getElem?_getD, f1, f2, hx]
      omega
    · obtain rfl := a2 (by omega)
      have hx := bad.isl
      simp (disch := first | assumption | omega | (simp [-getElem?_pos, -List.getD_eq_getElem?_getD, f1] <;> omega) | fail) [-getElem?_pos, -List.getD_eq_getElem?_getD, f1, f2, hx]
  · intro env hI
    obtain ⟨u, hu, hp⟩ := hI
    exfalso
    omega
--SPLIT
/-! ### what is_question tells -/
abbrev Alt := List Key × List Line
def altT (a : Alt) : T := .tup [.tup (a.1.map kT), .tup (a.2.map lineT)]
theorem fine_line (l : Line) : (lineT l).val = true := by
  obtain ⟨s, ks⟩ := l
  show T.vals [.str s, .tup (ks.map kT)] = true
  simp [T.vals, T.val]
theorem fine_lines (L : List Line) : T.vals (L.map lineT) = true := vals_iff.mpr fun t m => by obtain ⟨l, _, rfl⟩ := List.mem_map.mp m; exact fine_line l
theorem alt_val (a : Alt) : (altT a).val = true := by
  have := fine_lines a.2
  show T.vals [.tup (a.1.map kT), .tup (a.2.map lineT)] = true
  simp [T.vals, T.val, this]
@[simp] theorem has_alt (g : Tg) (a : Alt) : T.has g (altT a) = false := val_has g (alt_val a)
@[simp] theorem tag_alt (f : Tg → Tg) (a : Alt) : T.tag f (altT a) = altT a := val_tag f (alt_val a)
@[simp] theorem vals_alts (A : List Alt) : T.vals (A.map altT) = true := vals_iff.mpr fun t m => by obtain ⟨l, _, rfl⟩ := List.mem_map.mp m; exact alt_val l
@[simp] theorem alt_0 (a : Alt) : ixT (altT a) (.int 0) = some (.tup (a.1.map kT)) := id rfl
@[simp] theorem alt_1 (a : Alt) : ixT (altT a) (.int 1) = some (.tup (a.2.map lineT)) := id rfl
structure okA (a : Alt) : Prop where
  kn : Known a.1 a.2
  lh : a.1.length ≤ 4
  gl : ∀ l ∈ a.2, GoodL l
  ll : a.2.length ≤ 5
  w1 : W1 a.2
theorem alt_ok {a : Alt} (h : okA a) : r_is_alternative [altT a] = .ok (.bl true) := alt_true h.kn h.lh h.gl h.ll h.w1
def flatL (A : List Alt) : List Line := A.flatMap (·.2)
theorem flatL_len {A : List Alt} (h : ∀ a ∈ A, okA a) : (flatL A).length ≤ 5 * A.length := by
  unfold flatL
  induction A with
  | nil => simp
  | cons a A ih =>
    have h1 := (h a (by simp)).ll
    have h2 := ih fun x m => h x (by simp [m])
    simp only [List.flatMap_cons, List.length_append, List.length_cons]
    omega
theorem flatL_good {A : List Alt} (h : ∀ a ∈ A, okA a) : ∀ l ∈ flatL A, GoodL l := fun l m => by
  obtain ⟨a, ha, hl⟩ := List.mem_flatMap.mp m
  exact (h a ha).gl l hl
structure IsFl (p : List Alt) (f : List Line) : Prop where
  eq : f = flatL p
structure Even (n : Nat) (p : List Alt) : Prop where
  all : ∀ a ∈ p, a.1.length = n
theorem q_flat {t : T} (h : isT "list" t = some (.bl false)) (f : Fine t) : r_is_question [t] = .ok (.bl false) := by
  have e1 := f.hb
  have e2 := f.tg view rfl
  unfold r_is_question g_is_question
  simp (disch := first | assumption | omega | (simp [-getElem?_pos, -List.getD_eq_getElem?_getD, e1] <;> omega) | fail) [-getElem?_pos, -List.getD_eq_getElem?_getD, h, e1, e2]
theorem q_long {g : Tg} (hg : g = .prt ∨ g = .shr) {X : List T} (fx : ∀ t ∈ X, Fine t) (h : 3 < X.length) (h2 : X.length ≤ 100) : r_is_question [.lst g X] = .ok (.bl false) := by
  have h3 : (3 : Int) < X.length := by omega
  have h4 : X.length ≤ 16777216 := by omega
  have hasM : T.hasL .brw X = false := by
    clear h h2 h3 h4
    induction X with
    | nil => rfl
    | cons u M ih => simp [(fx u (by simp)).hb, ih fun v m => fx v (by simp [m])]
  have tagM : ∀ f : Tg → Tg, f .shr = .shr → T.tags f X = X := fun f hf => by
    clear h h2 h3 h4 hasM
    induction X with
    | nil => rfl
    | cons u M ih => simp [(fx u (by simp)).tg f hf, ih fun v m => fx v (by simp [m])]
  have t1 := tagM view rfl
  unfold r_is_question g_is_question
  rcases hg with rfl | rfl
  · simp (disch := first | assumption | omega | (simp [-getElem?_pos, -List.getD_eq_getElem?_getD, hasM] <;> omega) | fail) [-getElem?_pos, -List.getD_eq_getElem?_getD, h, h3, h4, hasM, t1]
  · simp (disch := first | assumption | omega | (simp [-getElem?_pos, -List.getD_eq_getElem?_getD, hasM] <;> omega) | fail) [-getElem?_pos, -List.getD_eq_getElem?_getD, h, h3, h4, hasM, t1]
theorem q_go {g : Tg} (hg : g = .prt ∨ g = .shr) {A : List Alt} (oA : ∀ a ∈ A, okA a) (lA : A.length ≤ 3) {n : Nat} (hn : n = (A.getD 0 ([], [])).1.length) :
    r_is_question [.lst g (A.map altT)] = if (∀ a ∈ A, a.1.length = n) then r_one_width [.lst .prt ((flatL A).map lineT)] else .ok (.bl false) := by
  have lF := flatL_len oA
  have gF := flatL_good oA
  have ho := r_one_at0 _ (flatL A) (.inr rfl) gF (by omega)
  rw [ho]
  generalize hb : decide (((sortP (ddA ((flatL A).map prL))).map fun p => (Sum.inr p.1 : Key)).Nodup) = b at *
  generalize hZ : (if (∀ a ∈ A, a.1.length = n) then R.ok (T.bl b) else R.ok (T.bl false)) = Z
  have hZt : (∀ a ∈ A, a.1.length = n) → R.ok (T.bl b) = Z := fun h => by rw [← hZ, if_pos h]
  have hZf : ∀ a, a ∈ A → a.1.length ≠ n → R.ok (T.bl false) = Z := fun a h1 h2 => by rw [← hZ, if_neg fun z => h2 (z a h1)]
  clear hZ hb
  have z1 : A.length ≤ 16777216 := by omega
  have z2 : ¬ (3 : Int) < A.length := by omega
  have z3 : ¬ 3 < A.length := by omega
  have n4 : n ≤ 4 := by
    rw [hn]
    cases A with
    | nil => simp
    | cons a A => exact (oA a (by simp)).lh
  unfold r_is_question g_is_question
  have i0 : ∀ g, 0 < A.length → ixT (.lst g (A.map altT)) (.int 0) = some (altT (A.getD 0 ([], []))) := fun g h => by
    have := ixT_lstM (g := g) (f := altT) (([], []) : Alt) (L := A) (i := 0) (by omega) (by omega)
    exact this
  generalize A.getD 0 ([], []) = a0 at *
  rcases hg with rfl | rfl
  all_goals
    simp (disch := first | assumption | omega | (simp [-getElem?_pos, -List.getD_eq_getElem?_getD] <;> omega) | fail) [-getElem?_pos, -List.getD_eq_getElem?_getD, z1, z2, z3]
    refine loopM (P := fun o => bodyR o = Z) (fun p env => ∃ (g : Tg) (f : List Line) (u : Option T), env = [some (.lst g (A.map altT)), some (.lst .own (f.map lineT)), u] ∧ (g = .prt ∨ g = .shr) ∧ IsFl p f ∧ Even n p) ⟨_, [], _, rfl, by simp, ⟨rfl⟩, ⟨by simp⟩⟩ ?_ ?_
    · intro p x q env e hI
      obtain ⟨g, f, u, hu, hg, ⟨hf⟩, hp⟩ := hI
      subst hu
      have hx : x ∈ A := by rw [e]; simp
      have ha := alt_ok (oA x hx)
      have i1 := fun g => i0 g (List.length_pos_of_mem hx)
      have lx := (oA x hx).lh
      have lx2 := (oA x hx).ll
      have zx : x.1.length ≤ 16777216 := by omega
      have za : a0.1.length ≤ 16777216 := by omega
      have lf : f.length ≤ 100 := by
        have h1 := flatL_len (A := p) fun a m => oA a (by rw [e]; simp [m])
        have h2 := congrArg List.length e
        rw [hf]
        simp at h2
        omega
      by_cases c : x.1.length = n
      · have c2 : (x.1.length : Int) = (a0.1.length : Int) := by omega
        have c3 : x.1.length = a0.1.length := by omega
        rcases hg with rfl | rfl
        all_goals
          simp (disch := first | assumption | omega | (simp [-getElem?_pos, -List.getD_eq_getElem?_getD] <;> omega) | fail) [-getElem?_pos, -List.getD_eq_getElem?_getD, ha, i1, zx, za, c2, c3, mExtX_tup]
          refine ⟨_, f ++ x.2, ⟨rfl, by simp⟩, by simp, ⟨by rw [hf]; simp [flatL]⟩, ⟨fun a m => ?_⟩⟩
          rcases List.mem_append.mp m with m | m
          · exact hp.all a m
          · rw [List.mem_singleton.mp m]; exact c
      · have c2 : ¬ (x.1.length : Int) = (a0.1.length : Int) := by omega
        have c3 : ¬ x.1.length = a0.1.length := by omega
        have := hZf x hx c
        rcases hg with rfl | rfl
        all_goals
          simp (disch := first | assumption | omega | (simp [-getElem?_pos, -List.getD_eq_getElem?_getD] <;> omega) | fail) [-getElem?_pos, -List.getD_eq_getElem?_getD, ha, i1, zx, za, c2, c3]
          exact this
    · intro env hI
      obtain ⟨g, f, u, hu, hg, ⟨hf⟩, hp⟩ := hI
      subst hu
      rw [← hf] at ho
      have vf := fine_lines f
      have hv : ∀ g, T.hasL g (f.map lineT) = false := fun g => vals_has g vf
      rcases hg with rfl | rfl
      all_goals
        simp (disch := first | assumption | omega | (simp [-getElem?_pos, -List.getD_eq_getElem?_getD, hv] <;> omega) | fail) [-getElem?_pos, -List.getD_eq_getElem?_getD, ho, hv]
        exact hZt hp.all

theorem q_true {g : Tg} (hg : g = .prt ∨ g = .shr) {A : List Alt} (oA : ∀ a ∈ A, okA a) (lA : A.length ≤ 3) {n : Nat} (hn : ∀ a ∈ A, a.1.length = n) (w : W1 (flatL A)) : r_is_question [.lst g (A.map altT)] = .ok (.bl true) := by
  have e : (A.getD 0 ([], [])).1.length = (if A = [] then 0 else n) := by
    cases A with
    | nil => rfl
    | cons a A => rw [if_neg (by simp)]; exact hn a (by simp)
  rw [q_go hg oA lA e.symm, if_pos, r_one_at0 _ (flatL A) (.inr rfl) (flatL_good oA) (by have := flatL_len oA; omega), decide_eq_true ((one_iff _).mpr w)]
  intro a m
  rw [if_neg (by intro z; rw [z] at m; simp at m)]
  exact hn a m
theorem q_len {g : Tg} (hg : g = .prt ∨ g = .shr) {A : List Alt} (oA : ∀ a ∈ A, okA a) (lA : A.length ≤ 3) {a b : Alt} (ha : a ∈ A) (hb : b ∈ A) (n : a.1.length ≠ b.1.length) : r_is_question [.lst g (A.map altT)] = .ok (.bl false) := by
  rw [q_go hg oA lA rfl, if_neg fun z => n ((z a ha).trans (z b hb).symm)]
theorem q_width {g : Tg} (hg : g = .prt ∨ g = .shr) {A : List Alt} (oA : ∀ a ∈ A, okA a) (lA : A.length ≤ 3) (w : ¬ W1 (flatL A)) : r_is_question [.lst g (A.map altT)] = .ok (.bl false) := by
  rw [q_go hg oA lA rfl, r_one_at0 _ (flatL A) (.inr rfl) (flatL_good oA) (by have := flatL_len oA; omega), decide_eq_false fun z => w ((one_iff _).mp z)]
  split <;> rfl
structure BadA (t : T) : Prop where
  fine : Fine t
  alt : r_is_alternative [t] = .ok (.bl false)
/-- a wrong one amid right ones -/
theorem q_bad {g : Tg} (hg : g = .prt ∨ g = .shr) {A : List Alt} (oA : ∀ a ∈ A, okA a) {n : Nat} (hn : ∀ a ∈ A, a.1.length = n) {t : T} {rest : List T} (bad : BadA t) (lt : A.length + rest.length < 100) (fr : ∀ u ∈ rest, Fine u) :
    r_is_question [.lst g (A.map altT ++ t :: rest)] = .ok (.bl false) := by
  have fine : ∀ u ∈ A.map altT ++ t :: rest, Fine u := fun u m => by
    rcases List.mem_append.mp m with m | m
    · obtain ⟨l, _, rfl⟩ := List.mem_map.mp m
      exact .val (alt_val l)
    · rcases List.mem_cons.mp m with rfl | m
      · exact bad.fine
      · exact fr u m
  have ln : (A.map altT ++ t :: rest).length = A.length + 1 + rest.length := by simp; omega
  have at_ : ∀ p x q, A.map altT ++ t :: rest = p ++ x :: q → (p.length < A.length → ∃ a ∈ A, x = altT a) ∧ (p.length = A.length → x = t) := fun p x q e => by
    have := congrArg (fun l => l[p.length]?) e
    simp only [List.getElem?_append_right (Nat.le_refl p.length), Nat.sub_self, List.getElem?_cons_zero] at this
    constructor
    · intro h
      rw [List.getElem?_append_left (by simpa using h), List.getElem?_map, List.getElem?_eq_getElem h] at this
      exact ⟨_, List.getElem_mem h, (Option.some.inj this).symm⟩
    · intro h
      rw [List.getElem?_append_right (by simp; omega)] at this
      simp [h] at this
      exact this.symm
  have i0 : ∀ g, 0 < A.length → ∃ a ∈ A, ixT (.lst g (A.map altT ++ t :: rest)) (.int 0) = some (altT a) := fun g h => by
    match A, h with
    | a :: A, _ => exact ⟨a, by simp, by rw [ixT_lst (by omega) (by simp; omega)]; rfl⟩
  generalize A.map altT ++ t :: rest = M at *
  by_cases l3 : 3 < M.length
  · exact q_long hg fine l3 (by omega)
  have hasM : T.hasL .brw M = false := by
    clear at_ ln i0 l3
    induction M with
    | nil => rfl
    | cons u M ih => simp [(fine u (by simp)).hb, ih fun v m => fine v (by simp [m])]
  have tagM : ∀ f : Tg → Tg, f .shr = .shr → T.tags f M = M := fun f hf => by
    clear at_ ln hasM i0 l3
    induction M with
    | nil => rfl
    | cons u M ih => simp [(fine u (by simp)).tg f hf, ih fun v m => fine v (by simp [m])]
  have t1 := tagM view rfl
  have t2 := tagM frze rfl
  have z2 : M.length ≤ 16777216 := by omega
  have z4 : ¬ (3 : Int) < M.length := by omega
  have it : ∀ g, (g = .prt ∨ g = .shr) → itemsOf true (.lst g M) = .ok M := fun g hg => by
    rcases hg with rfl | rfl <;> simp [itemsOf, hasM, t2]
  have itp := it .prt (by simp)
  have its := it .shr (by simp)
  unfold r_is_question g_is_question
  rcases hg with rfl | rfl
  all_goals
    simp (disch := first | assumption | omega | (simp [-getElem?_pos, -List.getD_eq_getElem?_getD, hasM] <;> omega) | fail) [-getElem?_pos, -List.getD_eq_getElem?_getD, z2, z4, l3, hasM, t1, t2, itp, its]
    refine loopL (P := fun o => bodyR o = .ok (.bl false)) (fun p env => ∃ (g : Tg) (f : List Line) (u : Option T), env = [some (.lst g M), some (.lst .own (f.map lineT)), u] ∧ (g = .prt ∨ g = .shr) ∧ p.length ≤ A.length ∧ f.length ≤ 5 * p.length) ⟨_, [], _, rfl, by simp, by simp, by simp⟩ ?_ ?_
    · intro p x q env e hI
      obtain ⟨g, f, u, hu, hg, hp, lf⟩ := hI
      subst hu
      have fx := fine x (by rw [e]; simp)
      have f1 := fx.hb
      have f2 := fx.tg view rfl
      have f3 := fx.tg frze rfl
      obtain ⟨a1, a2⟩ := at_ p x q e
      by_cases c : p.length < A.length
      · obtain ⟨a, ma, rfl⟩ := a1 c
        have ha := alt_ok (oA a ma)
        have lx := (oA a ma).lh
        have lx2 := (oA a ma).ll
        have zx : a.1.length ≤ 16777216 := by omega
        obtain ⟨b, mb, hb⟩ := i0 .brw (by omega)
        obtain ⟨b', mb', hb'⟩ := i0 .shr (by omega)
        obtain ⟨b2, mb2, hb2⟩ := i0 .prt (by omega)
        have e1 : a.1.length = b.1.length := by rw [hn a ma, hn b mb]
        have e2 : a.1.length = b'.1.length := by rw [hn a ma, hn b' mb']
        have e3 : a.1.length = b2.1.length := by rw [hn a ma, hn b2 mb2]
        have zb : b.1.length ≤ 16777216 := by omega
        have zb' : b'.1.length ≤ 16777216 := by omega
        have zb2 : b2.1.length ≤ 16777216 := by omega
        rcases hg with rfl | rfl
        all_goals
          simp (disch := first | assumption | omega | (simp [-getElem?_pos, -List.getD_eq_getElem?_getD, hasM] <;> omega) | fail) [-getElem?_pos, -List.getD_eq_getElem?_getD, hasM, t1, t2, ha, hb, hb', hb2, zx, zb, zb', zb2, ← e1, ← e2, ← e3, mExtX_tup]
          refine ⟨_, f ++ a.2, ⟨rfl, by simp⟩, by simp, by omega, by simp; omega⟩
      · obtain rfl := a2 (by omega)
        have hx := bad.alt
        rcases hg with rfl | rfl
        all_goals
          simp (disch := first | assumption | omega | (simp [-getElem?_pos, -List.getD_eq_getElem?_getD, hasM, f1] <;> omega) | fail) [-getElem?_pos, -List.getD_eq_getElem?_getD, hasM, t1, t2, hx, f1, f2, f3]
    · intro env hI
      obtain ⟨g, f, u, hu, hg, hp, lf⟩ := hI
      exfalso
      omega
--SPLIT
/-! ### the draws of k06 -/
structure DrawA (ts : List (Str × Int)) (n : Nat) (a : Alt) : Prop where
  ok : okL ts a.2
  ll : a.2.length ≤ 5
  ln : a.1.length = n
  kn : Known a.1 a.2
theorem DrawA.okA {ts} {n : Nat} {a : Alt} (tb : Tabs ts) (h : DrawA ts n a) (n4 : n ≤ 4) : okA a := ⟨h.kn, by rw [h.ln]; exact n4, fun l m => (h.ok.ok l m).good tb, h.ll, h.ok.w1 tb⟩
structure AltR (ts : List (Str × Int)) (n : Nat) (r : R T) : Prop where
  ex : ∃ a : Alt, r = .ok (altT a) ∧ DrawA ts n a
structure IsFlat (p : List Line) (f : List Key) : Prop where
  eq : f = p.flatMap (·.2)
structure IsHead (F hs : List Key) : Prop where
  ok : ∀ k ∈ hs, k ∈ F ∨ ∃ i, k = .inl i ∧ numB i = true
theorem flat_len {L : List Line} (h6 : ∀ l ∈ L, l.2.length ≤ 6) : (L.flatMap (·.2)).length ≤ 6 * L.length := by
  induction L with
  | nil => simp
  | cons l L ih =>
    have a := h6 l (by simp)
    have b := ih fun x m => h6 x (by simp [m])
    simp only [List.flatMap_cons, List.length_append, List.length_cons]
    omega
theorem r_alternative {ts : List (Str × Int)} (tb : Tabs ts) {w : Nat} {ws : List Str} (ow : okW w ws) (ns : List Int) (k : Nat) (hk : k ≤ 3) (n : Nat) (n4 : n ≤ 4) :
    AltR ts n (r_lalternative [.lst .fzn (ns.map T.int), .int (2 + 17 * (k : Int)), .lst .prt (ts.map tabT), .lst .prt (ws.map T.str), .int n]) := by
  obtain ⟨st, hst, st2⟩ : ∃ st : Nat, 2 + 17 * (k : Int) + 1 = st ∧ st ≤ 1000 := ⟨2 + 17 * k + 1, by omega, by omega⟩
  obtain ⟨c, hc⟩ : ∃ c, cellI ns (2 + 17 * (k : Int)) = c := ⟨_, rfl⟩
  have rc : r_lcell [.lst .fzn (ns.map T.int), .int (2 + 17 * (k : Int))] = .ok (.int c) := by rw [r_cell _ _ (by omega) (by omega), hc]
  have m0 := Int.emod_nonneg (mixI c 25) (show (6 : Int) ≠ 0 by omega)
  have m1 := Int.emod_lt_of_pos (mixI c 25) (show (0 : Int) < 6 by omega)
  obtain ⟨m, hm⟩ : ∃ m : Nat, mixI c 25 % 6 = m := ⟨(mixI c 25 % 6).toNat, by omega⟩
  obtain ⟨L, hL, lL, oL⟩ := (r_lines ns st st2 ts ws m (by omega) tb ow).ex
  have h6 : ∀ l ∈ L, l.2.length ≤ 6 := fun l m => ((oL.ok l m).len tb).2
  have lF := flat_len h6
  have hz2 : L.length ≤ 16777216 := by omega
  unfold r_lalternative g_lalternative
  simp (disch := first | assumption | omega | (simp [-getElem?_pos, -List.getD_eq_getElem?_getD] <;> omega) | fail) [-getElem?_pos, -List.getD_eq_getElem?_getD, rc, hst, r_mix, modT_ok, hm, hL]
  refine loopM (P := fun o => AltR ts n (bodyR o)) (fun p env => ∃ (f : List Key) (u : Option T), env = [some (.lst .fzn (ns.map T.int)), some (.int (2 + 17 * (k : Int))), some (.lst .prt (ts.map tabT)), some (.lst .prt (ws.map T.str)), some (.int n), some (.int c), some (.lst .shr (L.map lineT)), some (.lst .own (f.map kT)), u, none, none] ∧ IsFlat p f) ⟨[], _, rfl, ⟨rfl⟩⟩ ?_ ?_
  · intro p x q env e hI
    obtain ⟨f, u, hu, ⟨hf⟩⟩ := hI
    subst hu
    have lf : f.length + x.2.length ≤ 1000 := by
      have := flat_len (L := p ++ [x]) fun l m => h6 l (by rw [e]; simp at m ⊢; rcases m with m | m; exact .inl m; exact .inr (.inl m))
      rw [List.flatMap_append, ← hf] at this
      have := congrArg List.length e
      simp at *
      omega
    simp (disch := first | assumption | omega | (simp [-getElem?_pos, -List.getD_eq_getElem?_getD] <;> omega) | fail) [-getElem?_pos, -List.getD_eq_getElem?_getD, mExtX_tup]
    exact ⟨f ++ x.2, by simp, ⟨by rw [hf]; simp⟩⟩
  · intro env hI
    obtain ⟨F, u, hu, ⟨hF⟩⟩ := hI
    subst hu
    rw [← hF] at lF
    simp (disch := first | assumption | omega | (simp [-getElem?_pos, -List.getD_eq_getElem?_getD] <;> omega) | fail) [-getElem?_pos, -List.getD_eq_getElem?_getD, rng2_ok]
    refine loopR (P := fun o => AltR ts n (bodyR o)) (fun j env => ∃ (hs : List Key) (a : Option T), env = [some (.lst .fzn (ns.map T.int)), some (.int (2 + 17 * (k : Int))), some (.lst .prt (ts.map tabT)), some (.lst .prt (ws.map T.str)), some (.int n), some (.int c), some (.lst .shr (L.map lineT)), some (.lst .own (F.map kT)), u, some (.lst .own (hs.map kT)), a] ∧ hs.length = j ∧ IsHead F hs) ⟨[], _, rfl, rfl, ⟨by simp⟩⟩ ?_ ?_
    · rintro j env hj ⟨hs, a, rfl, lh, ih⟩
      have q0 := mix_nn c (44 + j)
      have q1 := mix_lt c (44 + j)
      have num : numB (mixI c (44 + j) - 1000000000) = true := (numB_iff _).mpr ⟨by omega, by omega⟩
      have add : ∀ x : Key, (x ∈ F ∨ ∃ i, x = .inl i ∧ numB i = true) → IsHead F (hs ++ [x]) := fun x hx => ⟨fun k m => by
        rcases List.mem_append.mp m with m | m
        · exact ih.ok k m
        · rw [List.mem_singleton.mp m]; exact hx⟩
      by_cases z : 0 < F.length
      · have z2 : (0 : Int) < F.length := by omega
        have m0 := Int.emod_nonneg (mixI c (40 + j)) (show (F.length : Int) ≠ 0 by omega)
        have m1 := Int.emod_lt_of_pos (mixI c (40 + j)) z2
        by_cases y : 0 < mixI c (26 + j) % 3
        · have mm : F.getD (mixI c (40 + j) % F.length).toNat (.inl 0) ∈ F := getD_in _ (by omega)
          simp (disch := first | assumption | omega | (simp [-getElem?_pos, -List.getD_eq_getElem?_getD] <;> omega) | fail) [-getElem?_pos, -List.getD_eq_getElem?_getD, r_mix, modT_ok, z, z2, y, ixT_lstM (f := kT) (Sum.inl 0 : Key)]
          generalize F.getD (mixI c (40 + j) % F.length).toNat (.inl 0) = x at *
          have hb : T.has .brw (kT x) = false := by cases x <;> rfl
          simp (disch := first | assumption | omega | (simp [-getElem?_pos, -List.getD_eq_getElem?_getD, hb] <;> omega) | fail) [-getElem?_pos, -List.getD_eq_getElem?_getD, mAppend_ok, hb]
          exact ⟨hs ++ [x], map_kT_snoc _ _, by simp [lh], add x (.inl mm)⟩
        · simp (disch := first | assumption | omega | (simp [-getElem?_pos, -List.getD_eq_getElem?_getD] <;> omega) | fail) [-getElem?_pos, -List.getD_eq_getElem?_getD, r_mix, modT_ok, z, z2, y, powT_ok, mAppend_ok]
          exact ⟨hs ++ [.inl _], map_kT_int _ _, by simp [lh], add _ (.inr ⟨_, rfl, num⟩)⟩
      · have z2 : ¬ (0 : Int) < F.length := by omega
        simp (disch := first | assumption | omega | (simp [-getElem?_pos, -List.getD_eq_getElem?_getD] <;> omega) | fail) [-getElem?_pos, -List.getD_eq_getElem?_getD, r_mix, modT_ok, z, z2, powT_ok, mAppend_ok]
        exact ⟨hs ++ [.inl _], map_kT_int _ _, by simp [lh], add _ (.inr ⟨_, rfl, num⟩)⟩
    · rintro env ⟨hs, a, rfl, lh, ih⟩
      have hz : hs.length ≤ 16777216 := by omega
      simp (disch := first | assumption | omega | (simp [-getElem?_pos, -List.getD_eq_getElem?_getD] <;> omega) | fail) [-getElem?_pos, -List.getD_eq_getElem?_getD, hz, hz2]
      refine ⟨(hs, L), rfl, ⟨oL, by show L.length ≤ 5; omega, lh, ?_, ?_⟩⟩
      · intro k m
        rcases ih.ok k m with h | ⟨i, rfl, h⟩
        · rw [hF] at h
          obtain ⟨l, hl, hk⟩ := List.mem_flatMap.mp h
          exact (oL.ok l hl).ks k hk
        · exact h
      · intro k m r
        rcases ih.ok k m with h | ⟨i, rfl, h⟩
        · rw [hF] at h
          obtain ⟨l, hl, hk⟩ := List.mem_flatMap.mp h
          exact mem_namesK.mpr ⟨r, l, hl, hk⟩
        · cases r
theorem rep_one (m : Nat) (t : T) : (List.replicate m [t]).flatten = List.replicate m t := by
  induction m with
  | zero => rfl
  | succ m ih => rw [List.replicate_succ, List.flatten_cons, ih]; rfl
theorem rep_keys (m : Nat) (i : Int) : List.replicate m (T.int i) = (List.replicate m (Sum.inl i : Key)).map kT := by
  rw [List.map_replicate]; rfl
theorem mul_keys (i : Int) (m : Int) (h0 : 0 ≤ m) (h1 : m ≤ 1000) : mulTT (.tup [.int i]) (.int m) = some (.tup ((List.replicate m.toNat (Sum.inl i : Key)).map kT)) := by
  rw [mulTT_tup (by simp [T.vals, T.val]) (by simp) h0 h1 (by simp), rep_one, rep_keys]
theorem small_ok {i : Int} (h0 : -100 ≤ i) (h1 : i ≤ 100) : numB i = true := (numB_iff i).mpr ⟨by omega, by omega⟩
structure OtherL (n : Nat) (r : R T) : Prop where
  ex : ∃ o : List Key, r = .ok (altT (o, [])) ∧ o.length ≠ n ∧ okA (o, [])
theorem okA_nums {m : Nat} {i : Int} (hm : m ≤ 4) (hi : numB i = true) : okA (List.replicate m (Sum.inl i), []) :=
  ⟨⟨fun k h => by rw [List.eq_of_mem_replicate h]; exact hi, fun k h r => by rw [List.eq_of_mem_replicate h] at r; cases r⟩, by simpa using hm, by simp, by simp, fun l h => by cases h⟩
theorem r_otherl (n : Nat) (hn : n ≤ 4) : OtherL n (r_lother_length [.int n]) := by
  unfold r_lother_length g_lother_length
  by_cases c : n = 0
  · subst c
    simp (disch := first | assumption | omega | (simp [-getElem?_pos, -List.getD_eq_getElem?_getD] <;> omega) | fail) [-getElem?_pos, -List.getD_eq_getElem?_getD]
    exact ⟨[.inl 5], rfl, by simp, okA_nums (m := 1) (by omega) (small_ok (by omega) (by omega))⟩
  · have c2 : ¬ (n : Int) = 0 := by omega
    have mk := mul_keys 5 ((n : Int) - 1) (by omega) (by omega)
    have this := okA_nums (m := ((n : Int) - 1).toNat) (i := 5) (by omega) (small_ok (by omega) (by omega))
    have ln : (List.replicate ((n : Int) - 1).toNat (Sum.inl 5 : Key)).length ≠ n := by rw [List.length_replicate]; omega
    generalize List.replicate ((n : Int) - 1).toNat (Sum.inl 5 : Key) = o at *
    simp (disch := first | assumption | omega | (simp [-getElem?_pos, -List.getD_eq_getElem?_getD] <;> omega) | fail) [-getElem?_pos, -List.getD_eq_getElem?_getD, c, c2, mk]
    exact ⟨o, rfl, ln, this⟩
structure Nums (n : Nat) (o : List Key) : Prop where
  len : o.length = n
  ok : ∀ k ∈ o, ∃ i, k = Sum.inl i ∧ numB i = true
theorem nums_rep (n : Nat) {i : Int} (h : numB i = true) : Nums n (List.replicate n (Sum.inl i)) := ⟨by simp, fun k m => ⟨i, List.eq_of_mem_replicate m, h⟩⟩
structure OtherW (A : List Alt) (n : Nat) (r : R T) : Prop where
  ex : (r = .ok .non ∧ flatL A = []) ∨ ∃ o s ks ot, r = .ok (altT (o, [(s, ot)])) ∧ (s, ks) ∈ flatL A ∧ ot.length ≠ ks.length ∧ okA (o, [(s, ot)])
structure NoL (p : List Alt) : Prop where
  eq : flatL p = []
theorem r_otherw {A : List Alt} (oA : ∀ a ∈ A, okA a) (n : Nat) (hn : n ≤ 4) : OtherW A n (r_lother_width [.lst .prt (A.map altT), .int n]) := by
  unfold r_lother_width g_lother_width
  simp (disch := first | assumption | omega | (simp [-getElem?_pos, -List.getD_eq_getElem?_getD] <;> omega) | fail) [-getElem?_pos, -List.getD_eq_getElem?_getD]
  refine loopM (P := fun o => OtherW A n (bodyR o)) (fun p env => ∃ (u : Option T), env = [some (.lst .prt (A.map altT)), some (.int n), u, none, none] ∧ NoL p) ⟨_, rfl, ⟨rfl⟩⟩ ?_ ?_
  · intro p x q env e hI
    obtain ⟨u, hu, ⟨hp⟩⟩ := hI
    subst hu
    have hx : x ∈ A := by rw [e]; simp
    have ox := oA x hx
    obtain ⟨hs, L⟩ := x
    have gl : ∀ l ∈ L, GoodL l := ox.gl
    simp (disch := first | assumption | omega | (simp [-getElem?_pos, -List.getD_eq_getElem?_getD] <;> omega) | fail) [-getElem?_pos, -List.getD_eq_getElem?_getD]
    refine loopM1s (fun r env => env = [some (.lst .prt (A.map altT)), some (.int n), some (altT (hs, L)), none, none] ∧ r = []) ⟨rfl, rfl⟩ ?_ ?_
    · intro r l q2 env e2 hI
      obtain ⟨hu, hr⟩ := hI
      subst hu hr
      have ml : l ∈ L := by rw [e2]; simp
      have g1 := gl l ml
      obtain ⟨s, ks⟩ := l
      have l1 : 1 ≤ ks.length ∧ ks.length ≤ 6 := g1.len
      have o1 : ∀ k ∈ ks, okT k = true := g1.ks
      have mf : (s, ks) ∈ flatL A := List.mem_flatMap.mpr ⟨_, hx, ml⟩
      obtain ⟨kx, hkx⟩ : ∃ kx : List Key, kx = ks ++ [Sum.inl 4] := ⟨_, rfl⟩
      have okx : ∀ k ∈ kx, okT k = true := fun k m => by
        rw [hkx] at m
        rcases List.mem_append.mp m with m | m
        · exact o1 k m
        · rw [List.mem_singleton.mp m]; exact small_ok (by omega) (by omega)
      have lkx : kx.length = ks.length + 1 := by rw [hkx]; simp
      have ta : addT (.tup (ks.map kT)) (.tup [.int 4]) = some (.tup (kx.map kT)) := by
        rw [addT_tup (by simp; omega), hkx, List.map_append]; rfl
      have mk := mul_keys 6 (n : Int) (by omega) (by omega)
      rw [Int.toNat_natCast] at mk
      have no := nums_rep n (i := 6) (small_ok (by omega) (by omega))
      generalize List.replicate n (Sum.inl 6 : Key) = o at *
      have hzk : kx.length ≤ 16777216 := by omega
      rw [show lineT (s, ks) = T.tup [.str s, .tup (ks.map kT)] from rfl]
      have okO : ∀ ot : List Key, 1 ≤ ot.length → ot.length ≤ 6 → (∀ k ∈ ot, okT k = true) → okA (o, [(s, ot)]) := fun ot h1 h2 h3 =>
        ⟨⟨fun k h => by obtain ⟨i, rfl, z⟩ := no.ok k h; exact z, fun k h r => by obtain ⟨i, rfl, z⟩ := no.ok k h; cases r⟩, by show o.length ≤ 4; rw [no.len]; exact hn, by
          intro l m
          rw [List.mem_singleton.mp m]
          exact ⟨g1.nm, ⟨h1, h2⟩, h3⟩, by simp, fun l m l' m' _ => by rw [List.mem_singleton.mp m, List.mem_singleton.mp m']⟩
      by_cases c : kx.length = 7
      · have c2 : (kx.length : Int) = 7 := by omega
        have tc : cutT (kx.map kT) (some 4) none = (kx.drop 4).map kT := by rw [cutT_map, cut_from _ _ (by omega)]; rfl
        obtain ⟨ot, hot, lot, oot⟩ : ∃ ot : List Key, kx.drop 4 = ot ∧ ot.length = 3 ∧ ∀ k ∈ ot, okT k = true := ⟨_, rfl, by simp; omega, fun k m => okx k (List.mem_of_mem_drop m)⟩
        rw [hot] at tc
        simp (disch := first | assumption | omega | (simp [-getElem?_pos, -List.getD_eq_getElem?_getD] <;> omega) | fail) [-getElem?_pos, -List.getD_eq_getElem?_getD, ta, hzk, c, c2, tc, mk]
        exact ⟨.inr ⟨o, s, ks, ot, rfl, mf, by omega, okO ot (by omega) (by omega) oot⟩⟩
      · have c2 : ¬ (kx.length : Int) = 7 := by omega
        simp (disch := first | assumption | omega | (simp [-getElem?_pos, -List.getD_eq_getElem?_getD] <;> omega) | fail) [-getElem?_pos, -List.getD_eq_getElem?_getD, ta, hzk, c, c2, mk]
        exact ⟨.inr ⟨o, s, ks, kx, rfl, mf, by omega, okO kx (by omega) (by omega) okx⟩⟩
    · intro env hI
      obtain ⟨hu, hL⟩ := hI
      subst hu hL
      exact ⟨⟨_, rfl⟩, ⟨by simp [flatL] at hp ⊢; exact hp⟩⟩
  · intro env hI
    obtain ⟨u, hu, ⟨hp⟩⟩ := hI
    subst hu
    simp (disch := first | assumption | omega | (simp [-getElem?_pos, -List.getD_eq_getElem?_getD] <;> omega) | fail) [-getElem?_pos, -List.getD_eq_getElem?_getD]
    exact ⟨.inl ⟨rfl, hp⟩⟩
structure WrongQ (r : R T) : Prop where
  ex : (∃ X, r = .ok (.tup X) ∧ T.vals X = true) ∨ ∃ X, r = .ok (.lst .own X) ∧ (∀ u ∈ X, Fine u) ∧ r_is_question [.lst .prt X] = .ok (.bl false)
theorem isAlt (a : Alt) : notN (altT a) .non = some (.bl true) := rfl
theorem fine_alts (A : List Alt) : ∀ u ∈ A.map altT, Fine u := fun u m => by obtain ⟨a, _, rfl⟩ := List.mem_map.mp m; exact .val (alt_val a)
theorem hasL_fine {X : List T} (h : ∀ u ∈ X, Fine u) : T.hasL .brw X = false := by
  induction X with
  | nil => rfl
  | cons u M ih => simp [(h u (by simp)).hb, ih fun v m => h v (by simp [m])]
theorem q_alts {M : List Alt} (h : M.length ≤ 100) (k : M.length ≤ 3 → r_is_question [.lst .prt (M.map altT)] = .ok (.bl false)) : r_is_question [.lst .prt (M.map altT)] = .ok (.bl false) := by
  by_cases c : M.length ≤ 3
  · exact k c
  · exact q_long (.inl rfl) (fine_alts M) (by simp; omega) (by simpa using h)
theorem litX : nameB ("x" : Str) = true := by decide +kernel
theorem r_wrong {ts : List (Str × Int)} (tb : Tabs ts) {A : List Alt} {n : Nat} (n4 : n ≤ 4) (dA : ∀ a ∈ A, DrawA ts n a) (lA : A.length ≤ 3) (c : Int) :
    WrongQ (r_lwrong [.lst .prt (A.map altT), .int n, .int c]) := by
  have oA : ∀ a ∈ A, okA a := fun a m => (dA a m).okA tb n4
  have a0 := Int.emod_nonneg (mixI c 27) (show (5 : Int) ≠ 0 by omega)
  have a1 := Int.emod_lt_of_pos (mixI c 27) (show (0 : Int) < 5 by omega)
  obtain ⟨w, hw⟩ : ∃ w : Nat, mixI c 27 % 5 = w := ⟨(mixI c 27 % 5).toNat, by omega⟩
  have b0 := Int.emod_nonneg (mixI c 28) (show (A.length : Int) + 1 ≠ 0 by omega)
  have b1 := Int.emod_lt_of_pos (mixI c 28) (show (0 : Int) < A.length + 1 by omega)
  obtain ⟨j, hj⟩ : ∃ j : Nat, mixI c 28 % ((A.length : Int) + 1) = j := ⟨(mixI c 28 % ((A.length : Int) + 1)).toNat, by omega⟩
  have d0 := Int.emod_nonneg (mixI c 29) (show (8 : Int) ≠ 0 by omega)
  have d1 := Int.emod_lt_of_pos (mixI c 29) (show (0 : Int) < 8 by omega)
  obtain ⟨i, hi⟩ : ∃ i : Nat, mixI c 29 % 8 = i := ⟨(mixI c 29 % 8).toNat, by omega⟩
  have hz : A.length ≤ 16777216 := by omega
  have vA := vals_alts A
  have hA : ∀ g, T.hasL g (A.map altT) = false := fun g => vals_has g vA
  have tA : ∀ f, T.tags f (A.map altT) = A.map altT := fun f => vals_tags f vA
  have cutk : cutT (A.map altT) none (some (j : Int)) = (A.take j).map altT := by rw [cutT_map, cutT_take _ _ (by omega)]; rfl
  have cutd : cutT (A.map altT) (some (j : Int)) none = (A.drop j).map altT := by rw [cutT_map, cut_from _ _ (by omega)]; rfl
  have adT : ∀ (g : Tg) (xs ys : List T), g ≠ .fzn → xs.length + ys.length ≤ 1000 → addT (.lst g xs) (.lst .own ys) = some (.lst .own (xs ++ ys)) := fun g xs ys hg h => addT_lst2 hg (by decide) (by omega)
  -- numbers
  have mk0 := mul_keys 0 (n : Int) (by omega) (by omega)
  have mk3 := mul_keys 3 (n : Int) (by omega) (by omega)
  rw [Int.toNat_natCast] at mk0 mk3
  have no3 := nums_rep n (i := 3) (small_ok (by omega) (by omega))
  generalize List.replicate n (Sum.inl 0 : Key) = o0 at *
  generalize List.replicate n (Sum.inl 3 : Key) = o3 at *
  obtain ⟨x4, mx4, bx4, fx4, lx4⟩ : ∃ x4 : List XT, mulTT (.tup [.bl true]) (.int 4) = some (.tup (x4.map xT)) ∧ x4.all xOk = false ∧ (∀ x ∈ x4, xFit x) ∧ x4.length ≤ 1000 :=
    ⟨List.replicate 4 (.inr 0), by rw [mulTT_tup rfl (by simp) (by omega) (by omega) (by simp)]; rfl, rfl, fun x m => by rw [List.eq_of_mem_replicate m]; trivial, by simp⟩
  -- way 1
  obtain ⟨R4, M1, m1, s1, l1, f1⟩ : ∃ (R4 M1 : List T), mulTT (.lst .own [.tup [.tup (o0.map kT), .tup []]]) (.int 4) = some (.lst .own R4) ∧ addT (.lst .prt (A.map altT)) (.lst .own R4) = some (.lst .own M1) ∧ (cutT M1 none (some 4)).length = 4 ∧ ∀ u ∈ cutT M1 none (some 4), Fine u := by
    refine ⟨List.replicate 4 (altT (o0, [])), A.map altT ++ List.replicate 4 (altT (o0, [])), ?_, adT _ _ _ (by decide) (by simp; omega), ?_, ?_⟩
    · rw [mulTT_lst (by have := alt_val (o0, []); show T.vals [altT (o0, [])] = true; simp [T.vals, this]) (by omega) (by omega) (by simp)]
      rfl
    · rw [cutT_take _ _ (by omega)]; simp
    · rw [cutT_take _ _ (by omega)]
      intro u m
      rcases List.mem_append.mp (List.mem_of_mem_take m) with m | m
      · exact fine_alts A u m
      · rw [List.eq_of_mem_replicate m]; exact .val (alt_val _)
  generalize hX4 : cutT M1 none (some 4) = X4 at *
  -- one amid them
  have ins : ∀ t, ∃ N1 M, addT (.lst .own (cutT (A.map altT) none (some (j : Int)))) (.lst .own [t]) = some (.lst .own N1) ∧ addT (.lst .own N1) (.lst .own (cutT (A.map altT) (some (j : Int)) none)) = some (.lst .own M) ∧ M = (A.take j).map altT ++ t :: (A.drop j).map altT := fun t =>
    ⟨_, _, by rw [cutk]; exact adT _ _ _ (by decide) (by simp; omega), by rw [cutd]; exact adT _ _ _ (by decide) (by simp; omega), by simp⟩
  have okM : ∀ a, okA a → ∀ x ∈ A.take j ++ a :: A.drop j, okA x := fun a ha x m => by
    rcases List.mem_append.mp m with m | m
    · exact oA x (List.mem_of_mem_take m)
    · rcases List.mem_cons.mp m with rfl | m
      · exact ha
      · exact oA x (List.mem_of_mem_drop m)
  have inM : ∀ a x, x ∈ A → x ∈ A.take j ++ a :: A.drop j := fun a x m => by
    have : x ∈ A.take j ++ A.drop j := by rw [List.take_append_drop]; exact m
    rcases List.mem_append.mp this with m | m <;> simp [m]
  have lenM : ∀ a, (A.take j ++ a :: A.drop j).length = A.length + 1 := fun a => by simp; omega
  have mapM : ∀ a, (A.take j).map altT ++ altT a :: (A.drop j).map altT = (A.take j ++ a :: A.drop j).map altT := fun a => by simp
  -- no alternative
  obtain ⟨t, it, bt⟩ : ∃ t, ixT (.lst .brw [.non, .tup [], .int 7, .lst .shr [.tup (o3.map kT), .tup []], .tup [.tup (o3.map kT), .lst .shr []], .tup [.tup (x4.map xT), .tup []], .tup [.tup [.str ("x" : Str)], .tup []], .str ("none" : Str)]) (.int i) = some t ∧ BadA t := by
    have v3 : T.vals (o3.map kT) = true := by simp
    have fv : ∀ {ts : List T}, T.vals ts = true → Fine (.tup ts) := fun h => .val (by simpa [T.val] using h)
    have cs : i = 0 ∨ i = 1 ∨ i = 2 ∨ i = 3 ∨ i = 4 ∨ i = 5 ∨ i = 6 ∨ i = 7 := by omega
    rcases cs with rfl | rfl | rfl | rfl | rfl | rfl | rfl | rfl
    · exact ⟨_, rfl, .val rfl, alt_flat rfl (.val rfl)⟩
    · exact ⟨_, rfl, .val rfl, alt_len rfl (by simp) (by simp)⟩
    · exact ⟨_, rfl, .val rfl, alt_flat rfl (.val rfl)⟩
    · have f : Fine (.lst .shr [.tup (o3.map kT), .tup []]) := .lst (by simp [T.vals, T.val])
      exact ⟨_, rfl, f, alt_flat rfl f⟩
    · exact ⟨_, rfl, .tup2 (fv v3) (.lst rfl), alt_lines (fun k m => by obtain ⟨z, rfl, hz⟩ := no3.ok k m; exact hz) (by rw [no3.len]; exact n4) rfl (.lst rfl)⟩
    · exact ⟨_, rfl, .tup2 (fv (by simp)) (fv rfl), alt_terms fx4 lx4 (.inr bx4) (fv rfl)⟩
    · exact ⟨_, rfl, .val rfl, alt_unknown (hs := [.inr ("x" : Str)]) (L := []) (k := .inr ("x" : Str)) (fun k m => by rw [List.mem_singleton.mp m]; exact litX) (by simp) (by simp) (by simp) (by simp) rfl (by simp [namesK])⟩
    · exact ⟨_, rfl, .val rfl, alt_flat rfl (.val rfl)⟩
  obtain ⟨N9, M9, u9, z9, e9⟩ := ins t
  have f9 : ∀ u ∈ M9, Fine u := fun u m => by
    rw [e9] at m
    rcases List.mem_append.mp m with m | m
    · exact fine_alts _ u m
    · rcases List.mem_cons.mp m with rfl | m
      · exact bt.fine
      · exact fine_alts _ u m
  have q9 : r_is_question [.lst .prt M9] = .ok (.bl false) := by
    rw [e9]
    exact q_bad (.inl rfl) (fun a m => oA a (List.mem_of_mem_take m)) (n := n) (fun a m => (dA a (List.mem_of_mem_take m)).ln) bt (by simp; omega) (fine_alts _)
  have h9 := hasL_fine f9
  have ht := bt.fine.hb
  have hX := hasL_fine f1
  unfold r_lwrong g_lwrong
  have cases5 : w = 0 ∨ w = 1 ∨ w = 2 ∨ w = 3 ∨ w = 4 := by omega
  rcases cases5 with rfl | rfl | rfl | rfl | rfl
  · simp (disch := first | assumption | omega | (simp [-getElem?_pos, -List.getD_eq_getElem?_getD] <;> omega) | fail) [-getElem?_pos, -List.getD_eq_getElem?_getD, r_mix, modT_ok, hw, hj, hz]
    exact ⟨.inl ⟨_, rfl, vA⟩⟩
  · simp (disch := first | assumption | omega | (simp [-getElem?_pos, -List.getD_eq_getElem?_getD] <;> omega) | fail) [-getElem?_pos, -List.getD_eq_getElem?_getD, r_mix, modT_ok, hw, hj, hz, mk0, m1, s1, hX4, hX]
    exact ⟨.inr ⟨_, rfl, f1, q_long (.inl rfl) f1 (by omega) (by omega)⟩⟩
  · by_cases q1 : 0 < A.length
    · obtain ⟨o, ho, lo, oo⟩ := (r_otherl n n4).ex
      obtain ⟨N1, M, u1, u2, hM⟩ := ins (altT (o, []))
      rw [mapM] at hM
      have lM := lenM (o, [])
      have ok1 := okM (o, []) oo
      have in1 := inM (o, [])
      have io : (o, []) ∈ A.take j ++ (o, []) :: A.drop j := by simp
      generalize A.take j ++ (o, []) :: A.drop j = Ms at *
      have cM : cutT M none (some 4) = Ms.map altT := by
        rw [hM, cutT_map, cutT_take _ _ (by omega), List.take_of_length_le (by show Ms.length ≤ 4; omega)]
      have q := q_alts (M := Ms) (by omega) fun l => by
        have m0 : A.getD 0 ([], []) ∈ A := getD_in _ q1
        refine q_len (.inl rfl) ok1 l io (in1 _ m0) ?_
        rw [(dA _ m0).ln]; exact lo
      simp (disch := first | assumption | omega | (simp [-getElem?_pos, -List.getD_eq_getElem?_getD] <;> omega) | fail) [-getElem?_pos, -List.getD_eq_getElem?_getD, r_mix, modT_ok, hw, hj, hz, q1, ho, u1, u2, cM]
      exact ⟨.inr ⟨_, rfl, fine_alts _, q⟩⟩
    · rcases (r_otherw oA n n4).ex with ⟨hw5, _⟩ | ⟨o, s, ks, ot, hw5, _⟩
      · simp (disch := first | assumption | omega | (simp [-getElem?_pos, -List.getD_eq_getElem?_getD, h9, ht] <;> omega) | fail) [-getElem?_pos, -List.getD_eq_getElem?_getD, r_mix, modT_ok, hw, hj, hi, hz, q1, hw5, mk3, mx4, it, u9, z9, h9, ht]
        exact ⟨.inr ⟨_, rfl, f9, q9⟩⟩
      · simp (disch := first | assumption | omega | (simp [-getElem?_pos, -List.getD_eq_getElem?_getD, h9, ht] <;> omega) | fail) [-getElem?_pos, -List.getD_eq_getElem?_getD, r_mix, modT_ok, hw, hj, hi, hz, q1, hw5, mk3, mx4, it, u9, z9, h9, ht]
        exact ⟨.inr ⟨_, rfl, f9, q9⟩⟩
  · rcases (r_otherw oA n n4).ex with ⟨hw5, _⟩ | ⟨o, s, ks, ot, hw5, mf, lo, oo⟩
    · simp (disch := first | assumption | omega | (simp [-getElem?_pos, -List.getD_eq_getElem?_getD, h9, ht] <;> omega) | fail) [-getElem?_pos, -List.getD_eq_getElem?_getD, r_mix, modT_ok, hw, hj, hi, hz, hw5, mk3, mx4, it, u9, z9, h9, ht]
      exact ⟨.inr ⟨_, rfl, f9, q9⟩⟩
    · obtain ⟨N1, M, u1, u2, hM⟩ := ins (altT (o, [(s, ot)]))
      rw [mapM] at hM
      have lM := lenM (o, [(s, ot)])
      have ok1 := okM (o, [(s, ot)]) oo
      have in1 := inM (o, [(s, ot)])
      have io : (o, [(s, ot)]) ∈ A.take j ++ (o, [(s, ot)]) :: A.drop j := by simp
      generalize A.take j ++ (o, [(s, ot)]) :: A.drop j = Ms at *
      have q := q_alts (M := Ms) (by omega) fun l => by
        refine q_width (.inl rfl) ok1 l fun z => lo ?_
        refine z (s, ot) (List.mem_flatMap.mpr ⟨_, io, by simp⟩) (s, ks) ?_ rfl
        obtain ⟨a, ma, hl⟩ := List.mem_flatMap.mp mf
        exact List.mem_flatMap.mpr ⟨a, in1 a ma, hl⟩
      rw [← hM] at q
      have fM : ∀ u ∈ M, Fine u := by rw [hM]; exact fine_alts _
      have hMb := hasL_fine fM
      simp (disch := first | assumption | omega | (simp [-getElem?_pos, -List.getD_eq_getElem?_getD, hMb] <;> omega) | fail) [-getElem?_pos, -List.getD_eq_getElem?_getD, r_mix, modT_ok, hw, hj, hi, hz, hw5, isAlt, u1, u2, hMb]
      exact ⟨.inr ⟨_, rfl, fM, q⟩⟩
  · rcases (r_otherw oA n n4).ex with ⟨hw5, _⟩ | ⟨o, s, ks, ot, hw5, _⟩
    · simp (disch := first | assumption | omega | (simp [-getElem?_pos, -List.getD_eq_getElem?_getD, h9, ht] <;> omega) | fail) [-getElem?_pos, -List.getD_eq_getElem?_getD, r_mix, modT_ok, hw, hj, hi, hz, hw5, mk3, mx4, it, u9, z9, h9, ht]
      exact ⟨.inr ⟨_, rfl, f9, q9⟩⟩
    · simp (disch := first | assumption | omega | (simp [-getElem?_pos, -List.getD_eq_getElem?_getD, h9, ht] <;> omega) | fail) [-getElem?_pos, -List.getD_eq_getElem?_getD, r_mix, modT_ok, hw, hj, hi, hz, hw5, mk3, mx4, it, u9, z9, h9, ht]
      exact ⟨.inr ⟨_, rfl, f9, q9⟩⟩
--SPLIT
theorem r_told (a b : Bool) : r_ltold [.bl a, .bl b] = .ok (.bl (decide (a = b))) := by
  unfold r_ltold g_ltold
  simp (disch := first | assumption | omega | (simp [-getElem?_pos, -List.getD_eq_getElem?_getD] <;> omega) | fail) [-getElem?_pos, -List.getD_eq_getElem?_getD]
theorem gd_line06 {l : Line} (h : GoodL l) : Gd 2 (lineT l) := by
  obtain ⟨s, ks⟩ := l
  have h1 : nameB s = true := h.nm
  have h2 : ∀ k ∈ ks, okT k = true := h.ks
  exact .tup fun t m => by
    simp only [List.mem_cons, List.not_mem_nil, or_false] at m
    rcases m with rfl | rfl
    · exact .str (nameB_ok h1)
    · exact Gd.mapTup fun k m => .key (okT_ok (h2 k m))
theorem gd_alt06 {a : Alt} (h : okA a) : Gd 4 (altT a) := .tup fun t m => by
  simp only [List.mem_cons, List.not_mem_nil, or_false] at m
  rcases m with rfl | rfl
  · exact (Gd.mapTup fun k m => .key (okT_ok (h.kn.ok k m)) : Gd 1 _).le (by omega)
  · exact (Gd.mapTup fun l m => gd_line06 (h.gl l m) : Gd 3 _)
structure Built (ts : List (Str × Int)) (n : Nat) (A : List Alt) : Prop where
  ok : ∀ a ∈ A, DrawA ts n a
theorem Fine.lstF {X : List T} (h : ∀ u ∈ X, Fine u) : Fine (.lst .shr X) := by
  refine ⟨fun g hg => ?_, fun f hf => ?_⟩
  · have e : decide (Tg.shr = g) = false := decide_eq_false fun e => hg e.symm
    have : T.hasL g X = false := by
      induction X with
      | nil => rfl
      | cons u M ih => simp [(h u (by simp)).h g hg, ih fun v m => h v (by simp [m])]
    rw [has_lst, this, e]; rfl
  · have : T.tags f X = X := by
      induction X with
      | nil => rfl
      | cons u M ih => simp [(h u (by simp)).tg f hf, ih fun v m => h v (by simp [m])]
    simp [T.tag, hf, this]
structure ThingQ (t : T) : Prop where
  fine : Fine t
  q : r_is_question [t] = .ok (.bl false)
theorem q_none : r_is_question [.lst .own []] = .ok (.bl true) := by
  have h := r_one_at0 (.lst .prt []) [] (.inr rfl) (by simp) (by simp)
  rw [decide_eq_true ((one_iff []).mpr fun l h => by cases h)] at h
  have it : itemsOf true (.lst .shr []) = .ok [] := by simp [itemsOf]
  unfold r_is_question g_is_question
  simp (disch := first | assumption | omega | (simp [-getElem?_pos, -List.getD_eq_getElem?_getD] <;> omega) | fail) [-getElem?_pos, -List.getD_eq_getElem?_getD, h, it, loopS]
theorem law_holds (ns : List Int) (hn : ns.length ≤ 63) : r_law [.lst .fzn (ns.map T.int)] = .ok (.bl true) := by
  obtain ⟨c, hc⟩ : ∃ c, cellI ns 0 = c := ⟨_, rfl⟩
  obtain ⟨c1, hc1⟩ : ∃ c, cellI ns 1 = c := ⟨_, rfl⟩
  obtain ⟨c54, hc54⟩ : ∃ c, cellI ns 54 = c := ⟨_, rfl⟩
  obtain ⟨ws, hws, lws, _, ows⟩ := (r_names c1 4 (by omega)).ex
  have hws : r_lnames [.int c1, .int 4] = .ok (.lst .own (ws.map T.str)) := hws
  have ow : okW 4 ws := ⟨lws, by omega, by omega, ows⟩
  obtain ⟨ts, hts, tb⟩ := (r_tables c).ex
  have m0 := Int.emod_nonneg (mixI c 5) (show (5 : Int) ≠ 0 by omega)
  have m1 := Int.emod_lt_of_pos (mixI c 5) (show (0 : Int) < 5 by omega)
  obtain ⟨n, hm⟩ : ∃ m : Nat, mixI c 5 % 5 = m := ⟨(mixI c 5 % 5).toNat, by omega⟩
  have p0 := Int.emod_nonneg (mixI c 6) (show (4 : Int) ≠ 0 by omega)
  have p1 := Int.emod_lt_of_pos (mixI c 6) (show (0 : Int) < 4 by omega)
  have n4 : n ≤ 4 := by omega
  have td1 := r_told true true
  have td2 := r_told false false
  rw [show decide (true = true) = true from rfl] at td1
  rw [show decide (false = false) = true from rfl] at td2
  unfold r_law g_law
  simp (disch := first | assumption | omega | (simp [-getElem?_pos, -List.getD_eq_getElem?_getD] <;> omega) | fail) [-getElem?_pos, -List.getD_eq_getElem?_getD, r_cell, hc, hc1, hws, r_mix, modT_ok, hts, hm, rng2_ok]
  refine loopR (P := fun o => bodyR o = .ok (.bl true)) (fun k env => ∃ (A : List Alt) (u : Option T), env = [some (.lst .fzn (ns.map T.int)), some (.int c), some (.lst .own (ws.map T.str)), some (.lst .own (ts.map tabT)), some (.int n), some (.lst .own (A.map altT)), u, none, none, none, none] ∧ A.length = k ∧ Built ts n A) ⟨[], _, rfl, rfl, ⟨by simp⟩⟩ ?_ ?_
  · rintro k env hk ⟨A, u, rfl, lA, hA⟩
    obtain ⟨a, ha, da⟩ := (r_alternative tb ow ns k (by omega) n n4).ex
    simp (disch := first | assumption | omega | (simp [-getElem?_pos, -List.getD_eq_getElem?_getD] <;> omega) | fail) [-getElem?_pos, -List.getD_eq_getElem?_getD, ha, mulT_r, mulT_l, mAppend_ok]
    exact ⟨A ++ [a], by simp, by simp [lA], ⟨fun x m => by
      rcases List.mem_append.mp m with m | m
      · exact hA.ok x m
      · rw [List.mem_singleton.mp m]; exact da⟩⟩
  · rintro env ⟨A, u, rfl, lA, hA⟩
    have oA : ∀ a ∈ A, okA a := fun a m => (hA.ok a m).okA tb n4
    have lA3 : A.length ≤ 3 := by omega
    have w1 : W1 (flatL A) := fun l hl m hm e => by
      obtain ⟨a, ma, hl⟩ := List.mem_flatMap.mp hl
      obtain ⟨b, mb, hm⟩ := List.mem_flatMap.mp hm
      have := inj_of_nodup tb.nd ((hA.ok a ma).ok.ok l hl).tab ((hA.ok b mb).ok.ok m hm).tab e
      have := congrArg Prod.snd this
      simp only at this
      omega
    have q1 := q_true (g := .prt) (.inl rfl) oA lA3 (fun a m => (hA.ok a m).ln) w1
    have hz : A.length ≤ 16777216 := by omega
    have gA : ∀ g, Gd 5 (.lst g (A.map altT)) := fun g => Gd.mapLst fun a m => gd_alt06 (oA a m)
    have ne1 : neXO (.lst .brw (A.map altT)) (.lst .brw (A.map altT)) = some (.bl false) := neXO_same (gA _) rfl
    have eq1 : eqXO (.lst .brw (A.map altT)) (.lst .brw (A.map altT)) = some (.bl true) := eqXO_same (gA _) rfl
    have qn := q_none
    obtain ⟨ds, hds, lds⟩ : ∃ ds : List Int, cutT (ns.map T.int) (some 55) (some 63) = ds.map T.int ∧ ds.length ≤ 63 := ⟨_, cutT_map _ _ _ _, by have := cutT_len ns (some 55) (some 63); omega⟩
    have ad0 : addT (.lst .own [.int c54]) (.lst .own (ds.map T.int)) = some (.lst .own ((c54 :: ds).map T.int)) := addT_lst (by simp; omega)
    generalize c54 :: ds = cs at *
    simp (disch := first | assumption | omega | (simp [-getElem?_pos, -List.getD_eq_getElem?_getD] <;> omega) | fail) [-getElem?_pos, -List.getD_eq_getElem?_getD, hz, q1, td1, ne1, r_cell, hc54, hds, ad0]
    refine loopM (P := fun o => bodyR o = .ok (.bl true)) (fun p env => ∃ (v w : Option T), env = [some (.lst .fzn (ns.map T.int)), some (.int c), some (.lst .own (ws.map T.str)), some (.lst .own (ts.map tabT)), some (.int n), some (.lst .own (A.map altT)), u, some (.lst .own (A.map altT)), v, w, none]) ⟨_, _, rfl⟩ ?_ ?_
    · intro p x q env e hI
      obtain ⟨v, w, hu⟩ := hI
      subst hu
      rcases (r_wrong tb n4 hA.ok lA3 x).ex with ⟨X, hX, vX⟩ | ⟨X, hX, fX, qX⟩
      · have fT : Fine (.tup X) := .val (by simpa [T.val] using vX)
        have q := q_flat (t := .tup X) rfl fT
        have h1 : ∀ g, T.hasL g X = false := fun g => vals_has g vX
        have t1 : ∀ f, T.tags f X = X := fun f => vals_tags f vX
        simp (disch := first | assumption | omega | (simp [-getElem?_pos, -List.getD_eq_getElem?_getD, h1] <;> omega) | fail) [-getElem?_pos, -List.getD_eq_getElem?_getD, hX, h1, t1, q, td2]
      · have h1 := hasL_fine fX
        have h2 : T.hasL .prt X = false := by
          clear hX qX h1
          induction X with
          | nil => rfl
          | cons u M ih => simp [(fX u (by simp)).h .prt (by decide), ih fun v m => fX v (by simp [m])]
        have h3 : T.hasL .fzn X = false := by
          clear hX qX h1 h2
          induction X with
          | nil => rfl
          | cons u M ih => simp [(fX u (by simp)).h .fzn (by decide), ih fun v m => fX v (by simp [m])]
        have t1 : ∀ f : Tg → Tg, f .shr = .shr → T.tags f X = X := fun f hf => by
          clear hX qX h1 h2 h3
          induction X with
          | nil => rfl
          | cons u M ih => simp [(fX u (by simp)).tg f hf, ih fun v m => fX v (by simp [m])]
        have t2 := t1 view rfl
        have t3 := t1 lend rfl
        have t4 := t1 frze rfl
        simp (disch := first | assumption | omega | (simp [-getElem?_pos, -List.getD_eq_getElem?_getD, h1] <;> omega) | fail) [-getElem?_pos, -List.getD_eq_getElem?_getD, hX, h1, h2, h3, t2, t3, t4, qX, td2]
    · intro env hI
      obtain ⟨v, w, hu⟩ := hI
      subst hu
      simp (disch := first | assumption | omega | (simp [-getElem?_pos, -List.getD_eq_getElem?_getD] <;> omega) | fail) [-getElem?_pos, -List.getD_eq_getElem?_getD]
      have th : ∀ t ∈ [T.non, T.bl true, T.int 7, T.str ("none" : Str), T.dct .shr [], T.tup [], T.tup [T.tup [], T.tup []], T.lst .shr [T.lst .shr []], T.lst .shr [T.tup []], T.lst .shr [T.non]], ThingQ t := by
        have no : ∀ {t : T}, isT "list" t = some (.bl false) → Fine t → ThingQ t := fun h f => ⟨f, q_flat h f⟩
        have one : ∀ {t : T}, BadA t → ThingQ (.lst .shr [t]) := fun b => ⟨.lstF fun u m => by rw [List.mem_singleton.mp m]; exact b.fine, q_bad (A := []) (rest := []) (n := 0) (.inr rfl) (by simp) (by simp) b (by simp) (by simp)⟩
        intro t m
        simp only [List.mem_cons, List.not_mem_nil, or_false] at m
        rcases m with rfl | rfl | rfl | rfl | rfl | rfl | rfl | rfl | rfl | rfl
        · exact no rfl (.val rfl)
        · exact no rfl (.val rfl)
        · exact no rfl (.val rfl)
        · exact no rfl (.val rfl)
        · exact no rfl ⟨fun g hg => by cases g <;> first | rfl | exact absurd rfl hg, fun f e => by simp [T.tag, e]⟩
        · exact no rfl (.val rfl)
        · exact no rfl (.val rfl)
        · exact one ⟨.lst rfl, alt_flat rfl (.lst rfl)⟩
        · exact one ⟨.val rfl, alt_len rfl (by simp) (by simp)⟩
        · exact one ⟨.val rfl, alt_flat rfl (.val rfl)⟩
      generalize [T.non, T.bl true, T.int 7, T.str ("none" : Str), T.dct .shr [], T.tup [], T.tup [T.tup [], T.tup []], T.lst .shr [T.lst .shr []], T.lst .shr [T.tup []], T.lst .shr [T.non]] = TH at *
      have hasM : T.hasL .brw TH = false := hasL_fine fun u m => (th u m).fine
      have tagM : T.tags frze TH = TH := by
        clear hasM
        induction TH with
        | nil => rfl
        | cons u M ih => simp [(th u (by simp)).fine.tg frze rfl, ih fun v m => th v (by simp [m])]
      have it : itemsOf true (.lst .own TH) = .ok TH := by rw [itemsOf_own2 hasM, tagM]
      simp (disch := first | assumption | omega | (simp [-getElem?_pos, -List.getD_eq_getElem?_getD] <;> omega) | fail) [-getElem?_pos, -List.getD_eq_getElem?_getD, it]
      refine loopL (P := fun o => bodyR o = .ok (.bl true)) (fun p env => ∃ (y2 : Option T), env = [some (.lst .fzn (ns.map T.int)), some (.int c), some (.lst .own (ws.map T.str)), some (.lst .own (ts.map tabT)), some (.int n), some (.lst .own (A.map altT)), u, some (.lst .own (A.map altT)), v, w, y2]) ⟨_, rfl⟩ ?_ ?_
      · intro p x q env e hI
        obtain ⟨y2, hu⟩ := hI
        subst hu
        have tx := th x (by rw [e]; simp)
        have f1 := tx.fine.hb
        have f2 := tx.fine.tg view rfl
        have f3 := tx.q
        simp (disch := first | assumption | omega | (simp [-getElem?_pos, -List.getD_eq_getElem?_getD, f1] <;> omega) | fail) [-getElem?_pos, -List.getD_eq_getElem?_getD, f1, f2, f3, td2]
      · intro env hI
        obtain ⟨y2, hu⟩ := hI
        subst hu
        simp (disch := first | assumption | omega | (simp [-getElem?_pos, -List.getD_eq_getElem?_getD] <;> omega) | fail) [-getElem?_pos, -List.getD_eq_getElem?_getD, qn, td1, eq1]
end K06

open PySem PySem.W PyProof.Rows in
set_option maxRecDepth 100000 in
set_option maxHeartbeats 0 in
theorem PySem.Challenge.cw_askwithin_k06_questions_told_holds : PySem.Challenge.rw_askwithin_k06_questions_told.Holds := by
  w_on; o_law; k_head; (case hw => w_witness2)
  k_fill
  refine VS.law_walk (l := PySem.Challenge.rw_askwithin_k06_questions_told) (k := 8) (r := K06.r_law) (x := "_law_script") rfl rfl ⟨rfl, by decide, by decide⟩ K06.law_holds (fun w h Y => PySem.W.kIn_of Y) ?F
  case F =>
    intro w mg fa h KX G hmg
    refine' K06.all_mk KX G hmg ?a0 ?l0 ?c0 ?k0 ?a1 ?l1 ?c1 ?k1 ?a2 ?l2 ?c2 ?k2 ?a3 ?l3 ?c3 ?k3 ?a4 ?l4 ?c4 ?k4 ?a5 ?l5 ?c5 ?k5 ?a6 ?l6 ?c6 ?k6 ?a7 ?l7 ?c7 ?k7 ?a8 ?l8 ?c8 ?k8 ?a9 ?l9 ?c9 ?k9 ?a10 ?l10 ?c10 ?k10 ?a11 ?l11 ?c11 ?k11 ?a12 ?l12 ?c12 ?k12 ?a13 ?l13 ?c13 ?k13 ?a14 ?l14 ?c14 ?k14 ?a15 ?l15 ?c15 ?k15 ?a16 ?l16 ?c16 ?k16 ?a17 ?l17 ?c17 ?k17 ?a18 ?l18 ?c18 ?k18 ?a19 ?l19 ?c19 ?k19 ?a20 ?l20 ?c20 ?k20 ?a21 ?l21 ?c21 ?k21 ?a22 ?l22 ?c22 ?k22 ?z_abs ?z_bool ?z_int ?z_isinstance ?z_len ?z_list ?z_range ?z_set ?z_sorted ?z_str ?z_tuple ?y_FIGURES ?v_FIGURES ?y_LETTERS ?v_LETTERS
    (case a0 => k_is)
    (case l0 => k_is)
    (case c0 => k_is)
    (case k0 => k_is)
    (case a1 => k_is)
    (case l1 => k_is)
    (case c1 => k_is)
    (case k1 => k_is)
    (case a2 => k_is)
    (case l2 => k_is)
    (case c2 => k_is)
    (case k2 => k_is)
    (case a3 => k_is)
    (case l3 => k_is)
    (case c3 => k_is)
    (case k3 => k_is)
    (case a4 => k_is)
    (case l4 => k_is)
    (case c4 => k_is)
    (case k4 => k_is)
    (case a5 => k_is)
    (case l5 => k_is)
    (case c5 => k_is)
    (case k5 => k_is)
    (case a6 => k_is)
    (case l6 => k_is)
    (case c6 => k_is)
    (case k6 => k_is)
    (case a7 => k_is)
    (case l7 => k_is)
    (case c7 => k_is)
    (case k7 => k_is)
    (case a8 => k_is)
    (case l8 => k_is)
    (case c8 => k_is)
    (case k8 => k_is)
    (case a9 => k_is)
    (case l9 => k_is)
    (case c9 => k_is)
    (case k9 => k_is)
    (case a10 => k_is)
    (case l10 => k_is)
    (case c10 => k_is)
    (case k10 => k_is)
    (case a11 => k_is)
    (case l11 => k_is)
    (case c11 => k_is)
    (case k11 => k_is)
    (case a12 => k_is)
    (case l12 => k_is)
    (case c12 => k_is)
    (case k12 => k_is)
    (case a13 => k_is)
    (case l13 => k_is)
    (case c13 => k_is)
    (case k13 => k_is)
    (case a14 => k_is)
    (case l14 => k_is)
    (case c14 => k_is)
    (case k14 => k_is)
    (case a15 => k_is)
    (case l15 => k_is)
    (case c15 => k_is)
    (case k15 => k_is)
    (case a16 => k_is)
    (case l16 => k_is)
    (case c16 => k_is)
    (case k16 => k_is)
    (case a17 => k_is)
    (case l17 => k_is)
    (case c17 => k_is)
    (case k17 => k_is)
    (case a18 => k_is)
    (case l18 => k_is)
    (case c18 => k_is)
    (case k18 => k_is)
    (case a19 => k_is)
    (case l19 => k_is)
    (case c19 => k_is)
    (case k19 => k_is)
    (case a20 => k_is)
    (case l20 => k_is)
    (case c20 => k_is)
    (case k20 => k_is)
    (case a21 => k_is)
    (case l21 => k_is)
    (case c21 => k_is)
    (case k21 => k_is)
    (case a22 => k_is)
    (case l22 => k_is)
    (case c22 => k_is)
    (case k22 => k_is)
    (case z_abs => k_is)
    (case z_bool => k_is)
    (case z_int => k_is)
    (case z_isinstance => k_is)
    (case z_len => k_is)
    (case z_list => k_is)
    (case z_range => k_is)
    (case z_set => k_is)
    (case z_sorted => k_is)
    (case z_str => k_is)
    (case z_tuple => k_is)
    (case y_FIGURES => k_is)
    (case v_FIGURES => exact ⟨_, rfl⟩)
    (case y_LETTERS => k_is)
    (case v_LETTERS => exact ⟨_, rfl⟩)
#print axioms PySem.Challenge.cw_askwithin_k06_questions_told_holds
