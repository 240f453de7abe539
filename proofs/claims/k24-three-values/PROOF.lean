import PyProof.Rows.All
import Wide.All
import OpenK.AllK
import Wide.FinOn
import PySem.Challenge.RW_leakyqueue_k24_whole_three_values_decide
import HandS.ForMost
import HandS.CallSlots
import HandS.WordsExc
import HandS.Deep
import HandS.StrMore
import HandS.EndBits
import HandS.Defaults
import HandS.IsInst
import HandS.Replace
import PyProof.ReprRoads
import PyProof.ListStr
import HandS.ExcInit
import HandS.TryMany
import KE.KExcInit
import HandS.ExcField
import HandS.ExcIs
import KE.KExcIs
import PyProof.Rows.StrCase
import PyProof.Rows.StrBetween
import HandS.Iter
import HandS.Flow
import HandS.More
import HandS.Style
import PyProof.CollectStr
import HandS.GenList
import PyProof.GenComp
import HandS.Conv
import HandS.ClsMeth
import HandS.Property
import HandS.OwnEq
set_option Elab.async false
set_option linter.all false
set_option maxRecDepth 100000
set_option maxHeartbeats 4000000
/-! The data layer: mirrors over plain data for defs of the text. -/
namespace DL
open PySem PySem.Spec PyProof.Rows L2

abbrev St := L2.St
/-- plain data -/
inductive D where
  | non | bl (b : Bool) | int (i : Int) | str (l : List Nat)
  | lst (l : List D) | tup (l : List D)
  | dic (ks vs : List D)
  | obj (c : Nat) (vs : List D)
  | fro (l : List D)
  | cls (c : Nat)

abbrev S (l : List Nat) : Str := ⟨l.toArray⟩

/-- the table of classes (their addresses, the names of their attributes), and the written part -/
structure Tb where
  K : PySem.W.Frag
  cls : Nat → Addr × List Str

def kD : Key → D
  | .inl i => .int i
  | .inr x => .str x.cps.toList

mutual
/-- in G the value v stands for d -/
def Rp (T : Tb) (G : Hp) : D → V → Prop
  | .non, v => v = .non
  | .bl b, v => v = .bl b
  | .int i, v => v = .int i
  | .str l, v => v = .str (S l)
  | .lst ds, v => ∃ a xs, v = .ref a ∧ G a = some (.lst xs) ∧ RpL T G ds xs
  | .tup ds, v => ∃ a xs, v = .ref a ∧ G a = some (.tup xs) ∧ RpL T G ds xs
  | .dic ks vs, v => ∃ a kvs, v = .ref a ∧ G a = some (.dK kvs) ∧ ks = kvs.map (fun p => kD p.1) ∧ RpL T G vs (kvs.map (·.2))
  | .obj c vs, v => ∃ a dx fs, v = .ref a ∧ G a = some (.ins (T.cls c).1 dx fs) ∧ fs.map (·.1) = (T.cls c).2 ∧ RpL T G vs (fs.map (·.2))
  | .fro ds, v => ∃ a xs, v = .ref a ∧ SqL T.K G a xs ∧ RpL T G ds xs
  | .cls c, v => v = .ref (T.cls c).1
def RpL (T : Tb) (G : Hp) : List D → List V → Prop
  | [], xs => xs = []
  | d :: ds, xs => ∃ x r, xs = x :: r ∧ Rp T G d x ∧ RpL T G ds r
end

section
variable {T : Tb} {G G' H : Hp}
/-- one heap within another -/
def Sub (G H : Hp) : Prop := ∀ a o, G a = some o → H a = some o
theorem Sub.refl : Sub G G := fun _ _ h => h
theorem Sub.trans {A B C : Hp} (a : Sub A B) (b : Sub B C) : Sub A C := fun x o h => b x o (a x o h)
theorem Sub.new {p : Addr} {o : HO} (h : H p = none) : Sub H (upd H p o) := fun b x e => by
  rw [upd_ne (ne_of_none e h)]
  exact e
theorem Sub.seq {K : PySem.W.Frag} {a : Addr} {xs : List V} (e : Sub G H) (h : SqL K G a xs) : SqL K H a xs := by
  rcases h with (h | ⟨o, h⟩) | h
  · exact .inl (.inl (e _ _ h))
  · exact .inl (.inr ⟨o, e _ _ h⟩)
  · exact .inr h

mutual
theorem Rp.mono (e : Sub G G') : ∀ (d : D) (v : V), Rp T G d v → Rp T G' d v
  | .non, v, h => by simp only [Rp] at h ⊢; exact h
  | .bl b, v, h => by simp only [Rp] at h ⊢; exact h
  | .int i, v, h => by simp only [Rp] at h ⊢; exact h
  | .str l, v, h => by simp only [Rp] at h ⊢; exact h
  | .lst ds, v, h => by
    simp only [Rp] at h ⊢
    obtain ⟨a, xs, h1, h2, h3⟩ := h
    exact ⟨a, xs, h1, e _ _ h2, RpL.mono e ds xs h3⟩
  | .tup ds, v, h => by
    simp only [Rp] at h ⊢
    obtain ⟨a, xs, h1, h2, h3⟩ := h
    exact ⟨a, xs, h1, e _ _ h2, RpL.mono e ds xs h3⟩
  | .dic ks vs, v, h => by
    simp only [Rp] at h ⊢
    obtain ⟨a, kvs, h1, h2, h3, h4⟩ := h
    exact ⟨a, kvs, h1, e _ _ h2, h3, RpL.mono e vs _ h4⟩
  | .obj c vs, v, h => by
    simp only [Rp] at h ⊢
    obtain ⟨a, dx, fs, h1, h2, h3, h4⟩ := h
    exact ⟨a, dx, fs, h1, e _ _ h2, h3, RpL.mono e vs _ h4⟩
  | .fro ds, v, h => by
    simp only [Rp] at h ⊢
    obtain ⟨a, xs, h1, h2, h3⟩ := h
    exact ⟨a, xs, h1, e.seq h2, RpL.mono e ds xs h3⟩
  | .cls c, v, h => by simp only [Rp] at h ⊢; exact h
theorem RpL.mono (e : Sub G G') : ∀ (ds : List D) (xs : List V), RpL T G ds xs → RpL T G' ds xs
  | [], xs, h => by simp only [RpL] at h ⊢; exact h
  | d :: ds, xs, h => by
    simp only [RpL] at h ⊢
    obtain ⟨x, r, h1, h2, h3⟩ := h
    exact ⟨x, r, h1, Rp.mono e d x h2, RpL.mono e ds r h3⟩
end
theorem RpL.length : ∀ {ds : List D} {xs : List V}, RpL T G ds xs → xs.length = ds.length
  | [], xs, h => by simp only [RpL] at h; rw [h]; rfl
  | d :: ds, xs, h => by
    simp only [RpL] at h
    obtain ⟨x, r, rfl, _, h3⟩ := h
    simp [RpL.length h3]
theorem RpL.get : ∀ {ds : List D} {xs : List V}, RpL T G ds xs → ∀ {i : Nat} {d : D}, ds[i]? = some d → ∃ x, xs[i]? = some x ∧ Rp T G d x
  | [], xs, h, i, d, e => by simp at e
  | d0 :: ds, xs, h, i, d, e => by
    simp only [RpL] at h
    obtain ⟨x, r, rfl, h2, h3⟩ := h
    cases i with
    | zero => simp at e; subst e; exact ⟨x, rfl, h2⟩
    | succ i => exact RpL.get h3 (i := i) (by simpa using e)
theorem RpL.append : ∀ {ds es : List D} {xs ys : List V}, RpL T G ds xs → RpL T G es ys → RpL T G (ds ++ es) (xs ++ ys)
  | [], es, xs, ys, h, h' => by simp only [RpL] at h; subst h; exact h'
  | d :: ds, es, xs, ys, h, h' => by
    simp only [RpL] at h
    obtain ⟨x, r, rfl, h2, h3⟩ := h
    show RpL T G (d :: (ds ++ es)) _
    simp only [RpL]
    exact ⟨x, r ++ ys, rfl, h2, RpL.append h3 h'⟩
theorem RpL.nil : RpL T G [] [] := by simp only [RpL]
theorem RpL.cons {d : D} {v : V} {ds : List D} {xs : List V} (h : Rp T G d v) (h' : RpL T G ds xs) : RpL T G (d :: ds) (v :: xs) := by
  simp only [RpL]; exact ⟨v, xs, rfl, h, h'⟩
theorem RpL.drop : ∀ (n : Nat) {ds : List D} {xs : List V}, RpL T G ds xs → RpL T G (ds.drop n) (xs.drop n)
  | 0, _, _, h => h
  | n + 1, [], xs, h => by simp only [RpL] at h; subst h; exact RpL.nil
  | n + 1, d :: ds, xs, h => by
    simp only [RpL] at h
    obtain ⟨x, r, rfl, h2, h3⟩ := h
    exact RpL.drop n h3
theorem RpL.take : ∀ (n : Nat) {ds : List D} {xs : List V}, RpL T G ds xs → RpL T G (ds.take n) (xs.take n)
  | 0, _, _, h => RpL.nil
  | n + 1, [], xs, h => by simp only [RpL] at h; subst h; exact RpL.nil
  | n + 1, d :: ds, xs, h => by
    simp only [RpL] at h
    obtain ⟨x, r, rfl, h2, h3⟩ := h
    exact RpL.cons h2 (RpL.take n h3)
theorem RpL.set : ∀ (n : Nat) {ds : List D} {xs : List V} {d : D} {v : V}, RpL T G ds xs → Rp T G d v → RpL T G (ds.set n d) (xs.set n v)
  | n, [], xs, _, _, h, _ => by simp only [RpL] at h; subst h; exact RpL.nil
  | 0, d :: ds, xs, _, _, h, q => by
    simp only [RpL] at h
    obtain ⟨x, r, rfl, h2, h3⟩ := h
    exact RpL.cons q h3
  | n + 1, d :: ds, xs, _, _, h, q => by
    simp only [RpL] at h
    obtain ⟨x, r, rfl, h2, h3⟩ := h
    exact RpL.cons h2 (RpL.set n h3 q)
end

/-- what a mutable object holds -/
def Cp (T : Tb) (G H : Hp) (p : Addr) : D → Prop
  | .lst ds => ∃ xs, H p = some (.lst xs) ∧ RpL T G ds xs
  | .dic ks vs => ∃ kvs, H p = some (.dK kvs) ∧ ks = kvs.map (fun p => kD p.1) ∧ RpL T G vs (kvs.map (·.2))
  | .obj c vs => ∃ dx fs, H p = some (.ins (T.cls c).1 dx fs) ∧ fs.map (·.1) = (T.cls c).2 ∧ RpL T G vs (fs.map (·.2))
  | _ => False

/-- a name's content: nothing known; plain data; a mutable object of this def's own (true: the caller's) -/
inductive Sl where
  | un | va (d : D) | ce (b : Bool) (d : D)
abbrev Env := List Sl
@[simp] def gt : Env → Nat → Sl
  | [], _ => .un
  | s :: _, 0 => s
  | _ :: r, n + 1 => gt r n
@[simp] def st : Env → Nat → Sl → Env
  | [], _, _ => []
  | _ :: r, 0, x => x :: r
  | s :: r, n + 1, x => s :: st r n x
theorem st_len : ∀ (e : Env) (n : Nat) (x : Sl), (st e n x).length = e.length
  | [], _, _ => rfl
  | _ :: _, 0, _ => rfl
  | s :: r, n + 1, x => by show (st r n x).length + 1 = r.length + 1; rw [st_len r n x]
theorem gt_st : ∀ (e : Env) (n : Nat) (x : Sl) (m : Nat), gt (st e n x) m = if m = n ∧ n < e.length then x else gt e m
  | [], n, x, m => by simp [st, gt]
  | s :: r, 0, x, 0 => by simp [st, gt]
  | s :: r, 0, x, m + 1 => by simp [st, gt]
  | s :: r, n + 1, x, 0 => by simp [st, gt]
  | s :: r, n + 1, x, m + 1 => by
    show gt (st r n x) m = _
    rw [gt_st r n x m]
    show _ = if m + 1 = n + 1 ∧ n + 1 < r.length + 1 then x else gt r m
    by_cases h : m = n ∧ n < r.length
    · rw [if_pos h, if_pos ⟨by omega, by omega⟩]
    · rw [if_neg h, if_neg (fun ⟨a, b⟩ => h ⟨by omega, by omega⟩)]
theorem gt_lt : ∀ {e : Env} {n : Nat}, gt e n ≠ .un → n < e.length
  | [], n, h => absurd rfl h
  | s :: r, 0, h => Nat.succ_pos _
  | s :: r, n + 1, h => Nat.succ_lt_succ (gt_lt (e := r) (n := n) h)

theorem st_st : ∀ (e : Env) (i : Nat) (x y : Sl), st (st e i x) i y = st e i y
  | [], _, _, _ => rfl
  | _ :: _, 0, _, _ => rfl
  | s :: r, i + 1, x, y => by show s :: _ = s :: _; rw [st_st r i x y]

/-- what stays through a body: Pr is to be kept; A: where the caller's mutable objects stand -/
structure Fx where
  T : Tb
  Pr : Hp
  A : Nat → Option Addr

/-- the state: G is frozen -/
structure SR (F : Fx) (G H : Hp) (σ : St) (e : Env) : Prop where
  prot : Sub F.Pr H
  sub : Sub G H
  len : e.length = σ.length
  va : ∀ i d, gt e i = .va d → ∃ v, σ[i]? = some (some v) ∧ Rp F.T G d v
  ce : ∀ i b d, gt e i = .ce b d → ∃ p, σ[i]? = some (some (.ref p)) ∧ (b = true → F.A i = some p) ∧ F.Pr p = none ∧ G p = none ∧ Cp F.T G H p d
  dis : ∀ i j b d b' d' p, gt e i = .ce b d → gt e j = .ce b' d' → σ[i]? = some (some (.ref p)) → σ[j]? = some (some (.ref p)) → i = j

def Ext (Pr G G' : Hp) : Prop := Sub G G' ∧ ∀ a o, G' a = some o → G a = some o ∨ Pr a = none
theorem Ext.refl {Pr G : Hp} : Ext Pr G G := ⟨Sub.refl, fun _ _ h => .inl h⟩
theorem Ext.trans {Pr G G1 G2 : Hp} (a : Ext Pr G G1) (b : Ext Pr G1 G2) : Ext Pr G G2 :=
  ⟨a.1.trans b.1, fun x o h => (b.2 x o h).elim (fun q => a.2 x o q) .inr⟩

/-- what an expression hands out: data; the mutable object of a name; a new mutable object -/
inductive PV where
  | d (d : D) | sl (i : Nat) | nw (d : D)

def Off (σ : St) (e : Env) (p : Addr) : Prop := ∀ i b d', gt e i = .ce b d' → σ[i]? ≠ some (some (.ref p))
def PVR (F : Fx) (G H : Hp) (σ : St) (e : Env) : PV → V → Prop
  | .d d, v => Rp F.T G d v
  | .sl i, v => σ[i]? = some (some v)
  | .nw d, v => ∃ p, v = .ref p ∧ F.Pr p = none ∧ G p = none ∧ Off σ e p ∧ Cp F.T G H p d

inductive R (α : Type) where
  | ok (a : α) | ex (c : Nat) (d : D) (e : Env) | no
@[reducible] def R.bind {α β : Type} (x : R α) (f : α → R β) : R β := match x with
  | .ok a => f a
  | .ex c d e => .ex c d e
  | .no => .no
instance : Monad R where
  pure := .ok
  bind := R.bind
@[simp] theorem R.bind_ok {α β : Type} (a : α) (f : α → R β) : ((R.ok a : R α) >>= f) = f a := rfl
@[simp] theorem R.bind_ex {α β : Type} (c : Nat) (d : D) (e : Env) (f : α → R β) : ((R.ex c d e : R α) >>= f) = .ex c d e := rfl
@[simp] theorem R.bind_no {α β : Type} (f : α → R β) : ((R.no : R α) >>= f) = .no := rfl
@[simp] theorem R.pure_ok {α : Type} (a : α) : (pure a : R α) = .ok a := rfl
@[simp] def R.of {α : Type} : Option α → R α
  | some a => .ok a
  | none => .no

/-- an exception of class c with the value d -/
def WEx (F : Fx) (W : WX) (σ : St) (G : Hp) (c : Nat) (d : D) (e : Env) : Prop := ∀ (dct : Addr) (v : V) (f : Str) (G' H' : Hp), Ext F.Pr G G' → SR F G' H' σ e → Rp F.T G' d v → (F.T.cls c).2 = [f] → H' dct = some (.xd [(f, v)]) → W (.ref (F.T.cls c).1) (some dct) σ H'

/-- what is wanted behind an expression -/
def OkE {α β : Type} (F : Fx) (W : WX) (σ : St) (G : Hp) (Q : β → Hp → Prop) (rel : Hp → Hp → Env → α → β → Prop) : R (α × Env) → Prop
  | .ok (a, e') => ∀ (v : β) (G' H' : Hp), Ext F.Pr G G' → SR F G' H' σ e' → rel G' H' e' a v → Q v H'
  | .ex c d e' => WEx F W σ G c d e'
  | .no => False

abbrev FE := Env → R (PV × Env)
abbrev FT := Env → R (Bool × Env)
abbrev FA := Env → R (List PV × Env)

section
variable {F : Fx} {W : WX} {G G1 H H1 : Hp} {σ : St} {e e1 : Env} {α β α' β' : Type}
theorem WEx.ext {c : Nat} {d : D} (x : Ext F.Pr G G1) (h : WEx F W σ G c d e) : WEx F W σ G1 c d e :=
  fun dct v f G' H' x' s r n q => h dct v f G' H' (x.trans x') s r n q
theorem OkE.ext {Q : β → Hp → Prop} {rel : Hp → Hp → Env → α → β → Prop} {r : R (α × Env)} (x : Ext F.Pr G G1) (h : OkE F W σ G Q rel r) : OkE F W σ G1 Q rel r := by
  cases r with
  | ok a => obtain ⟨a, e'⟩ := a; exact fun v G' H' x' => h v G' H' (x.trans x')
  | ex c d e' => exact WEx.ext x h
  | no => exact h
theorem OkE.first {Q : β → Hp → Prop} {rel : Hp → Hp → Env → α → β → Prop} {Q1 : β' → Hp → Prop} {rel1 : Hp → Hp → Env → α' → β' → Prop} {r : R (α' × Env)} {k : α' × Env → R (α × Env)}
    (h : OkE F W σ G Q rel (r >>= k)) (hk : ∀ a e1 v G1 H1, Ext F.Pr G G1 → SR F G1 H1 σ e1 → rel1 G1 H1 e1 a v → OkE F W σ G1 Q rel (k (a, e1)) → Q1 v H1) : OkE F W σ G Q1 rel1 r := by
  cases r with
  | ok a => obtain ⟨a, e'⟩ := a; exact fun v G' H' x' s q => hk a e' v G' H' x' s q (h.ext x')
  | ex c d e' => exact h
  | no => exact h

theorem Cp.mono {T : Tb} {p : Addr} {G' H' : Hp} (eg : Sub G G') (eh : ∀ o, H p = some o → H' p = some o) : ∀ {d : D}, Cp T G H p d → Cp T G' H' p d
  | .lst ds, ⟨xs, h1, h2⟩ => ⟨xs, eh _ h1, RpL.mono eg _ _ h2⟩
  | .dic ks vs, ⟨kvs, h1, h2, h3⟩ => ⟨kvs, eh _ h1, h2, RpL.mono eg _ _ h3⟩
  | .obj c vs, ⟨dx, fs, h1, h2, h3⟩ => ⟨dx, fs, eh _ h1, h2, RpL.mono eg _ _ h3⟩
theorem Cp.here {T : Tb} {p : Addr} : ∀ {d : D}, Cp T G H p d → ∃ o, H p = some o
  | .lst ds, ⟨xs, h1, h2⟩ => ⟨_, h1⟩
  | .dic ks vs, ⟨kvs, h1, h2, h3⟩ => ⟨_, h1⟩
  | .obj c vs, ⟨dx, fs, h1, h2, h3⟩ => ⟨_, h1⟩
/-- a mutable object, frozen -/
theorem Cp.froz {T : Tb} {p : Addr} {o : HO} {G' : Hp} (eg : Sub G G') (h : H p = some o) (hg : G' p = some o) : ∀ {d : D}, Cp T G H p d → Rp T G' d (.ref p)
  | .lst ds, ⟨xs, h1, h2⟩ => by
    rw [h] at h1; cases h1
    simp only [Rp]; exact ⟨p, xs, rfl, hg, RpL.mono eg _ _ h2⟩
  | .dic ks vs, ⟨kvs, h1, h2, h3⟩ => by
    rw [h] at h1; cases h1
    simp only [Rp]; exact ⟨p, kvs, rfl, hg, h2, RpL.mono eg _ _ h3⟩
  | .obj c vs, ⟨dx, fs, h1, h2, h3⟩ => by
    rw [h] at h1; cases h1
    simp only [Rp]; exact ⟨p, dx, fs, rfl, hg, h2, RpL.mono eg _ _ h3⟩

theorem SR.grow (s : SR F G H σ e) (x : Sub H H1) : SR F G H1 σ e where
  prot := s.prot.trans x
  sub := s.sub.trans x
  len := s.len
  va := s.va
  ce := fun i b d h => by
    obtain ⟨p, h1, h2, h3, h4, h5⟩ := s.ce i b d h
    exact ⟨p, h1, h2, h3, h4, h5.mono Sub.refl (x p)⟩
  dis := s.dis
theorem ext_new {Pr : Hp} {p : Addr} {o : HO} (hg : G p = none) (hp : Pr p = none) : Ext Pr G (upd G p o) :=
  ⟨Sub.new hg, fun a u h => by
    by_cases ha : a = p
    · subst ha; exact .inr hp
    · rw [upd_ne ha] at h; exact .inl h⟩
/-- what is frozen now -/
theorem SR.froz {p : Addr} {o : HO} (s : SR F G H σ e) (hh : H p = some o) (hg : G p = none) (off : Off σ e p) : SR F (upd G p o) H σ e where
  prot := s.prot
  sub := fun a u h => by
    by_cases ha : a = p
    · subst ha; rw [upd_same] at h; cases h; exact hh
    · rw [upd_ne ha] at h; exact s.sub a u h
  len := s.len
  va := fun i d h => by
    obtain ⟨v, h1, h2⟩ := s.va i d h
    exact ⟨v, h1, Rp.mono (Sub.new hg) _ _ h2⟩
  ce := fun i b d h => by
    obtain ⟨q, h1, h2, h3, h4, h5⟩ := s.ce i b d h
    refine ⟨q, h1, h2, h3, ?_, h5.mono (Sub.new hg) fun _ z => z⟩
    rw [upd_ne (fun z => off i b d h (by rw [← z]; exact h1))]
    exact h4
  dis := s.dis
/-- fresh at H: none of the state's -/
theorem SR.fresh {p : Addr} (s : SR F G H σ e) (h : H p = none) : F.Pr p = none ∧ G p = none ∧ Off σ e p := by
  refine ⟨?_, ?_, fun i b d q z => ?_⟩
  · cases q : F.Pr p with
    | none => rfl
    | some o => rw [s.prot p o q] at h; cases h
  · cases q : G p with
    | none => rfl
    | some o => rw [s.sub p o q] at h; cases h
  · obtain ⟨p', h1, _, _, _, h5⟩ := s.ce i b d q
    rw [z] at h1; cases h1
    obtain ⟨o, ho⟩ := h5.here
    rw [h] at ho; cases ho

/-- the value as data for good: a mutable object is frozen -/
@[simp] def settle (e : Env) : PV → R (D × Env)
  | .d d => .ok (d, e)
  | .nw d => .ok (d, e)
  | .sl i => match gt e i with
    | .ce false d => .ok (d, st e i (.va d))
    | .va d => .ok (d, e)
    | _ => .no
/-- a new object is frozen, so that it lasts -/
@[simp] def hold : PV → PV
  | .nw d => .d d
  | .d d => .d d
  | .sl i => .sl i
/-- the data as it stands now -/
@[simp] def look (e : Env) : PV → Option D
  | .d d => some d
  | .nw d => some d
  | .sl i => match gt e i with
    | .ce _ d => some d
    | .va d => some d
    | _ => none

theorem hold_ok {pv : PV} {v : V} (s : SR F G H σ e) (h : PVR F G H σ e pv v) : ∃ G', Ext F.Pr G G' ∧ SR F G' H σ e ∧ PVR F G' H σ e (hold pv) v := by
  cases pv with
  | d d => exact ⟨G, Ext.refl, s, h⟩
  | sl i => exact ⟨G, Ext.refl, s, h⟩
  | nw d =>
    obtain ⟨p, rfl, h1, h2, h3, h4⟩ := h
    obtain ⟨o, ho⟩ := h4.here
    exact ⟨upd G p o, ext_new h2 h1, s.froz ho h2 h3, h4.froz (Sub.new h2) ho upd_same⟩
theorem st_slot (s : SR F G H σ e) {i : Nat} {d : D} {v : V} (hi : ∀ b d', gt e i = .ce b d' → True) (hs : σ[i]? = some (some v)) (hr : Rp F.T G d v) : SR F G H σ (st e i (.va d)) where
  prot := s.prot
  sub := s.sub
  len := by rw [st_len]; exact s.len
  va := fun j d' h => by
    rw [gt_st] at h
    split at h
    · rename_i hj; cases h; rw [hj.1]; exact ⟨v, hs, hr⟩
    · exact s.va j d' h
  ce := fun j b d' h => by
    rw [gt_st] at h
    split at h
    · cases h
    · exact s.ce j b d' h
  dis := fun j k b d1 b' d2 p h1 h2 => by
    rw [gt_st] at h1 h2
    split at h1
    · cases h1
    · split at h2
      · cases h2
      · exact s.dis j k b d1 b' d2 p h1 h2
theorem un_slot (s : SR F G H σ e) (i : Nat) : SR F G H σ (st e i .un) where
  prot := s.prot
  sub := s.sub
  len := by rw [st_len]; exact s.len
  va := fun j d' h => by
    rw [gt_st] at h
    split at h
    · cases h
    · exact s.va j d' h
  ce := fun j b d' h => by
    rw [gt_st] at h
    split at h
    · cases h
    · exact s.ce j b d' h
  dis := fun j k b d1 b' d2 p h1 h2 => by
    rw [gt_st] at h1 h2
    split at h1
    · cases h1
    · split at h2
      · cases h2
      · exact s.dis j k b d1 b' d2 p h1 h2
theorem off_un (s : SR F G H σ e) {i : Nat} {b : Bool} {d : D} {p : Addr} (h : gt e i = .ce b d) (hs : σ[i]? = some (some (.ref p))) (x : Sl) (hx : ∀ b d, x ≠ .ce b d) : Off σ (st e i x) p := fun j b' d' q z => by
  rw [gt_st] at q
  split at q
  · exact hx _ _ q
  · rename_i hn
    exact hn ⟨(s.dis i j b d b' d' p h q hs z).symm, gt_lt (by rw [h]; intro z; cases z)⟩
theorem settle_ok {pv : PV} {v : V} {d : D} {e' : Env} (s : SR F G H σ e) (h : PVR F G H σ e pv v) (hs : settle e pv = .ok (d, e')) : ∃ G', Ext F.Pr G G' ∧ SR F G' H σ e' ∧ Rp F.T G' d v := by
  cases pv with
  | d d => cases hs; exact ⟨G, Ext.refl, s, h⟩
  | nw d =>
    cases hs
    obtain ⟨p, rfl, h1, h2, h3, h4⟩ := h
    obtain ⟨o, ho⟩ := h4.here
    exact ⟨upd G p o, ext_new h2 h1, s.froz ho h2 h3, h4.froz (Sub.new h2) ho upd_same⟩
  | sl i =>
    have h1 : σ[i]? = some (some v) := h
    simp only [settle] at hs
    split at hs
    · rename_i d0 h2
      cases hs
      obtain ⟨p, q1, q2, q3, q4, q5⟩ := s.ce i false d h2
      rw [h1] at q1; cases q1
      obtain ⟨o, ho⟩ := q5.here
      have s1 : SR F G H σ (st e i .un) := un_slot s i
      have s2 := s1.froz (p := p) ho q4 (off_un s h2 h1 .un (by intro _ _ z; cases z))
      have s3 := st_slot (i := i) (d := d) s2 (fun _ _ _ => trivial) h1 (q5.froz (Sub.new q4) ho upd_same)
      have e3 : st (st e i .un) i (.va d) = st e i (.va d) := st_st e i _ _
      rw [e3] at s3
      exact ⟨upd G p o, ext_new q4 q3, s3, q5.froz (Sub.new q4) ho upd_same⟩
    · rename_i d0 h2
      cases hs
      obtain ⟨v', q1, q2⟩ := s.va i d h2
      rw [h1] at q1; cases q1
      exact ⟨G, Ext.refl, s, q2⟩
    · cases hs

/-- an operand as an operation finds it -/
def Pk (T : Tb) (G H : Hp) (v : V) (d : D) : Prop := Rp T G d v ∨ ∃ p, v = .ref p ∧ Cp T G H p d
theorem look_ok {pv : PV} {v : V} {d : D} (s : SR F G H σ e) (h : PVR F G H σ e pv v) (hl : look e pv = some d) : Pk F.T G H v d := by
  cases pv with
  | d d => cases hl; exact .inl h
  | nw d => cases hl; obtain ⟨p, h1, _, _, _, h2⟩ := h; exact .inr ⟨p, h1, h2⟩
  | sl i =>
    have h1 : σ[i]? = some (some v) := h
    simp only [look] at hl
    split at hl
    · rename_i b d0 h2
      cases hl
      obtain ⟨p, q1, q2, q3, q4, q5⟩ := s.ce i b d h2
      rw [h1] at q1; cases q1
      exact .inr ⟨p, rfl, q5⟩
    · rename_i d0 h2
      cases hl
      obtain ⟨v', q1, q2⟩ := s.va i d h2
      rw [h1] at q1; cases q1
      exact .inl q2
    · cases hl
end

/-- an operation's result: an item or data that was there; a new list; a new tuple -/
inductive RV where
  | at (d : D) | ls (l : List D) | tu (l : List D) | di (ks vs : List D)
@[simp] def RV.pv : RV → PV
  | .at d => .d d
  | .ls l => .nw (.lst l)
  | .tu l => .d (.tup l)
  | .di ks vs => .nw (.dic ks vs)
def RVQ (T : Tb) (G H : Hp) (Q : VK) : RV → Prop
  | .at d => ∀ v, Rp T G d v → Q v H
  | .ls l => ∀ p xs, H p = none → RpL T G l xs → Q (.ref p) (upd H p (.lst xs))
  | .tu l => ∀ p xs, H p = none → RpL T G l xs → Q (.ref p) (upd H p (.tup xs))
  | .di ks vs => ∀ p kvs, H p = none → ks = kvs.map (fun p => kD p.1) → RpL T G vs (kvs.map (·.2)) → Q (.ref p) (upd H p (.dK kvs))
section
variable {F : Fx} {W : WX} {G H : Hp} {σ : St} {e : Env}
theorem rv_done {rv : RV} {Q : VK} (s : SR F G H σ e) (h : OkE F W σ G Q (fun G' H' e' pv v => PVR F G' H' σ e' pv v) (.ok (rv.pv, e))) : RVQ F.T G H Q rv := by
  cases rv with
  | «at» d => exact fun v hv => h v G H Ext.refl s hv
  | ls l =>
    intro p xs hp hx
    obtain ⟨f1, f2, f3⟩ := s.fresh hp
    exact h _ G _ Ext.refl (s.grow (Sub.new hp)) ⟨p, rfl, f1, f2, f3, xs, upd_same, hx⟩
  | di ks vs =>
    intro p kvs hp hk hx
    obtain ⟨f1, f2, f3⟩ := s.fresh hp
    exact h _ G _ Ext.refl (s.grow (Sub.new hp)) ⟨p, rfl, f1, f2, f3, kvs, upd_same, hk, hx⟩
  | tu l =>
    intro p xs hp hx
    obtain ⟨f1, f2, f3⟩ := s.fresh hp
    refine h _ (upd G p (.tup xs)) _ (ext_new f2 f1) ((s.grow (Sub.new hp)).froz upd_same f2 f3) ?_
    show Rp F.T _ (.tup l) _
    simp only [Rp]
    exact ⟨p, xs, rfl, upd_same, RpL.mono (Sub.new f2) _ _ hx⟩
end
end DL
set_option Elab.async false
set_option linter.all false
set_option maxRecDepth 100000
set_option maxHeartbeats 4000000
namespace DL
open PySem PySem.Spec PyProof.Rows L2

abbrev rPV (F : Fx) (σ : St) : Hp → Hp → Env → PV → V → Prop := fun G' H' e' pv v => PVR F G' H' σ e' pv v
/-- an expression and its mirror -/
def SE (T : Tb) (W : WX) (X : Cx) (x : Expr) (t : TE) (f : FE) : Prop := PE X x t ∧ ∀ (Pr : Hp) (A : Nat → Option Addr) (G H : Hp) (σ : St) (e : Env) (Q : VK), SR ⟨T, Pr, A⟩ G H σ e → OkE ⟨T, Pr, A⟩ W σ G Q (rPV ⟨T, Pr, A⟩ σ) (f e) → t σ H Q
def ST (T : Tb) (W : WX) (X : Cx) (x : Expr) (t : TT) (f : FT) : Prop := PT X x t ∧ ∀ (Pr : Hp) (A : Nat → Option Addr) (G H : Hp) (σ : St) (e : Env) (Q : Bool → Hp → Prop), SR ⟨T, Pr, A⟩ G H σ e → OkE ⟨T, Pr, A⟩ W σ G Q (fun _ _ _ b v => v = b) (f e) → t σ H Q
def SW (T : Tb) (W : WX) (X : Cx) (x : Expr) (t : TT) (f : FT) : Prop := PW X x t ∧ ∀ (Pr : Hp) (A : Nat → Option Addr) (G H : Hp) (σ : St) (e : Env) (Q : Bool → Hp → Prop), SR ⟨T, Pr, A⟩ G H σ e → OkE ⟨T, Pr, A⟩ W σ G Q (fun _ _ _ b v => v = b) (f e) → t σ H Q
/-- a list of held operands -/
def PVL (F : Fx) (G : Hp) (σ : St) : List PV → List V → Prop
  | [], vs => vs = []
  | p :: ps, vs => ∃ v r, vs = v :: r ∧ (match p with | .d d => Rp F.T G d v | .sl i => σ[i]? = some (some v) | .nw _ => False) ∧ PVL F G σ ps r
def SA (T : Tb) (W : WX) (X : Cx) (xs : List Expr) (t : TA) (f : FA) : Prop := PA X xs t ∧ ∀ (Pr : Hp) (A : Nat → Option Addr) (G H : Hp) (σ : St) (e : Env) (Q : List V → Hp → Prop), SR ⟨T, Pr, A⟩ G H σ e → OkE ⟨T, Pr, A⟩ W σ G Q (fun G' _ _ ps vs => PVL ⟨T, Pr, A⟩ G' σ ps vs) (f e) → t σ H Q

section
variable {T : Tb} {W : WX} {X : Cx} {F : Fx} {G G' H : Hp} {σ : St} {e : Env}
theorem PVL.mono (x : Sub G G') : ∀ {ps : List PV} {vs : List V}, PVL F G σ ps vs → PVL F G' σ ps vs
  | [], _, h => h
  | .d d :: ps, _, ⟨v, r, h1, h2, h3⟩ => ⟨v, r, h1, Rp.mono x _ _ h2, PVL.mono x h3⟩
  | .sl i :: ps, _, ⟨v, r, h1, h2, h3⟩ => ⟨v, r, h1, h2, PVL.mono x h3⟩
  | .nw d :: ps, _, ⟨v, r, h1, h2, h3⟩ => h2.elim

/-! ### names, constants -/
def fV (i : Nat) : FE := fun e => match gt e i with
  | .va d => .ok (.d d, e)
  | .ce _ _ => .ok (.sl i, e)
  | .un => .no
def fC (d : D) : FE := fun e => .ok (.d d, e)
theorem se_v {i : Nat} {x : Expr} (h : PE X x (tVar i)) : SE T W X x (tVar i) (fV i) := by
  refine ⟨h, fun Pr A G H σ e Q s h => ?_⟩
  cases q : gt e i with
  | va d =>
    simp only [fV, q] at h
    obtain ⟨v, h1, h2⟩ := s.va i d q
    exact ⟨v, h1, h v G H Ext.refl s h2⟩
  | ce b d =>
    simp only [fV, q] at h
    obtain ⟨p, h1, _⟩ := s.ce i b d q
    exact ⟨.ref p, h1, h _ G H Ext.refl s h1⟩
  | un => simp only [fV, q] at h; exact h.elim
theorem se_c {d : D} {v : V} {x : Expr} (h : PE X x (tC v)) (hr : ∀ G, Rp T G d v) : SE T W X x (tC v) (fC d) :=
  ⟨h, fun Pr A G H σ e Q s h => h v G H Ext.refl s (hr G)⟩
theorem se_int {i : Int} {j pos} : SE T W X (.Constant (.int i) j pos) (tC (.int i)) (fC (.int i)) := se_c pe_int fun _ => by simp only [Rp]
theorem se_bl {b : Bool} {j pos} : SE T W X (.Constant (.bool b) j pos) (tC (.bl b)) (fC (.bl b)) := se_c pe_bl fun _ => by simp only [Rp]
theorem se_non {j pos} : SE T W X (.Constant .none j pos) (tC .non) (fC .non) := se_c pe_non fun _ => by simp only [Rp]
theorem se_str {x : Str} {l : List Nat} {j pos} (h : x = S l) : SE T W X (.Constant (.str x) j pos) (tC (.str x)) (fC (.str l)) := se_c pe_str fun _ => by simp only [Rp]; rw [h]

/-! ### operators -/
def OpD (T : Tb) (r : R2) (op : D → D → Option RV) : Prop := ∀ (G H : Hp) (x y : V) (dx dy : D) (rv : RV) (Q : VK), Sub G H → Pk T G H x dx → Pk T G H y dy → op dx dy = some rv → RVQ T G H Q rv → r x y H Q
def UnD (T : Tb) (r : V → Hp → VK → Prop) (op : D → Option RV) : Prop := ∀ (G H : Hp) (x : V) (dx : D) (rv : RV) (Q : VK), Sub G H → Pk T G H x dx → op dx = some rv → RVQ T G H Q rv → r x H Q
def PkL (T : Tb) (G H : Hp) : List V → List D → Prop
  | vs, [] => vs = []
  | vs, d :: ds => ∃ v r, vs = v :: r ∧ Pk T G H v d ∧ PkL T G H r ds
def CallD (T : Tb) (r : List V → Hp → VK → Prop) (op : List D → Option RV) : Prop := ∀ (G H : Hp) (vs : List V) (ds : List D) (rv : RV) (Q : VK), Sub G H → PkL T G H vs ds → op ds = some rv → RVQ T G H Q rv → r vs H Q
def fBin (op : D → D → Option RV) (fa fb : FE) : FE := fun e => do
  let (pa, e1) ← fa e
  let (pb, e2) ← fb e1
  let da ← R.of (look e2 (hold pa))
  let db ← R.of (look e2 pb)
  let rv ← R.of (op da db)
  .ok (rv.pv, e2)
def fUn (op : D → Option RV) (fa : FE) : FE := fun e => do
  let (pa, e1) ← fa e
  let da ← R.of (look e1 pa)
  let rv ← R.of (op da)
  .ok (rv.pv, e1)
@[simp] def lookL (e : Env) : List PV → Option (List D)
  | [] => some []
  | p :: ps => match look e p, lookL e ps with
    | some d, some ds => some (d :: ds)
    | _, _ => none
def fCB (op : List D → Option RV) (fa : FA) : FE := fun e => do
  let (ps, e1) ← fa e
  let ds ← R.of (lookL e1 ps)
  let rv ← R.of (op ds)
  .ok (rv.pv, e1)
theorem of_ok {α β : Type} {W : WX} {Q : β → Hp → Prop} {rel : Hp → Hp → Env → α → β → Prop} {γ : Type} {o : Option γ} {k : γ → R (α × Env)} (h : OkE F W σ G Q rel ((R.of o) >>= k)) : ∃ a, o = some a ∧ OkE F W σ G Q rel (k a) := by
  cases o with
  | none => exact h.elim
  | some a => exact ⟨a, rfl, h⟩
theorem hold_nn {pv : PV} {d : D} : hold pv ≠ .nw d := by cases pv <;> intro z <;> cases z
theorem PVR.stay {pv : PV} {v : V} {H H' : Hp} {e e' : Env} (h : PVR F G H σ e (hold pv) v) (x : Sub G G') : PVR F G' H' σ e' (hold pv) v := by
  cases pv with
  | d d => exact Rp.mono x _ _ h
  | nw d => exact Rp.mono x _ _ h
  | sl i => exact h
theorem se_bin {x a b : Expr} {r : R2} {op : D → D → Option RV} {fa fb : FE} (hx : ∀ ta tb, PE X a ta → PE X b tb → PE X x (tOp r ta tb)) (hd : OpD T r op) (ha : SE T W X a ta fa) (hb : SE T W X b tb fb) : SE T W X x (tOp r ta tb) (fBin op fa fb) := by
  obtain ⟨pa, ra⟩ := ha
  obtain ⟨pb, rb⟩ := hb
  refine ⟨hx _ _ pa pb, fun Pr A G H σ e Q s h => ?_⟩
  refine ra Pr A G H σ e _ s (h.first fun p1 e1 v1 G1 H1 x1 s1 q1 h1 => ?_)
  obtain ⟨G2, x2, s2, q2⟩ := hold_ok s1 q1
  refine rb Pr A G2 H1 σ e1 _ s2 ((h1.ext x2).first fun p2 e2 v2 G3 H3 x3 s3 q3 h3 => ?_)
  obtain ⟨da, l1, h4⟩ := of_ok h3
  obtain ⟨db, l2, h5⟩ := of_ok h4
  obtain ⟨rv, l3, h6⟩ := of_ok h5
  exact hd G3 H3 v1 v2 da db rv _ s3.sub (look_ok s3 (q2.stay x3.1) l1) (look_ok s3 q3 l2) l3 (rv_done s3 h6)
theorem se_un {x a : Expr} {r : V → Hp → VK → Prop} {op : D → Option RV} {fa : FE} (hx : ∀ ta, PE X a ta → PE X x (tUn r ta)) (hd : UnD T r op) (ha : SE T W X a ta fa) : SE T W X x (tUn r ta) (fUn op fa) := by
  obtain ⟨pa, ra⟩ := ha
  refine ⟨hx _ pa, fun Pr A G H σ e Q s h => ?_⟩
  refine ra Pr A G H σ e _ s (h.first fun p1 e1 v1 G1 H1 x1 s1 q1 h1 => ?_)
  obtain ⟨da, l1, h4⟩ := of_ok h1
  obtain ⟨rv, l3, h6⟩ := of_ok h4
  exact hd G1 H1 v1 da rv _ s1.sub (look_ok s1 q1 l1) l3 (rv_done s1 h6)

/-! ### arguments -/
def fNil : FA := fun e => .ok ([], e)
def fCons (fa : FE) (fr : FA) : FA := fun e => do
  let (p, e1) ← fa e
  let (ps, e2) ← fr e1
  .ok (hold p :: ps, e2)
theorem sa_nil : SA T W X [] tNil fNil := ⟨pa_nil, fun Pr A G H σ e Q s h => h [] G H Ext.refl s rfl⟩
theorem cons_run {ta : TE} {tr : TA} {fa : FE} {fr : FA} (ra : ∀ (Pr : Hp) (A : Nat → Option Addr) (G H : Hp) (σ : St) (e : Env) (Q : VK), SR ⟨T, Pr, A⟩ G H σ e → OkE ⟨T, Pr, A⟩ W σ G Q (rPV ⟨T, Pr, A⟩ σ) (fa e) → ta σ H Q)
    (rr : ∀ (Pr : Hp) (A : Nat → Option Addr) (G H : Hp) (σ : St) (e : Env) (Q : List V → Hp → Prop), SR ⟨T, Pr, A⟩ G H σ e → OkE ⟨T, Pr, A⟩ W σ G Q (fun G' _ _ ps vs => PVL ⟨T, Pr, A⟩ G' σ ps vs) (fr e) → tr σ H Q)
    (Pr : Hp) (A : Nat → Option Addr) (G H : Hp) (σ : St) (e : Env) (Q : List V → Hp → Prop) (s : SR ⟨T, Pr, A⟩ G H σ e) (h : OkE ⟨T, Pr, A⟩ W σ G Q (fun G' _ _ ps vs => PVL ⟨T, Pr, A⟩ G' σ ps vs) (fCons fa fr e)) : tCons ta tr σ H Q := by
  refine ra Pr A G H σ e _ s (h.first fun p1 e1 v1 G1 H1 x1 s1 q1 h1 => ?_)
  obtain ⟨G2, x2, s2, q2⟩ := hold_ok s1 q1
  refine rr Pr A G2 H1 σ e1 _ s2 ((h1.ext x2).first fun ps e2 vs G3 H3 x3 s3 q3 h3 => ?_)
  refine h3 _ G3 H3 Ext.refl s3 ⟨v1, vs, rfl, ?_, q3⟩
  cases p1 with
  | d d => exact Rp.mono x3.1 _ _ q2
  | nw d => exact Rp.mono x3.1 _ _ q2
  | sl i => exact q2
theorem sa_cons {a : Expr} {es : List Expr} {fa : FE} {fr : FA} (ha : SE T W X a ta fa) (hr : SA T W X es tr fr) (hs : starEach (a :: es) X.env = (false, eval a X.env) :: starEach es X.env := by rfl) : SA T W X (a :: es) (tCons ta tr) (fCons fa fr) :=
  ⟨pa_cons ha.1 hr.1 hs, cons_run ha.2 hr.2⟩
theorem lookL_ok (s : SR F G H σ e) : ∀ {ps : List PV} {vs : List V} {ds : List D}, PVL F G σ ps vs → lookL e ps = some ds → PkL F.T G H vs ds
  | [], vs, ds, h, hl => by cases hl; exact h
  | p :: ps, vs, ds, ⟨v, r, h1, h2, h3⟩, hl => by
    simp only [lookL] at hl
    split at hl
    · rename_i d ds' e1 e2
      cases hl
      refine ⟨v, r, h1, ?_, lookL_ok s h3 e2⟩
      refine look_ok (pv := p) s ?_ e1
      cases p with
      | d d => exact h2
      | sl i => exact h2
      | nw d => exact h2.elim
    · cases hl
theorem se_cb {x : Expr} {es : List Expr} {r : List V → Hp → VK → Prop} {op : List D → Option RV} {fa : FA} (hx : ∀ t, PA X es t → PE X x (tCB r t)) (hd : CallD T r op) (ha : SA T W X es ta fa) : SE T W X x (tCB r ta) (fCB op fa) := by
  obtain ⟨pa, ra⟩ := ha
  refine ⟨hx _ pa, fun Pr A G H σ e Q s h => ?_⟩
  refine ra Pr A G H σ e _ s (h.first fun ps e1 vs G1 H1 x1 s1 q1 h1 => ?_)
  obtain ⟨ds, l1, h4⟩ := of_ok h1
  obtain ⟨rv, l3, h6⟩ := of_ok h4
  exact hd G1 H1 vs ds rv _ s1.sub (lookL_ok s1 q1 l1) l3 (rv_done s1 h6)

/-! ### displays -/
/-- all for good -/
@[simp] def settleL (e : Env) : List PV → R (List D × Env)
  | [] => .ok ([], e)
  | p :: ps => do
    let (d, e1) ← settle e p
    let (ds, e2) ← settleL e1 ps
    .ok (d :: ds, e2)
theorem settleL_ok : ∀ {ps : List PV} {vs : List V} {G : Hp} {e : Env} {ds : List D} {e' : Env}, SR F G H σ e → PVL F G σ ps vs → settleL e ps = .ok (ds, e') → ∃ G', Ext F.Pr G G' ∧ SR F G' H σ e' ∧ RpL F.T G' ds vs
  | [], vs, G, e, ds, e', s, h, hs => by cases hs; exact ⟨G, Ext.refl, s, by simp only [RpL]; exact h⟩
  | p :: ps, vs, G, e, ds, e', s, ⟨v, r, h1, h2, h3⟩, hs => by
    subst h1
    simp only [settleL] at hs
    cases q1 : settle e p with
    | ok a =>
      obtain ⟨d, e1⟩ := a
      rw [q1] at hs
      simp only [R.bind_ok] at hs
      cases q2 : settleL e1 ps with
      | ok b =>
        obtain ⟨ds', e2⟩ := b
        rw [q2] at hs
        simp only [R.bind_ok] at hs
        cases hs
        have hp : PVR F G H σ e p v := by cases p <;> first | exact h2 | exact h2.elim
        obtain ⟨G1, x1, s1, r1⟩ := settle_ok s hp q1
        obtain ⟨G2, x2, s2, r2⟩ := settleL_ok s1 (h3.mono x1.1) q2
        exact ⟨G2, x1.trans x2, s2, RpL.cons (Rp.mono x2.1 _ _ r1) r2⟩
      | ex _ _ _ => rw [q2] at hs; cases hs
      | no => rw [q2] at hs; cases hs
    | ex _ _ _ => rw [q1] at hs; cases hs
    | no => rw [q1] at hs; cases hs
/-- a bound that every size of the program keeps -/
abbrev LIM : Nat := 1000000
theorem lim_le : LIM ≤ sizeLine := by decide
def fLst (fa : FA) : FE := fun e => do
  let (ps, e1) ← fa e
  let (ds, e2) ← settleL e1 ps
  if ds.length ≤ LIM then .ok (.nw (.lst ds), e2) else .no
def fTup (fa : FA) : FE := fun e => do
  let (ps, e1) ← fa e
  let (ds, e2) ← settleL e1 ps
  if ds.length ≤ LIM then .ok (.d (.tup ds), e2) else .no
theorem no_of {α β γ : Type} {W : WX} {Q : β → Hp → Prop} {rel : Hp → Hp → Env → α → β → Prop} {o : R γ} {k : γ → R (α × Env)} (hn : ∀ c d e, o ≠ .ex c d e) (h : OkE F W σ G Q rel (o >>= k)) : ∃ a, o = .ok a ∧ OkE F W σ G Q rel (k a) := by
  cases o with
  | ok a => exact ⟨a, rfl, h⟩
  | ex c d e => exact absurd rfl (hn c d e)
  | no => exact h.elim
theorem settle_nx {e : Env} {p : PV} {c d e'} : settle e p ≠ .ex c d e' := by
  cases p with
  | d _ => intro z; cases z
  | nw _ => intro z; cases z
  | sl i => simp only [settle]; split <;> intro z <;> cases z
theorem settleL_nx : ∀ {ps : List PV} {e : Env} {c d e'}, settleL e ps ≠ .ex c d e'
  | [], e, _, _, _ => by intro z; cases z
  | p :: ps, e, c, d, e' => by
    simp only [settleL]
    cases q1 : settle e p with
    | ok a =>
      obtain ⟨d, e1⟩ := a
      simp only [R.bind_ok]
      cases q2 : settleL e1 ps with
      | ok b => intro z; cases z
      | ex c d e => exact absurd q2 settleL_nx
      | no => intro z; cases z
    | ex c d e => exact absurd q1 settle_nx
    | no => intro z; cases z
theorem if_ok {α β : Type} {W : WX} {Q : β → Hp → Prop} {rel : Hp → Hp → Env → α → β → Prop} {c : Prop} [Decidable c] {x : R (α × Env)} (h : OkE F W σ G Q rel (if c then x else .no)) : c ∧ OkE F W σ G Q rel x := by
  by_cases q : c
  · rw [if_pos q] at h; exact ⟨q, h⟩
  · rw [if_neg q] at h; exact h.elim
theorem PVL.length : ∀ {ps : List PV} {vs : List V}, PVL F G σ ps vs → vs.length = ps.length
  | [], _, h => by rw [h]; rfl
  | p :: ps, _, ⟨v, r, h1, h2, h3⟩ => by rw [h1]; simp [PVL.length h3]
theorem se_lst {es : List Expr} {fa : FA} {pos : Pos} (ha : SA T W X es ta fa) : SE T W X (.List es pos) (tLst ta) (fLst fa) := by
  obtain ⟨pa, ra⟩ := ha
  refine ⟨pe_lst pa, fun Pr A G H σ e Q s h => ?_⟩
  refine ra Pr A G H σ e _ s (h.first fun ps e1 vs G1 H1 x1 s1 q1 h1 => ?_)
  obtain ⟨⟨ds, e2⟩, l1, h2⟩ := no_of (fun _ _ _ => settleL_nx) h1
  obtain ⟨G2, x2, s2, q2⟩ := settleL_ok s1 q1 l1
  obtain ⟨hl, h2⟩ := if_ok h2
  refine ⟨Nat.le_trans (Nat.le_trans (Nat.le_of_eq (RpL.length q2)) hl) lim_le, fun p hp => ?_⟩
  exact rv_done (rv := .ls ds) s2 (h2.ext x2) p vs hp q2
theorem se_tup {es : List Expr} {fa : FA} {k : Nat} {pos : Pos} (ha : SA T W X es ta fa) : SE T W X (.Tuple es k pos) (tTup ta) (fTup fa) := by
  obtain ⟨pa, ra⟩ := ha
  refine ⟨pe_tup pa, fun Pr A G H σ e Q s h => ?_⟩
  refine ra Pr A G H σ e _ s (h.first fun ps e1 vs G1 H1 x1 s1 q1 h1 => ?_)
  obtain ⟨⟨ds, e2⟩, l1, h2⟩ := no_of (fun _ _ _ => settleL_nx) h1
  obtain ⟨G2, x2, s2, q2⟩ := settleL_ok s1 q1 l1
  obtain ⟨hl, h2⟩ := if_ok h2
  refine ⟨Nat.le_trans (Nat.le_trans (Nat.le_of_eq (RpL.length q2)) hl) lim_le, fun p hp => ?_⟩
  exact rv_done (rv := .tu ds) s2 (h2.ext x2) p vs hp q2

/-! ### truth -/
def fTst (fa : FE) : FT := fun e => do
  let (p, e1) ← fa e
  match look e1 p with
  | some (.bl b) => .ok (b, e1)
  | _ => .no
theorem bl_of {pv : PV} {v : V} {b : Bool} (s : SR F G H σ e) (q : PVR F G H σ e pv v) (hl : look e pv = some (.bl b)) : v = .bl b := by
  rcases look_ok s q hl with h | ⟨p, _, h⟩
  · simp only [Rp] at h; exact h
  · exact h.elim
theorem st_any {x y : Expr} {t : TE} {f : FE} (hx : ∀ t, PE X y t → PT X x (tB t)) (ha : SE T W X y ta f) : ST T W X x (tB ta) (fTst f) := by
  obtain ⟨pa, ra⟩ := ha
  refine ⟨hx _ pa, fun Pr A G H σ e Q s h => ?_⟩
  refine ra Pr A G H σ e _ s (h.first fun p1 e1 v1 G1 H1 x1 s1 q1 h1 => ?_)
  dsimp only at h1
  split at h1
  · rename_i b hb
    exact ⟨b, bl_of s1 q1 hb, h1 b G1 H1 Ext.refl s1 rfl⟩
  · exact h1.elim
theorem st_val {x : Expr} {f : FE} (ha : SE T W X x ta f) (he : ∀ whole, isTrue x X.env whole = (do let v ← whole; standAt x.pos; holding [v] (truthy v)) := by intro _; rfl) : ST T W X x (tB ta) (fTst f) :=
  st_any (t := fun _ _ _ => False) (fun t h => pt_val h he) ha
def fAnd (fa fb : FT) : FT := fun e => do
  let (b, e1) ← fa e
  if b = true then fb e1 else .ok (false, e1)
def fOr (fa fb : FT) : FT := fun e => do
  let (b, e1) ← fa e
  if b = true then .ok (true, e1) else fb e1
def fNot (fa : FT) : FT := fun e => do
  let (b, e1) ← fa e
  .ok (!b, e1)
theorem st_w {x : Expr} {f : FT} (h : SW T W X x t0 f) : ST T W X x t0 f := by
  obtain ⟨p, r⟩ := h
  exact ⟨p.pt, r⟩
variable {a b : Expr} {rest : List Expr} {pos : Pos} {fa fb : FT}
theorem sw_and1 (ha : ST T W X a ta fa) : SW T W X (.BoolOp .And [a] pos) ta fa := by
  obtain ⟨p, r⟩ := ha
  exact ⟨pw_and1 p, r⟩
theorem sw_or1 (ha : ST T W X a ta fa) : SW T W X (.BoolOp .Or [a] pos) ta fa := by
  obtain ⟨p, r⟩ := ha
  exact ⟨pw_or1 p, r⟩
theorem sw_and (ha : ST T W X a ta fa) (hb : SW T W X (.BoolOp .And (b :: rest) pos) tb fb) : SW T W X (.BoolOp .And (a :: b :: rest) pos) (tAnd ta tb) (fAnd fa fb) := by
  obtain ⟨p, r⟩ := ha
  obtain ⟨p2, r2⟩ := hb
  refine ⟨pw_and p p2, fun Pr A G H σ e Q s h => ?_⟩
  refine r Pr A G H σ e _ s (h.first fun b1 e1 v1 G1 H1 x1 s1 q1 h1 => ?_)
  subst q1
  cases v1 with
  | true => exact r2 Pr A G1 H1 σ e1 Q s1 h1
  | false => exact h1 false G1 H1 Ext.refl s1 rfl
theorem sw_or (ha : ST T W X a ta fa) (hb : SW T W X (.BoolOp .Or (b :: rest) pos) tb fb) : SW T W X (.BoolOp .Or (a :: b :: rest) pos) (tOr ta tb) (fOr fa fb) := by
  obtain ⟨p, r⟩ := ha
  obtain ⟨p2, r2⟩ := hb
  refine ⟨pw_or p p2, fun Pr A G H σ e Q s h => ?_⟩
  refine r Pr A G H σ e _ s (h.first fun b1 e1 v1 G1 H1 x1 s1 q1 h1 => ?_)
  subst q1
  cases v1 with
  | true => exact h1 true G1 H1 Ext.refl s1 rfl
  | false => exact r2 Pr A G1 H1 σ e1 Q s1 h1
theorem st_not (ha : ST T W X a ta fa) : ST T W X (.UnaryOp .Not a pos) (tNot ta) (fNot fa) := by
  obtain ⟨p, r⟩ := ha
  refine ⟨pt_not p, fun Pr A G H σ e Q s h => ?_⟩
  refine r Pr A G H σ e _ s (h.first fun b1 e1 v1 G1 H1 x1 s1 q1 h1 => ?_)
  subst q1
  exact h1 (!v1) G1 H1 Ext.refl s1 rfl
/-! .. as values -/
def fAndV (fa fb : FE) : FE := fun e => do
  let (p, e1) ← fa e
  match look e1 p with
  | some (.bl b) => if b = true then fb e1 else .ok (.d (.bl false), e1)
  | _ => .no
def fOrV (fa fb : FE) : FE := fun e => do
  let (p, e1) ← fa e
  match look e1 p with
  | some (.bl b) => if b = true then .ok (.d (.bl true), e1) else fb e1
  | _ => .no
def fNotV (fa : FE) : FE := fun e => do
  let (p, e1) ← fa e
  match look e1 p with
  | some (.bl b) => .ok (.d (.bl (!b)), e1)
  | _ => .no
variable {ga gb : FE}
theorem se_one {op} (h : SE T W X a t0 ga) : SE T W X (.BoolOp op [a] pos) t0 ga := by
  obtain ⟨p, r⟩ := h
  exact ⟨pe_one p, r⟩
theorem se_and (ha : SE T W X a ta ga) (hb : SE T W X (.BoolOp .And (b :: rest) pos) tb gb) : SE T W X (.BoolOp .And (a :: b :: rest) pos) (tAndV ta tb) (fAndV ga gb) := by
  obtain ⟨p, r⟩ := ha
  obtain ⟨p2, r2⟩ := hb
  refine ⟨pe_and p p2, fun Pr A G H σ e Q s h => ?_⟩
  refine r Pr A G H σ e _ s (h.first fun b1 e1 v1 G1 H1 x1 s1 q1 h1 => ?_)
  dsimp only at h1
  split at h1
  · rename_i b hb
    refine ⟨b, bl_of s1 q1 hb, ?_⟩
    cases b with
    | true => exact r2 Pr A G1 H1 σ e1 Q s1 h1
    | false => exact h1 _ G1 H1 Ext.refl s1 (by show Rp _ _ _ _; simp only [Rp])
  · exact h1.elim
theorem se_or (ha : SE T W X a ta ga) (hb : SE T W X (.BoolOp .Or (b :: rest) pos) tb gb) : SE T W X (.BoolOp .Or (a :: b :: rest) pos) (tOrV ta tb) (fOrV ga gb) := by
  obtain ⟨p, r⟩ := ha
  obtain ⟨p2, r2⟩ := hb
  refine ⟨pe_or p p2, fun Pr A G H σ e Q s h => ?_⟩
  refine r Pr A G H σ e _ s (h.first fun b1 e1 v1 G1 H1 x1 s1 q1 h1 => ?_)
  dsimp only at h1
  split at h1
  · rename_i b hb
    refine ⟨b, bl_of s1 q1 hb, ?_⟩
    cases b with
    | true => exact h1 _ G1 H1 Ext.refl s1 (by show Rp _ _ _ _; simp only [Rp])
    | false => exact r2 Pr A G1 H1 σ e1 Q s1 h1
  · exact h1.elim
theorem se_not (ha : SE T W X a ta ga) : SE T W X (.UnaryOp .Not a pos) (tNotV ta) (fNotV ga) := by
  obtain ⟨p, r⟩ := ha
  refine ⟨pe_not p, fun Pr A G H σ e Q s h => ?_⟩
  refine r Pr A G H σ e _ s (h.first fun b1 e1 v1 G1 H1 x1 s1 q1 h1 => ?_)
  dsimp only at h1
  split at h1
  · rename_i b hb
    exact ⟨b, bl_of s1 q1 hb, h1 _ G1 H1 Ext.refl s1 (by show Rp _ _ _ _; simp only [Rp])⟩
  · exact h1.elim
def fIfE (ft : FT) (fa fb : FE) : FE := fun e => do
  let (b, e1) ← ft e
  if b = true then fa e1 else fb e1
theorem se_if {c : Expr} {ft : FT} (hc : ST T W X c tc ft) (ha : SE T W X a ta ga) (hb : SE T W X b tb gb) : SE T W X (.IfExp c a b pos) (tIf tc ta tb) (fIfE ft ga gb) := by
  obtain ⟨p0, r0⟩ := hc
  obtain ⟨p, r⟩ := ha
  obtain ⟨p2, r2⟩ := hb
  refine ⟨pe_ifExp p0 p p2, fun Pr A G H σ e Q s h => ?_⟩
  refine r0 Pr A G H σ e _ s (h.first fun b1 e1 v1 G1 H1 x1 s1 q1 h1 => ?_)
  subst q1
  cases v1 with
  | true => exact r Pr A G1 H1 σ e1 Q s1 h1
  | false => exact r2 Pr A G1 H1 σ e1 Q s1 h1

/-! ### slices, methods of built-in types -/
/-- a slice's part -/
def SO (T : Tb) (W : WX) (X : Cx) (x : Option Expr) (t : TO) (f : Env → R (Option Int × Env)) : Prop := PO X x t ∧ ∀ (Pr : Hp) (A : Nat → Option Addr) (G H : Hp) (σ : St) (e : Env) (Q : Option Int → Hp → Prop), SR ⟨T, Pr, A⟩ G H σ e → OkE ⟨T, Pr, A⟩ W σ G Q (fun _ _ _ b v => v = b) (f e) → t σ H Q
def fNoPart : Env → R (Option Int × Env) := fun e => .ok (none, e)
def fPart (fa : FE) : Env → R (Option Int × Env) := fun e => do
  let (p, e1) ← fa e
  match look e1 p with
  | some (.int i) => .ok (some i, e1)
  | _ => .no
theorem so_none : SO T W X none tNoPart fNoPart := ⟨po_none, fun Pr A G H σ e Q s h => h none G H Ext.refl s rfl⟩
theorem int_of {pv : PV} {v : V} {i : Int} (s : SR F G H σ e) (q : PVR F G H σ e pv v) (hl : look e pv = some (.int i)) : v = .int i := by
  rcases look_ok s q hl with h | ⟨p, _, h⟩
  · simp only [Rp] at h; exact h
  · exact h.elim
theorem so_some (ha : SE T W X a ta ga) : SO T W X (some a) (tPart ta) (fPart ga) := by
  obtain ⟨p, r⟩ := ha
  refine ⟨po_some p, fun Pr A G H σ e Q s h => ?_⟩
  refine r Pr A G H σ e _ s (h.first fun b1 e1 v1 G1 H1 x1 s1 q1 h1 => ?_)
  dsimp only at h1
  split at h1
  · rename_i i hi
    exact ⟨i, int_of s1 q1 hi, h1 _ G1 H1 Ext.refl s1 rfl⟩
  · exact h1.elim
def SlD (T : Tb) (r : V → Option Int → Option Int → Hp → VK → Prop) (op : D → Option Int → Option Int → Option RV) : Prop := ∀ (G H : Hp) (x : V) (dx : D) (lo hi : Option Int) (rv : RV) (Q : VK), Sub G H → Pk T G H x dx → op dx lo hi = some rv → RVQ T G H Q rv → r x lo hi H Q
def fSl (op : D → Option Int → Option Int → Option RV) (fa : FE) (fl fh : Env → R (Option Int × Env)) : FE := fun e => do
  let (pa, e1) ← fa e
  let (lo, e2) ← fl e1
  let (hi, e3) ← fh e2
  let da ← R.of (look e3 (hold pa))
  let rv ← R.of (op da lo hi)
  .ok (rv.pv, e3)
theorem se_slice {r : V → Option Int → Option Int → Hp → VK → Prop} {op} {lo hi : Option Expr} {fl fh} {p2 : Pos} (hr : SlR X r) (hd : SlD T r op) (ha : SE T W X a ta ga) (hl : SO T W X lo tl fl) (hh : SO T W X hi th fh) : SE T W X (.Subscript a (.Slice lo hi none p2) pos) (tSl r ta tl th) (fSl op ga fl fh) := by
  obtain ⟨p, r0⟩ := ha
  obtain ⟨p1, r1⟩ := hl
  obtain ⟨p2, r2⟩ := hh
  refine ⟨pe_slice hr p p1 p2, fun Pr A G H σ e Q s h => ?_⟩
  refine r0 Pr A G H σ e _ s (h.first fun pa e1 v1 G1 H1 x1 s1 q1 h1 => ?_)
  obtain ⟨G1', x1', s1', q1'⟩ := hold_ok s1 q1
  refine r1 Pr A G1' H1 σ e1 _ s1' ((h1.ext x1').first fun lo' e2 v2 G2 H2 x2 s2 q2 h2 => ?_)
  subst q2
  refine r2 Pr A G2 H2 σ e2 _ s2 (h2.first fun hi' e3 v3 G3 H3 x3 s3 q3 h3 => ?_)
  subst q3
  obtain ⟨da, l1, h4⟩ := of_ok h3
  obtain ⟨rv, l3, h6⟩ := of_ok h4
  exact hd G3 H3 v1 da v2 v3 rv _ s3.sub (look_ok s3 (q1'.stay (x2.trans x3).1) l1) l3 (rv_done s3 h6)
/-- o.m(..), a method that changes nothing -/
def MtD (T : Tb) (ty : String) (r : V → List V → Hp → VK → Prop) (op : D → List D → Option RV) : Prop := ∀ (G H : Hp) (x : V) (dx : D) (vs : List V) (ds : List D) (rv : RV) (Q : VK), Sub G H → Pk T G H x dx → PkL T G H vs ds → op dx ds = some rv → RVQ T G H Q rv → r x vs H Q
/-- what can be the receiver -/
@[simp] def isTy : String → D → Bool
  | "str", .str _ => true
  | "list", .lst _ => true
  | "dict", .dic _ _ => true
  | "int", .int _ => true
  | _, _ => false
theorem tyV_of {T : Tb} {ty : String} {x : V} {d : D} (sub : Sub G H) (h : Pk T G H x d) (hd : isTy ty d = true) : tyV T.K ty x H := by
  unfold isTy at hd
  split at hd
  · rcases h with h | ⟨p, _, h⟩
    · simp only [Rp] at h; subst h; rfl
    · exact h.elim
  · rcases h with h | ⟨p, rfl, xs, h, _⟩
    · simp only [Rp] at h
      obtain ⟨q, xs, rfl, h2, _⟩ := h
      exact .inl ⟨rfl, xs, .inl (.inl (sub _ _ h2))⟩
    · exact .inl ⟨rfl, xs, .inl (.inl h)⟩
  · rcases h with h | ⟨p, rfl, kvs, h, _⟩
    · simp only [Rp] at h
      obtain ⟨q, kvs, rfl, h2, _⟩ := h
      exact .inr (.inr (.inl ⟨rfl, .inl ⟨kvs, sub _ _ h2⟩⟩))
    · exact .inr (.inr (.inl ⟨rfl, .inl ⟨kvs, h⟩⟩))
  · rcases h with h | ⟨p, _, h⟩
    · simp only [Rp] at h; subst h; rfl
    · exact h.elim
  · cases hd
def fMt0 (ty : String) (op : D → List D → Option RV) (fa : FE) : FE := fun e => do
  let (pa, e1) ← fa e
  let da ← R.of (look e1 pa)
  let _ ← R.of (if isTy ty da then some () else none)
  let rv ← R.of (op da [])
  .ok (rv.pv, e1)
def fMt (ty : String) (op : D → List D → Option RV) (fa : FE) (fs : FA) : FE := fun e => do
  let (pa, e1) ← fa e
  let d0 ← R.of (look e1 (hold pa))
  let _ ← R.of (if isTy ty d0 then some () else none)
  let (ps, e2) ← fs e1
  let da ← R.of (look e2 (hold pa))
  let ds ← R.of (lookL e2 ps)
  let rv ← R.of (op da ds)
  .ok (rv.pv, e2)
theorem ty_ok {ty : String} {d : D} (h : (if isTy ty d then some () else none) = some a') : isTy ty d = true := by
  by_cases q : isTy ty d = true
  · exact q
  · rw [if_neg q] at h; cases h
theorem se_mt0 {x : Expr} {ty : String} {r} {op} (hx : ∀ t, PE X a t → PE X x (tBM0 T.K ty r t)) (hd : MtD T ty r op) (ha : SE T W X a ta ga) : SE T W X x (tBM0 T.K ty r ta) (fMt0 ty op ga) := by
  obtain ⟨p, r0⟩ := ha
  refine ⟨hx _ p, fun Pr A G H σ e Q s h => ?_⟩
  refine r0 Pr A G H σ e _ s (h.first fun pa e1 v1 G1 H1 x1 s1 q1 h1 => ?_)
  obtain ⟨da, l1, h4⟩ := of_ok h1
  obtain ⟨_, l2, h5⟩ := of_ok h4
  obtain ⟨rv, l3, h6⟩ := of_ok h5
  have pk := look_ok s1 q1 l1
  exact ⟨tyV_of s1.sub pk (ty_ok l2), hd G1 H1 v1 da [] [] rv _ s1.sub pk rfl l3 (rv_done s1 h6)⟩
theorem se_mt {x : Expr} {es : List Expr} {ty : String} {r} {op} {fs : FA} (hx : ∀ t u, PE X a t → PA X es u → PE X x (tBM T.K ty r t u)) (hd : MtD T ty r op) (ha : SE T W X a ta ga) (hs : SA T W X es tss fs) : SE T W X x (tBM T.K ty r ta tss) (fMt ty op ga fs) := by
  obtain ⟨p, r0⟩ := ha
  obtain ⟨p1, r1⟩ := hs
  refine ⟨hx _ _ p p1, fun Pr A G H σ e Q s h => ?_⟩
  refine r0 Pr A G H σ e _ s (h.first fun pa e1 v1 G1 H1 x1 s1 q1 h1 => ?_)
  obtain ⟨G1', x1', s1', q1'⟩ := hold_ok s1 q1
  obtain ⟨d0, l0, h2⟩ := of_ok (h1.ext x1')
  obtain ⟨_, l2, h3⟩ := of_ok h2
  refine ⟨tyV_of s1'.sub (look_ok s1' q1' l0) (ty_ok l2), ?_⟩
  refine r1 Pr A G1' H1 σ e1 _ s1' (h3.first fun ps e2 vs G2 H2 x2 s2 q2 h4 => ?_)
  obtain ⟨da, l3, h5⟩ := of_ok h4
  obtain ⟨ds, l4, h6⟩ := of_ok h5
  obtain ⟨rv, l5, h7⟩ := of_ok h6
  exact hd G2 H2 v1 da vs ds rv _ s2.sub (look_ok s2 (q1'.stay x2.1) l3) (lookL_ok s2 q2 l4) l5 (rv_done s2 h7)
end
end DL
set_option Elab.async false
set_option linter.all false
set_option maxRecDepth 100000
set_option maxHeartbeats 4000000
namespace DL
open PySem PySem.Spec PyProof.Rows L2

/-- how a statement ends -/
inductive Oc where
  | nx (e : Env) | bk (e : Env) | ct (e : Env) | rt (p : PV) (e : Env) | ex (c : Nat) (d : D) (e : Env) | no
abbrev FS := Env → Oc
def WExS (F : Fx) (W : WX) (G : Hp) (c : Nat) (d : D) (e : Env) : Prop := ∀ (dct : Addr) (v : V) (f : Str) (σ : St) (G' H' : Hp), Ext F.Pr G G' → SR F G' H' σ e → Rp F.T G' d v → (F.T.cls c).2 = [f] → H' dct = some (.xd [(f, v)]) → W (.ref (F.T.cls c).1) (some dct) σ H'
def OkS (F : Fx) (W : WX) (G : Hp) (D : Ends) : Oc → Prop
  | .nx e' => ∀ (σ' : St) (G' H' : Hp), Ext F.Pr G G' → SR F G' H' σ' e' → D.nx σ' H'
  | .bk e' => ∀ (σ' : St) (G' H' : Hp), Ext F.Pr G G' → SR F G' H' σ' e' → D.bk σ' H'
  | .ct e' => ∀ (σ' : St) (G' H' : Hp), Ext F.Pr G G' → SR F G' H' σ' e' → D.ct σ' H'
  | .rt p e' => ∀ (σ' : St) (v : V) (G' H' : Hp), Ext F.Pr G G' → SR F G' H' σ' e' → PVR F G' H' σ' e' p v → D.rt v H'
  | .ex c d e' => WExS F W G c d e'
  | .no => False
@[simp] def toS {α : Type} (x : R (α × Env)) (k : α × Env → Oc) : Oc := match x with
  | .ok a => k a
  | .ex c d e => .ex c d e
  | .no => .no
@[simp] theorem toS_ok {α : Type} (a : α × Env) (k : α × Env → Oc) : toS (.ok a) k = k a := rfl
@[simp] theorem toS_ex {α : Type} (c : Nat) (d : D) (e : Env) (k : α × Env → Oc) : toS (.ex c d e) k = .ex c d e := rfl
@[simp] theorem toS_no {α : Type} (k : α × Env → Oc) : toS .no k = .no := rfl
def SS (T : Tb) (W : WX) (X : Cx) (x : Stmt) (t : TS) (f : FS) : Prop := PS X x t ∧ ∀ (Pr : Hp) (A : Nat → Option Addr) (G H : Hp) (σ : St) (e : Env) (D : Ends), SR ⟨T, Pr, A⟩ G H σ e → OkS ⟨T, Pr, A⟩ W G D (f e) → t D σ H
def SSs (T : Tb) (W : WX) (X : Cx) (x : List Stmt) (t : TS) (f : FS) : Prop := PSs X x t ∧ ∀ (Pr : Hp) (A : Nat → Option Addr) (G H : Hp) (σ : St) (e : Env) (D : Ends), SR ⟨T, Pr, A⟩ G H σ e → OkS ⟨T, Pr, A⟩ W G D (f e) → t D σ H

section
variable {T : Tb} {W : WX} {X : Cx} {F : Fx} {G G1 H : Hp} {σ : St} {e e1 : Env} {D0 : Ends}
theorem OkS.ext {r : Oc} (x : Ext F.Pr G G1) (h : OkS F W G D0 r) : OkS F W G1 D0 r := by
  cases r with
  | nx e' => exact fun σ' G' H' x' => h σ' G' H' (x.trans x')
  | bk e' => exact fun σ' G' H' x' => h σ' G' H' (x.trans x')
  | ct e' => exact fun σ' G' H' x' => h σ' G' H' (x.trans x')
  | rt p e' => exact fun σ' v G' H' x' => h σ' v G' H' (x.trans x')
  | ex c d e' => exact fun dct v f σ' G' H' x' => h dct v f σ' G' H' (x.trans x')
  | no => exact h
theorem OkS.first {α β : Type} {Q1 : β → Hp → Prop} {rel1 : Hp → Hp → Env → α → β → Prop} {r : R (α × Env)} {k : α × Env → Oc}
    (h : OkS F W G D0 (toS r k)) (hk : ∀ a e1 v G1 H1, Ext F.Pr G G1 → SR F G1 H1 σ e1 → rel1 G1 H1 e1 a v → OkS F W G1 D0 (k (a, e1)) → Q1 v H1) : OkE F W σ G Q1 rel1 r := by
  cases r with
  | ok a => obtain ⟨a, e'⟩ := a; exact fun v G' H' x' s q => hk a e' v G' H' x' s q (h.ext x')
  | ex c d e' => exact fun dct v f G' H' => h dct v f σ G' H'
  | no => exact h

/-! ### blocks -/
def fSkip : FS := fun e => .nx e
def fSeq (f g : FS) : FS := fun e => match f e with
  | .nx e1 => g e1
  | .bk e1 => .bk e1
  | .ct e1 => .ct e1
  | .rt p e1 => .rt p e1
  | .ex c d e1 => .ex c d e1
  | .no => .no
theorem ss_nil : SSs T W X [] tNext fSkip := ⟨pss_nil, fun Pr A G H σ e D s h => h σ G H Ext.refl s⟩
theorem ss_cons {x : Stmt} {r : List Stmt} {f g : FS} (h1 : SS T W X x t1 f) (h2 : SSs T W X r t2 g) : SSs T W X (x :: r) (tSeq t1 t2) (fSeq f g) := by
  obtain ⟨p, q⟩ := h1
  obtain ⟨p2, q2⟩ := h2
  refine ⟨pss_cons p p2, fun Pr A G H σ e D s h => ?_⟩
  refine q Pr A G H σ e _ s ?_
  unfold fSeq at h
  revert h
  cases f e with
  | nx e1 => exact fun h σ' G' H' x' s' => q2 Pr A G' H' σ' e1 D s' (OkS.ext x' h)
  | bk e1 => exact fun h => h
  | ct e1 => exact fun h => h
  | rt p e1 => exact fun h => h
  | ex c d e1 => exact fun h => h
  | no => exact fun h => h
theorem ss_one {x : Stmt} {f : FS} (h1 : SS T W X x t1 f) : SSs T W X [x] t1 f := by
  obtain ⟨p, q⟩ := h1
  exact ⟨pss_one p, q⟩
def fBrk : FS := fun e => .bk e
def fCnt : FS := fun e => .ct e
def fPass : FS := fun e => .nx e
theorem ss_pass {pos : Pos} : SS T W X (.Pass pos) tNext fPass := ⟨ps_pass, fun Pr A G H σ e D s h => h σ G H Ext.refl s⟩
theorem ss_break {pos : Pos} : SS T W X (.Break pos) tBreak fBrk := ⟨ps_break, fun Pr A G H σ e D s h => h σ G H Ext.refl s⟩
theorem ss_cont {pos : Pos} : SS T W X (.Continue pos) tCont fCnt := ⟨ps_continue, fun Pr A G H σ e D s h => h σ G H Ext.refl s⟩
theorem ss_doc {x j pos pos'} : SS T W X (.Expr (.Constant (.str x) j pos) pos') tNext fPass := ⟨ps_doc, fun Pr A G H σ e D s h => h σ G H Ext.refl s⟩
/-- code that is never come to -/
def fNever : FS := fun _ => .no
theorem ss_never {x : Stmt} : SS T W X x tNever fNever := ⟨ps_never, fun Pr A G H σ e D s h => h⟩
theorem sss_never {x : List Stmt} : SSs T W X x tNever fNever := ⟨pss_never, fun Pr A G H σ e D s h => h⟩
def fDrop (fe : FE) : FS := fun e => toS (fe e) fun (_, e1) => .nx e1
theorem ss_expr {x : Expr} {fe : FE} {pos : Pos} (he : SE T W X x te fe) (hs : swapsWith x none pos.line X.env = pure false := by rfl) : SS T W X (.Expr x pos) (tDrop te) (fDrop fe) := by
  obtain ⟨p, q⟩ := he
  refine ⟨ps_expr p hs, fun Pr A G H σ e D s h => ?_⟩
  exact q Pr A G H σ e _ s (h.first fun p1 e1 v1 G1 H1 x1 s1 q1 h1 => h1 σ G1 H1 Ext.refl s1)
def fIf (ft : FT) (fa fb : FS) : FS := fun e => toS (ft e) fun (b, e1) => if b = true then fa e1 else fb e1
theorem ss_if {c : Expr} {a b : List Stmt} {ft : FT} {fa fb : FS} {pos : Pos} (hc : ST T W X c tc ft) (ha : SSs T W X a ta fa) (hb : SSs T W X b tb fb) : SS T W X (.If c a b pos) (tIfS tc ta tb) (fIf ft fa fb) := by
  obtain ⟨p0, q0⟩ := hc
  obtain ⟨p, q⟩ := ha
  obtain ⟨p2, q2⟩ := hb
  refine ⟨ps_if p0 p p2, fun Pr A G H σ e D s h => ?_⟩
  refine q0 Pr A G H σ e _ s (h.first fun p1 e1 v1 G1 H1 x1 s1 e2 h1 => ?_)
  subst e2
  cases v1 with
  | true => exact q Pr A G1 H1 σ e1 D s1 h1
  | false => exact q2 Pr A G1 H1 σ e1 D s1 h1
/-- what is handed back: a name's own object leaves with it -/
@[simp] def retP (e : Env) : PV → Oc
  | .d d => .rt (.d d) e
  | .nw d => .rt (.nw d) e
  | .sl i => match gt e i with
    | .ce false d => .rt (.nw d) (st e i .un)
    | _ => .no
def fRet (fe : FE) : FS := fun e => toS (fe e) fun (p, e1) => retP e1 p
theorem ss_ret {x : Expr} {fe : FE} {pos : Pos} (he : SE T W X x te fe) : SS T W X (.Return (some x) pos) (tRet te) (fRet fe) := by
  obtain ⟨p, q⟩ := he
  refine ⟨ps_ret p, fun Pr A G H σ e D s h => ?_⟩
  refine q Pr A G H σ e _ s (h.first fun p1 e1 v1 G1 H1 x1 s1 q1 h1 => ?_)
  dsimp only at h1
  cases p1 with
  | d d => exact h1 σ v1 G1 H1 Ext.refl s1 q1
  | nw d => exact h1 σ v1 G1 H1 Ext.refl s1 q1
  | sl i =>
    simp only [retP] at h1
    split at h1
    · rename_i d hd
      obtain ⟨p, z1, z2, z3, z4, z5⟩ := s1.ce i false d hd
      have q1' : σ[i]? = some (some v1) := q1
      rw [q1'] at z1; cases z1
      exact h1 σ _ G1 H1 Ext.refl (un_slot s1 i) ⟨p, rfl, z3, z4, off_un s1 hd q1' .un (by intro _ _ z; cases z), z5⟩
    · exact h1.elim
def fRetN : FS := fun e => .rt (.d .non) e
theorem ss_retN {pos : Pos} : SS T W X (.Return none pos) tRetN fRetN := ⟨ps_retN, fun Pr A G H σ e D s h => h σ .non G H Ext.refl s (by show Rp _ _ _ _; simp only [Rp])⟩

/-! ### assignments -/
theorem set_va {i : Nat} {d : D} {v : V} (s : SR F G H σ e) (hr : Rp F.T G d v) : SR F G H (σ.set i (some v)) (st e i (.va d)) := by
  have key : ∀ {j : Nat} {x : Sl}, gt (st e i (.va d)) j = x → x ≠ .un → (j = i ∧ x = .va d ∧ i < σ.length) ∨ (j ≠ i ∧ gt e j = x) := fun {j x} h hx => by
    rw [gt_st] at h
    split at h
    · rename_i hj; exact .inl ⟨hj.1, h.symm, by rw [← s.len]; exact hj.2⟩
    · rename_i hj
      refine .inr ⟨fun z => hj ⟨z, ?_⟩, h⟩
      rw [z] at h
      exact gt_lt (by rw [h]; exact hx)
  refine ⟨s.prot, s.sub, by rw [st_len, List.length_set]; exact s.len, fun j d' h => ?_, fun j b d' h => ?_, fun j k b d1 b' d2 p h1 h2 z1 z2 => ?_⟩
  · rcases key h (by intro z; cases z) with ⟨rfl, z, hl⟩ | ⟨hj, h⟩
    · cases z
      exact ⟨v, List.getElem?_set_self hl, hr⟩
    · obtain ⟨u, h1, h2⟩ := s.va j d' h
      exact ⟨u, by rw [List.getElem?_set_ne (Ne.symm hj)]; exact h1, h2⟩
  · rcases key h (by intro z; cases z) with ⟨_, z, _⟩ | ⟨hj, h⟩
    · cases z
    · obtain ⟨p, h1, h2⟩ := s.ce j b d' h
      exact ⟨p, by rw [List.getElem?_set_ne (Ne.symm hj)]; exact h1, h2⟩
  · rcases key h1 (by intro z; cases z) with ⟨_, z, _⟩ | ⟨hj, h1⟩
    · cases z
    · rcases key h2 (by intro z; cases z) with ⟨_, z, _⟩ | ⟨hk, h2⟩
      · cases z
      · rw [List.getElem?_set_ne (Ne.symm hj)] at z1
        rw [List.getElem?_set_ne (Ne.symm hk)] at z2
        exact s.dis j k b d1 b' d2 p h1 h2 z1 z2
theorem set_ce {i : Nat} {d : D} {p : Addr} (s : SR F G H σ e) (h1 : F.Pr p = none) (h2 : G p = none) (h3 : Off σ e p) (h4 : Cp F.T G H p d) : SR F G H (σ.set i (some (.ref p))) (st e i (.ce false d)) := by
  have key : ∀ {j : Nat} {x : Sl}, gt (st e i (.ce false d)) j = x → x ≠ .un → (j = i ∧ x = .ce false d ∧ i < σ.length) ∨ (j ≠ i ∧ gt e j = x) := fun {j x} h hx => by
    rw [gt_st] at h
    split at h
    · rename_i hj; exact .inl ⟨hj.1, h.symm, by rw [← s.len]; exact hj.2⟩
    · rename_i hj
      refine .inr ⟨fun z => hj ⟨z, ?_⟩, h⟩
      rw [z] at h
      exact gt_lt (by rw [h]; exact hx)
  refine ⟨s.prot, s.sub, by rw [st_len, List.length_set]; exact s.len, fun j d' h => ?_, fun j b d' h => ?_, fun j k b d1 b' d2 q g1 g2 z1 z2 => ?_⟩
  · rcases key h (by intro z; cases z) with ⟨_, z, _⟩ | ⟨hj, h⟩
    · cases z
    · obtain ⟨u, q1, q2⟩ := s.va j d' h
      exact ⟨u, by rw [List.getElem?_set_ne (Ne.symm hj)]; exact q1, q2⟩
  · rcases key h (by intro z; cases z) with ⟨rfl, z, hl⟩ | ⟨hj, h⟩
    · cases z
      exact ⟨p, List.getElem?_set_self hl, (fun z => by cases z), h1, h2, h4⟩
    · obtain ⟨q, q1, q2⟩ := s.ce j b d' h
      exact ⟨q, by rw [List.getElem?_set_ne (Ne.symm hj)]; exact q1, q2⟩
  · rcases key g1 (by intro z; cases z) with ⟨e1, z, hl⟩ | ⟨hj, g4⟩
    · rcases key g2 (by intro z; cases z) with ⟨e2, _, _⟩ | ⟨hk, g3⟩
      · exact e1.trans e2.symm
      · rw [e1, List.getElem?_set_self hl] at z1; cases z1
        rw [List.getElem?_set_ne (Ne.symm hk)] at z2
        exact absurd z2 (h3 k b' d2 g3)
    · rcases key g2 (by intro z; cases z) with ⟨e2, z, hl⟩ | ⟨hk, g3⟩
      · rw [e2, List.getElem?_set_self hl] at z2; cases z2
        rw [List.getElem?_set_ne (Ne.symm hj)] at z1
        exact absurd z1 (h3 j b d1 g4)
      · rw [List.getElem?_set_ne (Ne.symm hj)] at z1
        rw [List.getElem?_set_ne (Ne.symm hk)] at z2
        exact s.dis j k b d1 b' d2 q g4 g3 z1 z2
/-- a name may be bound anew -/
@[simp] def free (e : Env) (i : Nat) : Bool := match gt e i with
  | .ce true _ => false
  | _ => true
@[simp] def put (e : Env) (i : Nat) : PV → Option Env
  | .d d => if free e i then some (st e i (.va d)) else none
  | .nw d => if free e i then some (st e i (.ce false d)) else none
  | .sl j => match gt e j with
    | .ce false d => if free e i then some (st (st e j (.va d)) i (.va d)) else none
    | _ => none
theorem put_ok {pv : PV} {v : V} {i : Nat} {e' : Env} (s : SR F G H σ e) (h : PVR F G H σ e pv v) (hp : put e i pv = some e') : ∃ G', Ext F.Pr G G' ∧ SR F G' H (σ.set i (some v)) e' := by
  cases pv with
  | d d =>
    simp only [put] at hp
    split at hp
    · cases hp; exact ⟨G, Ext.refl, set_va s h⟩
    · cases hp
  | nw d =>
    simp only [put] at hp
    split at hp
    · cases hp
      obtain ⟨p, rfl, h1, h2, h3, h4⟩ := h
      exact ⟨G, Ext.refl, set_ce s h1 h2 h3 h4⟩
    · cases hp
  | sl j =>
    simp only [put] at hp
    split at hp
    · rename_i d hd
      split at hp
      · cases hp
        have hs : settle e (.sl j) = .ok (d, st e j (.va d)) := by simp only [settle, hd]
        obtain ⟨G', x, s', r⟩ := settle_ok s h hs
        exact ⟨G', x, set_va s' r⟩
      · cases hp
    · cases hp
@[simp] def putO (e : Env) (i : Nat) (p : PV) : Oc := match put e i p with
  | some e1 => .nx e1
  | none => .no
def fSet (i : Nat) (fe : FE) : FS := fun e => toS (fe e) fun (p, e1) => putO e1 i p
theorem ss_asgN {x : Stmt} {y : Expr} {i : Nat} {fe : FE} (hx : ∀ t, PE X y t → PS X x (tAsg t (gName i))) (he : SE T W X y te fe) : SS T W X x (tAsg te (gName i)) (fSet i fe) := by
  obtain ⟨p, q⟩ := he
  refine ⟨hx _ p, fun Pr A G H σ e D s h => ?_⟩
  refine q Pr A G H σ e _ s (h.first fun p1 e1 v1 G1 H1 x1 s1 q1 h1 => ?_)
  dsimp only [putO] at h1
  split at h1
  · rename_i e2 h2
    obtain ⟨G2, x2, s2⟩ := put_ok s1 q1 h2
    exact h1 _ G2 H1 x2 s2
  · exact h1.elim
theorem ss_set {i : Nat} {n : Str} {x : Expr} {fe : FE} {pos pos' : Pos} (hN : X.N.Nodup) (hi : X.N[i]? = some n) (hx : Loc X.env.scope n) (he : SE T W X x te fe) (hs : swapsWith x (some (.Name n pos')) pos.line X.env = pure false := by rfl) (hf : X.fn n = true ∨ X.env.scope.names.lookup n = some .local := by first | exact .inl rfl | exact .inr rfl | assumption) :
    SS T W X (.Assign [.Name n pos'] x pos) (tAsg te (gName i)) (fSet i fe) := ss_asgN (fun t h => ps_set hN hi hx h hs hf) he
/-- name op= e, where the name holds plain data -/
def fAug (i : Nat) (op : D → D → Option RV) (fe : FE) : FS := fun e => match gt e i with
  | .va d0 => toS (fe e) fun (p, e1) => match look e1 p with
    | some d1 => match op d0 d1 with
      | some rv => putO e1 i rv.pv
      | none => .no
    | none => .no
  | _ => .no
theorem ss_aug {i : Nat} {n : Str} {x : Expr} {fe : FE} {op : Operator} {r : R2} {od : D → D → Option RV} {pos pos' : Pos} (hN : X.N.Nodup) (hi : X.N[i]? = some n) (hx : Loc X.env.scope n) (he : SE T W X x te fe) (ho : OpR X (inplaceOp op) r) (hd : OpD T r od)
    (hf : X.fn n = true ∨ X.env.scope.names.lookup n = some .local := by first | exact .inl rfl | exact .inr rfl | assumption) : SS T W X (.AugAssign (.Name n pos') op x pos) (tAug i te r) (fAug i od fe) := by
  obtain ⟨p, q⟩ := he
  refine ⟨ps_aug hN hi hx p (fun pins s σ H x y v u Q I rx ry h => ho pins s σ H x y v u Q I rx ry h) hf, fun Pr A G H σ e D s h => ?_⟩
  unfold fAug at h
  split at h
  · rename_i d0 h0
    obtain ⟨v0, z1, z2⟩ := s.va i d0 h0
    refine ⟨v0, z1, ?_⟩
    refine q Pr A G H σ e _ s (h.first fun p1 e1 v1 G1 H1 x1 s1 q1 h1 => ?_)
    dsimp only at h1
    split at h1
    · rename_i d1 hl
      split at h1
      · rename_i rv hr
        refine hd G1 H1 v0 v1 d0 d1 rv _ s1.sub (.inl (Rp.mono x1.1 _ _ z2)) (look_ok s1 q1 hl) hr ?_
        refine rv_done (W := fun _ _ _ _ => False) s1 ?_
        intro v2 G2 H2 x2 s2 q2
        dsimp only [putO] at h1
        split at h1
        · rename_i e2 h2
          obtain ⟨G3, x3, s3⟩ := put_ok s2 q2 h2
          exact h1 _ G3 H2 (x2.trans x3) s3
        · exact h1.elim
      · exact h1.elim
    · exact h1.elim
  · exact h.elim

/-! ### what changes a name's own object -/
theorem upd_cell {i : Nat} {b : Bool} {d d' : D} {p : Addr} {o : HO} (s : SR F G H σ e) (h : gt e i = .ce b d) (hp : σ[i]? = some (some (.ref p))) (hc : Cp F.T G (upd H p o) p d') : SR F G (upd H p o) σ (st e i (.ce b d')) := by
  obtain ⟨p', z1, z2, z3, z4, z5⟩ := s.ce i b d h
  rw [hp] at z1; cases z1
  have sb : ∀ {K : Hp}, K p = none → Sub K H → Sub K (upd H p o) := fun {K} hk hs a u q => by
    rw [upd_ne (fun z => by rw [z, hk] at q; cases q)]
    exact hs a u q
  refine ⟨sb z3 s.prot, sb z4 s.sub, by rw [st_len]; exact s.len, fun j d1 q => ?_, fun j b1 d1 q => ?_, fun j k b1 d1 b2 d2 q h1 h2 y1 y2 => ?_⟩
  · rw [gt_st] at q
    split at q
    · cases q
    · exact s.va j d1 q
  · rw [gt_st] at q
    split at q
    · rename_i hj
      cases q
      rw [hj.1]
      exact ⟨p, hp, z2, z3, z4, hc⟩
    · rename_i hj
      obtain ⟨q1, y1, y2, y3, y4, y5⟩ := s.ce j b1 d1 q
      refine ⟨q1, y1, y2, y3, y4, y5.mono Sub.refl fun o' ho => ?_⟩
      rw [upd_ne (fun z => hj ⟨s.dis j i b1 d1 b d p q h (by rw [← z]; exact y1) hp, gt_lt (by rw [h]; intro z; cases z)⟩)]
      exact ho
  · have back : ∀ {j : Nat} {b1 : Bool} {d1 : D}, gt (st e i (.ce b d')) j = .ce b1 d1 → ∃ b2 d2, gt e j = .ce b2 d2 := fun {j b1 d1} q => by
      rw [gt_st] at q
      split at q
      · rename_i hj; rw [hj.1]; exact ⟨b, d, h⟩
      · exact ⟨b1, d1, q⟩
    obtain ⟨c1, f1, g1⟩ := back h1
    obtain ⟨c2, f2, g2⟩ := back h2
    exact s.dis j k c1 f1 c2 f2 q g1 g2 y1 y2
/-- o.m(..) of a built-in type, o a name, that changes o: what comes back, and o's new content -/
def MtM (T : Tb) (r : V → List V → Hp → VK → Prop) (op : D → List D → Option (RV × D)) : Prop := ∀ (G H : Hp) (p : Addr) (d : D) (vs : List V) (ds : List D) (rv : RV) (d' : D) (Q : VK), Sub G H → G p = none → Cp T G H p d → RpL T G ds vs → op d ds = some (rv, d') →
  (∀ o, Cp T G (upd H p o) p d' → RVQ T G (upd H p o) Q rv) → r (.ref p) vs H Q
def fMu (i : Nat) (ty : String) (op : D → List D → Option (RV × D)) (fs : FA) : FE := fun e => match gt e i with
  | .ce _ d0 => if isTy ty d0 = true then (do
      let (ps, e1) ← fs e
      let (ds, e2) ← settleL e1 ps
      match gt e2 i with
      | .ce b d => match op d ds with
        | some (rv, d') => .ok (rv.pv, st e2 i (.ce b d'))
        | none => .no
      | _ => .no) else .no
  | _ => .no
theorem se_mu {x : Expr} {es : List Expr} {ty : String} {i : Nat} {r} {op} {fs : FA} (hx : ∀ u, PA X es u → PE X x (tBM T.K ty r (tVar i) u)) (hd : MtM T r op) (hs : SA T W X es tss fs) : SE T W X x (tBM T.K ty r (tVar i) tss) (fMu i ty op fs) := by
  obtain ⟨p1, r1⟩ := hs
  refine ⟨hx _ p1, fun Pr A G H σ e Q s h => ?_⟩
  unfold fMu at h
  split at h
  · rename_i b0 d0 h0
    obtain ⟨hty, h⟩ := if_ok h
    obtain ⟨p, z1, z2, z3, z4, z5⟩ := s.ce i b0 d0 h0
    refine ⟨.ref p, z1, tyV_of s.sub (.inr ⟨p, rfl, z5⟩) hty, ?_⟩
    refine r1 Pr A G H σ e _ s (h.first fun ps e1 vs G1 H1 x1 s1 q1 h1 => ?_)
    obtain ⟨⟨ds, e2⟩, l1, h2⟩ := no_of (fun _ _ _ => settleL_nx) h1
    obtain ⟨G2, x2, s2, q2⟩ := settleL_ok s1 q1 l1
    dsimp only at h2
    split at h2
    · rename_i b d hb
      split at h2
      · rename_i rv d' ho
        obtain ⟨p', y1, y2, y3, y4, y5⟩ := s2.ce i b d hb
        rw [z1] at y1; cases y1
        refine hd G2 H1 p d vs ds rv d' _ s2.sub y4 y5 q2 ho fun o hc => ?_
        exact rv_done (upd_cell s2 hb z1 hc) (h2.ext x2)
      · exact h2.elim
    · exact h2.elim
  · exact h.elim
/-- o.m(), that changes o -/
def fMu0 (i : Nat) (ty : String) (op : D → List D → Option (RV × D)) : FE := fun e => match gt e i with
  | .ce b d => if isTy ty d = true then (match op d [] with
      | some (rv, d') => .ok (rv.pv, st e i (.ce b d'))
      | none => .no) else .no
  | _ => .no
theorem se_mu0 {x : Expr} {ty : String} {i : Nat} {r} {op} (hx : PE X x (tBM0 T.K ty r (tVar i))) (hd : MtM T r op) : SE T W X x (tBM0 T.K ty r (tVar i)) (fMu0 i ty op) := by
  refine ⟨hx, fun Pr A G H σ e Q s h => ?_⟩
  unfold fMu0 at h
  split at h
  · rename_i b0 d0 h0
    obtain ⟨hty, h⟩ := if_ok h
    obtain ⟨p, z1, z2, z3, z4, z5⟩ := s.ce i b0 d0 h0
    refine ⟨.ref p, z1, tyV_of s.sub (.inr ⟨p, rfl, z5⟩) hty, ?_⟩
    split at h
    · rename_i rv d' ho
      exact hd G H p d0 [] [] rv d' _ s.sub z4 z5 RpL.nil ho fun o hc => rv_done (upd_cell s h0 z1 hc) h
    · exact h.elim
  · exact h.elim
/-- o[k] = e, o a name -/
def StD (T : Tb) (r : TSet) (op : D → D → D → Option D) : Prop := ∀ (G H : Hp) (p : Addr) (d : D) (k v : V) (dk dv d' : D) (Q : Hp → Prop), Sub G H → G p = none → Cp T G H p d → Rp T G dk k → Rp T G dv v → op d dk dv = some d' → (∀ o, Cp T G (upd H p o) p d' → Q (upd H p o)) → r (.ref p) k v H Q
def fSti (i : Nat) (op : D → D → D → Option D) (fk fe : FE) : FS := fun e => toS (fe e) fun (p, e1) => toS (settle e1 p) fun (dv, e2) => match gt e2 i with
  | .ce _ _ => toS (fk e2) fun (pk, e3) => toS (settle e3 pk) fun (dk, e4) => match gt e4 i with
    | .ce b d => match op d dk dv with
      | some d' => .nx (st e4 i (.ce b d'))
      | none => .no
    | _ => .no
  | _ => .no
theorem toS_ok_of {α : Type} {r : R (α × Env)} {k : α × Env → Oc} (hn : ∀ c d e, r ≠ .ex c d e) (h : OkS F W G D0 (toS r k)) : ∃ a, r = .ok a ∧ OkS F W G D0 (k a) := by
  cases r with
  | ok a => exact ⟨a, rfl, h⟩
  | ex c d e => exact absurd rfl (hn c d e)
  | no => exact h.elim
theorem ss_sti {x : Stmt} {y k : Expr} {i : Nat} {r : TSet} {op} {fk fe : FE} (hx : ∀ t tk, PE X y t → PE X k tk → PS X x (tAsg t (gSub (tVar i) tk r))) (hd : StD T r op) (hk : SE T W X k tk fk) (he : SE T W X y te fe) : SS T W X x (tAsg te (gSub (tVar i) tk r)) (fSti i op fk fe) := by
  obtain ⟨p, q⟩ := he
  obtain ⟨pk, qk⟩ := hk
  refine ⟨hx _ _ p pk, fun Pr A G H σ e D s h => ?_⟩
  refine q Pr A G H σ e _ s (h.first fun p1 e1 v1 G1 H1 x1 s1 q1 h1 => ?_)
  obtain ⟨⟨dv, e2⟩, l1, h2⟩ := toS_ok_of (fun _ _ _ => settle_nx) h1
  obtain ⟨G2, x2, s2, r2⟩ := settle_ok s1 q1 l1
  dsimp only at h2
  split at h2
  rotate_left
  · exact h2.elim
  rename_i b0 d0 h0
  obtain ⟨p, z1, z2, z3, z4, z5⟩ := s2.ce i b0 d0 h0
  refine ⟨.ref p, z1, ?_⟩
  refine qk Pr A G2 H1 σ e2 _ s2 ((h2.ext x2).first fun p3 e3 v3 G3 H3 x3 s3 q3 h3 => ?_)
  obtain ⟨⟨dk, e4⟩, l4, h4⟩ := toS_ok_of (fun _ _ _ => settle_nx) h3
  obtain ⟨G4, x4, s4, r4⟩ := settle_ok s3 q3 l4
  dsimp only at h4
  split at h4
  rotate_left
  · exact h4.elim
  rename_i b d hb
  split at h4
  rotate_left
  · exact h4.elim
  rename_i d' ho
  obtain ⟨p', y1, y2, y3, y4, y5⟩ := s4.ce i b d hb
  rw [z1] at y1; cases y1
  exact hd G4 H3 p d v3 v1 dk dv d' _ s4.sub y4 y5 r4 (Rp.mono (x3.trans x4).1 _ _ r2) ho fun o hc => h4 σ G4 _ x4 (upd_cell s4 hb z1 hc)
end
end DL
set_option Elab.async false
set_option linter.all false
set_option maxRecDepth 100000
set_option maxHeartbeats 4000000
namespace DL
open PySem PySem.Spec PyProof.Rows L2

/-! ### targets -/
/-- a target and its mirror; is: the slots it may change -/
def STg (T : Tb) (X : Cx) (tg : Expr) (t : TG) (is : List Nat) (g : D → Env → Option Env) : Prop := PG X tg t ∧ ∀ (Pr : Hp) (A : Nat → Option Addr) (G H : Hp) (σ : St) (e e' : Env) (d : D) (v : V) (Q : St → Hp → Prop), SR ⟨T, Pr, A⟩ G H σ e → Rp T G d v → g d e = some e' →
  (∀ σ', SR ⟨T, Pr, A⟩ G H σ' e' → (∀ j, j ∉ is → σ'[j]? = σ[j]?) → σ'.length = σ.length → Q σ' H) → t v σ H Q
def STgs (T : Tb) (X : Cx) (tg : List Expr) (t : TGs) (is : List Nat) (g : List D → Env → Option Env) : Prop := PGs X tg t ∧ ∀ (Pr : Hp) (A : Nat → Option Addr) (G H : Hp) (σ : St) (e e' : Env) (ds : List D) (vs : List V) (Q : St → Hp → Prop), SR ⟨T, Pr, A⟩ G H σ e → RpL T G ds vs → g ds e = some e' →
  (∀ σ', SR ⟨T, Pr, A⟩ G H σ' e' → (∀ j, j ∉ is → σ'[j]? = σ[j]?) → σ'.length = σ.length → Q σ' H) → t vs σ H Q
@[simp] def gN (i : Nat) : D → Env → Option Env := fun d e => put e i (.d d)
@[simp] def gsNil : List D → Env → Option Env
  | [], e => some e
  | _ :: _, _ => none
@[simp] def gsCons (g : D → Env → Option Env) (gs : List D → Env → Option Env) : List D → Env → Option Env
  | d :: ds, e => (g d e).bind fun e1 => gs ds e1
  | [], _ => none
@[simp] def gT (n : Nat) (gs : List D → Env → Option Env) : D → Env → Option Env
  | .tup ds, e => if ds.length = n then gs ds e else none
  | _, _ => none
section
variable {T : Tb} {W : WX} {X : Cx} {F : Fx} {G G1 H : Hp} {σ : St} {e e1 : Env} {D0 : Ends} {pos : Pos}
theorem tg_n {i : Nat} {n : Str} (h : PG X (.Name n pos) (gName i)) : STg T X (.Name n pos) (gName i) [i] (gN i) := by
  refine ⟨h, fun Pr A G H σ e e' d v Q s r hg q => ?_⟩
  simp only [gN, put] at hg
  split at hg
  · cases hg
    exact q _ (set_va s r) (fun j hj => List.getElem?_set_ne (by intro z; subst z; exact hj (List.mem_singleton.mpr rfl))) List.length_set
  · cases hg
theorem tgs_nil : STgs T X [] gNil [] gsNil := by
  refine ⟨pgs_nil, fun Pr A G H σ e e' ds vs Q s r hg q => ?_⟩
  cases ds with
  | nil => simp only [RpL] at r; subst r; cases hg; exact ⟨rfl, q σ s (fun _ _ => rfl) rfl⟩
  | cons d ds => cases hg
theorem tgs_cons {x : Expr} {xs : List Expr} {t : TG} {u : TGs} {is js : List Nat} {g : D → Env → Option Env} {gs : List D → Env → Option Env} (h1 : STg T X x t is g) (h2 : STgs T X xs u js gs)
    (hs : (assignEach (x :: xs) X.env).map (·.2) = assign x X.env :: (assignEach xs X.env).map (·.2) := by rfl) : STgs T X (x :: xs) (gCons t u) (is ++ js) (gsCons g gs) := by
  obtain ⟨p1, r1⟩ := h1
  obtain ⟨p2, r2⟩ := h2
  refine ⟨pgs_cons p1 p2 hs, fun Pr A G H σ e e' ds vs Q s r hg q => ?_⟩
  cases ds with
  | nil => cases hg
  | cons d ds =>
    simp only [RpL] at r
    obtain ⟨v, vr, rfl, hv, hr⟩ := r
    simp only [gsCons, Option.bind_eq_some_iff] at hg
    obtain ⟨e1, hg1, hg2⟩ := hg
    refine ⟨v, vr, rfl, r1 Pr A G H σ e e1 d v _ s hv hg1 fun σ1 s1 k1 l1 => ?_⟩
    exact r2 Pr A G H σ1 e1 e' ds vr Q s1 hr hg2 fun σ2 s2 k2 l2 => q σ2 s2 (fun j hj => (k2 j fun z => hj (List.mem_append_right _ z)).trans (k1 j fun z => hj (List.mem_append_left _ z))) (l2.trans l1)
theorem tg_t {es : List Expr} {k : Nat} {t : TGs} {is : List Nat} {n : Nat} {gs : List D → Env → Option Env} (hc : X.calm = true) (hK : X.K = T.K) (h : STgs T X es t is gs)
    (hn : (assignEach es X.env).length = n := by rfl) (hst : (assignEach es X.env).findIdx? (·.1) = none := by rfl) : STg T X (.Tuple es k pos) (gTup T.K n t) is (gT n gs) := by
  rw [← hK]
  obtain ⟨p1, r1⟩ := h
  refine ⟨pg_tup hc p1 hn hst, fun Pr A G H σ e e' d v Q s r hg q => ?_⟩
  unfold gT at hg
  split at hg
  · rename_i ds
    split at hg
    · rename_i hl
      simp only [Rp] at r
      obtain ⟨a, xs, rfl, h1, h2⟩ := r
      exact ⟨a, xs, rfl, .inl (.inl (s.sub _ _ h1)), by rw [RpL.length h2]; exact hl, r1 Pr A G H σ e e' ds xs Q s h2 hg q⟩
    · cases hg
  · cases hg

/-! ### what is walked -/
def YR (T : Tb) (G H : Hp) (d : D) (x : V) (H' : Hp) : Prop := (H' = H ∧ Rp T G d x) ∨ ∃ p xs ds, H p = none ∧ H' = upd H p (.tup xs) ∧ x = .ref p ∧ d = .tup ds ∧ RpL T G ds xs
def IterRep (T : Tb) (G : Hp) (items : List D) (J : It) : Prop := ∀ (G1 H1 : Hp) (i : Nat), Sub G G1 → Sub G1 H1 →
  (∀ d, items[i]? = some d → J.go i H1 ∧ ∀ x H2, J.yld i H1 x H2 → YR T G1 H1 d x H2) ∧ (items.length ≤ i → J.stop i H1)
def SI (T : Tb) (W : WX) (X : Cx) (tg it : Expr) (wi : TI) (f : Env → R (List D × Env)) : Prop := PI X tg it wi ∧ ∀ (Pr : Hp) (A : Nat → Option Addr) (G H : Hp) (σ : St) (e : Env) (Q : It → Hp → Prop), SR ⟨T, Pr, A⟩ G H σ e → OkE ⟨T, Pr, A⟩ W σ G Q (fun G' _ _ items J => IterRep T G' items J) (f e) → wi σ H Q
theorem IterRep.mono {items : List D} {J : It} (h : IterRep T G items J) (x : Sub G G1) : IterRep T G1 items J := fun G2 H2 i a b => h G2 H2 i (x.trans a) b
theorem yr_done {d : D} {x : V} {H' : Hp} (s : SR F G H σ e) (y : YR F.T G H d x H') : ∃ G', Ext F.Pr G G' ∧ SR F G' H' σ e ∧ Rp F.T G' d x := by
  rcases y with ⟨rfl, r⟩ | ⟨p, xs, ds, hp, rfl, rfl, rfl, r⟩
  · exact ⟨G, Ext.refl, s, r⟩
  · obtain ⟨f1, f2, f3⟩ := s.fresh hp
    refine ⟨upd G p (.tup xs), ext_new f2 f1, (s.grow (Sub.new hp)).froz upd_same f2 f3, ?_⟩
    simp only [Rp]
    exact ⟨p, xs, rfl, upd_same, RpL.mono (Sub.new f2) _ _ r⟩
/-- a list, a tuple of values; a text -/
def fItL (fe : FE) : Env → R (List D × Env) := fun e => do
  let (p, e1) ← fe e
  let (d, e2) ← settle e1 p
  match d with
  | .lst l => .ok (l, e2)
  | .fro l => .ok (l, e2)
  | _ => .no
theorem iter_list {K : PySem.W.Frag} {a : Addr} {xs : List V} {ds : List D} (hK : K = T.K) (h : ∀ G1 H1, Sub G G1 → Sub G1 H1 → SqL K H1 a xs) (r : RpL T G ds xs) : IterRep T G ds (Itl K a) := fun G1 H1 i x1 x2 => by
  refine ⟨fun d hd => ?_, fun hi => ⟨xs, h G1 H1 x1 x2, by rw [RpL.length r]; exact hi⟩⟩
  obtain ⟨x, hx, rx⟩ := r.get hd
  refine ⟨⟨xs, x, h G1 H1 x1 x2, hx⟩, fun y H2 ⟨e1, hy⟩ => .inl ⟨e1, ?_⟩⟩
  have := hy xs (h G1 H1 x1 x2)
  rw [hx] at this; cases this
  exact Rp.mono x1 _ _ rx
theorem si_list {tg x : Expr} {te : TE} {fe : FE} (hK : X.K = T.K) (he : SE T W X x te fe) : SI T W X tg x (iList T.K te) (fItL fe) := by
  rw [← hK]
  obtain ⟨p, q⟩ := he
  refine ⟨pi_list p, fun Pr A G H σ e Q s h => ?_⟩
  refine q Pr A G H σ e _ s (h.first fun p1 e1 v1 G1 H1 x1 s1 q1 h1 => ?_)
  obtain ⟨⟨d, e2⟩, l1, h2⟩ := no_of (fun _ _ _ => settle_nx) h1
  obtain ⟨G2, x2, s2, r2⟩ := settle_ok s1 q1 l1
  dsimp only at h2
  split at h2
  · rename_i l
    simp only [Rp] at r2
    obtain ⟨a, xs, rfl, y1, y2⟩ := r2
    refine ⟨a, rfl, ⟨xs, .inl (.inl (s2.sub _ _ y1))⟩, h2 _ G2 H1 x2 s2 ?_⟩
    exact iter_list hK (fun G3 H3 x3 x4 => .inl (.inl (x4 _ _ (x3 _ _ y1)))) y2
  · rename_i l
    simp only [Rp] at r2
    obtain ⟨a, xs, rfl, y1, y2⟩ := r2
    refine ⟨a, rfl, ⟨xs, hK ▸ s2.sub.seq y1⟩, h2 _ G2 H1 x2 s2 ?_⟩
    exact iter_list hK (fun G3 H3 x3 x4 => hK ▸ x4.seq (x3.seq y1)) y2
  · exact h2.elim
@[simp] def chrs (l : List Nat) : List D := l.map fun c => .str [c]
def fItS (fe : FE) : Env → R (List D × Env) := fun e => do
  let (p, e1) ← fe e
  match look e1 p with
  | some (.str l) => .ok (chrs l, e1)
  | _ => .no
theorem str_of {pv : PV} {v : V} {l : List Nat} (s : SR F G H σ e) (q : PVR F G H σ e pv v) (hl : look e pv = some (.str l)) : v = .str (S l) := by
  rcases look_ok s q hl with h | ⟨p, _, h⟩
  · simp only [Rp] at h; exact h
  · exact h.elim
theorem si_str {tg x : Expr} {te : TE} {fe : FE} (he : SE T W X x te fe) : SI T W X tg x (iStr te) (fItS fe) := by
  obtain ⟨p, q⟩ := he
  refine ⟨pi_str p, fun Pr A G H σ e Q s h => ?_⟩
  refine q Pr A G H σ e _ s (h.first fun p1 e1 v1 G1 H1 x1 s1 q1 h1 => ?_)
  dsimp only at h1
  split at h1
  · rename_i l hl
    have ev := str_of s1 q1 hl
    subst ev
    refine ⟨S l, rfl, h1 _ G1 H1 Ext.refl s1 ?_⟩
    intro G2 H2 i a b
    refine ⟨fun d hd => ?_, fun hi => ?_⟩
    · unfold chrs at hd
      rw [List.getElem?_map] at hd
      cases hc : l[i]? with
      | none => rw [hc] at hd; cases hd
      | some c =>
        rw [hc] at hd
        cases hd
        have hi : i < l.length := (List.getElem?_eq_some_iff.mp hc).1
        refine ⟨by show i < l.toArray.size; simpa using hi, fun y H3 ⟨e1, c', h1, h2⟩ => .inl ⟨e1, ?_⟩⟩
        have : l[i]? = some c' := by simpa using h1
        rw [hc] at this; cases this
        simp only [Rp]
        exact h2
    · show l.toArray.size ≤ i
      simpa [chrs] using hi
  · exact h1.elim
def rngs (lo : Int) : Nat → List D
  | 0 => []
  | n + 1 => .int lo :: rngs (lo + 1) n
theorem rngs_get : ∀ (n : Nat) (lo : Int) (i : Nat), (rngs lo n)[i]? = if i < n then some (.int (lo + i)) else none
  | 0, lo, i => by simp [rngs]
  | n + 1, lo, 0 => by simp [rngs]
  | n + 1, lo, i + 1 => by
    show (rngs (lo + 1) n)[i]? = _
    rw [rngs_get n (lo + 1) i]
    by_cases h : i < n
    · rw [if_pos h, if_pos (by omega)]; congr 2; omega
    · rw [if_neg h, if_neg (by omega)]
theorem rngs_len : ∀ (n : Nat) (lo : Int), (rngs lo n).length = n
  | 0, _ => rfl
  | n + 1, lo => by show (rngs (lo + 1) n).length + 1 = n + 1; rw [rngs_len]
def RB (j : Int) : Bool := decide (-(2 ^ 62) ≤ j) && decide (j < 2 ^ 62)
theorem rb_of {j : Int} (h : RB j = true) : -(2 ^ 62) ≤ j ∧ j < 2 ^ 62 := by
  simp only [RB, Bool.and_eq_true, decide_eq_true_eq] at h; exact h
theorem iter_rng (lo : Int) (n : Nat) : IterRep T G (rngs lo n) (Itr lo n) := fun G1 H1 i a b => by
  refine ⟨fun d hd => ?_, fun hi => by rw [rngs_len] at hi; exact hi⟩
  rw [rngs_get] at hd
  split at hd
  · rename_i hi
    cases hd
    exact ⟨hi, fun x H2 ⟨e1, e2⟩ => .inl ⟨e1, by simp only [Rp]; exact e2⟩⟩
  · cases hd
def fRg1 (fa : FA) : Env → R (List D × Env) := fun e => do
  let (ps, e1) ← fa e
  match lookL e1 ps with
  | some [.int j] => if RB j then .ok (rngs 0 j.toNat, e1) else .no
  | _ => .no
def fRg2 (fa : FA) : Env → R (List D × Env) := fun e => do
  let (ps, e1) ← fa e
  match lookL e1 ps with
  | some [.int i, .int j] => if RB i && RB j then .ok (rngs i (j - i).toNat, e1) else .no
  | _ => .no
theorem pk_int {v : V} {i : Int} (h : Pk T G H v (.int i)) : v = .int i := by
  rcases h with h | ⟨p, _, h⟩
  · simp only [Rp] at h; exact h
  · exact h.elim
theorem pk_str {v : V} {l : List Nat} (h : Pk T G H v (.str l)) : v = .str (S l) := by
  rcases h with h | ⟨p, _, h⟩
  · simp only [Rp] at h; exact h
  · exact h.elim
theorem pk_bl {v : V} {b : Bool} (h : Pk T G H v (.bl b)) : v = .bl b := by
  rcases h with h | ⟨p, _, h⟩
  · simp only [Rp] at h; exact h
  · exact h.elim
theorem pk_non {v : V} (h : Pk T G H v .non) : v = .non := by
  rcases h with h | ⟨p, _, h⟩
  · simp only [Rp] at h; exact h
  · exact h.elim
theorem pk_lst {v : V} {ds : List D} (sub : Sub G H) (h : Pk T G H v (.lst ds)) : ∃ a xs, v = .ref a ∧ H a = some (.lst xs) ∧ RpL T G ds xs := by
  rcases h with h | ⟨p, rfl, xs, h1, h2⟩
  · simp only [Rp] at h
    obtain ⟨a, xs, h1, h2, h3⟩ := h
    exact ⟨a, xs, h1, sub _ _ h2, h3⟩
  · exact ⟨p, xs, rfl, h1, h2⟩
theorem pk_tup {v : V} {ds : List D} (sub : Sub G H) (h : Pk T G H v (.tup ds)) : ∃ a xs, v = .ref a ∧ H a = some (.tup xs) ∧ RpL T G ds xs := by
  rcases h with h | ⟨p, rfl, h⟩
  · simp only [Rp] at h
    obtain ⟨a, xs, h1, h2, h3⟩ := h
    exact ⟨a, xs, h1, sub _ _ h2, h3⟩
  · exact h.elim
theorem pk_fro {v : V} {ds : List D} (sub : Sub G H) (h : Pk T G H v (.fro ds)) : ∃ a xs, v = .ref a ∧ SqL T.K H a xs ∧ RpL T G ds xs := by
  rcases h with h | ⟨p, rfl, h⟩
  · simp only [Rp] at h
    obtain ⟨a, xs, h1, h2, h3⟩ := h
    exact ⟨a, xs, h1, sub.seq h2, h3⟩
  · exact h.elim
theorem si_rg1 {tg a : Expr} {ta : TA} {fa : FA} {p : Pos} (hg : Gl X "range") (hm : X.mg "range" = none) (ha : SA T W X [a] ta fa) (hs : starEach [a] X.env = [(false, eval a X.env)] := by rfl) : SI T W X tg (.Call (.Name "range" p) [a] [] pos) (iRng1 ta) (fRg1 fa) := by
  obtain ⟨p0, q⟩ := ha
  refine ⟨pi_range1 hg hm p0 hs, fun Pr A G H σ e Q s h => ?_⟩
  refine q Pr A G H σ e _ s (h.first fun p1 e1 v1 G1 H1 x1 s1 q1 h1 => ?_)
  dsimp only at h1
  split at h1
  · rename_i j hj
    obtain ⟨hb, h1⟩ := if_ok h1
    obtain ⟨v, r, rfl, k1, rfl⟩ := lookL_ok s1 q1 hj
    rw [pk_int k1]
    exact ⟨j, rfl, (rb_of hb).1, (rb_of hb).2, h1 _ G1 H1 Ext.refl s1 (iter_rng 0 _)⟩
  · exact h1.elim
theorem si_rg2 {tg a b : Expr} {ta : TA} {fa : FA} {p : Pos} (hg : Gl X "range") (hm : X.mg "range" = none) (ha : SA T W X [a, b] ta fa) (hs : starEach [a, b] X.env = [(false, eval a X.env), (false, eval b X.env)] := by rfl) (hs2 : starEach [b] X.env = [(false, eval b X.env)] := by rfl) :
    SI T W X tg (.Call (.Name "range" p) [a, b] [] pos) (iRng2 ta) (fRg2 fa) := by
  obtain ⟨p0, q⟩ := ha
  refine ⟨pi_range2 hg hm p0 hs hs2, fun Pr A G H σ e Q s h => ?_⟩
  refine q Pr A G H σ e _ s (h.first fun p1 e1 v1 G1 H1 x1 s1 q1 h1 => ?_)
  dsimp only at h1
  split at h1
  · rename_i i j hj
    obtain ⟨hb, h1⟩ := if_ok h1
    obtain ⟨v, r, rfl, k1, k2⟩ := lookL_ok s1 q1 hj
    obtain ⟨v', r', rfl, k2, rfl⟩ := k2
    rw [pk_int k1, pk_int k2]
    have hb := Bool.and_eq_true_iff.mp hb
    exact ⟨i, j, rfl, ⟨(rb_of hb.1).1, (rb_of hb.1).2, (rb_of hb.2).1, (rb_of hb.2).2⟩, h1 _ G1 H1 Ext.refl s1 (iter_rng i _)⟩
  · exact h1.elim

/-! ### for -/
def loop (g : D → Env → Option Env) (b : FS) : List D → Env → Oc
  | [], e => .nx e
  | d :: r, e => match g d e with
    | none => .no
    | some e1 => match b e1 with
      | .nx e2 => loop g b r e2
      | .ct e2 => loop g b r e2
      | .bk e2 => .nx e2
      | .rt p e2 => .rt p e2
      | .ex c d e2 => .ex c d e2
      | .no => .no
def fFor (g : D → Env → Option Env) (fi : Env → R (List D × Env)) (b : FS) : FS := fun e => toS (fi e) fun (items, e1) => loop g b items e1
theorem ss_for {tg it : Expr} {body : List Stmt} {wi : TI} {t : TG} {is : List Nat} {tb : TS} {g fi fb} (hp : PassesOwn (model X.prog X.w) X.A X.env X.xe) (hc : X.calm = true) (hi : SI T W X tg it wi fi) (hg : STg T X tg t is g) (hb : SSs T W X body tb fb)
    (hs : ∀ x, foldedSetIterable it X.env x = pure x := by intro _; rfl) : SS T W X (.For tg it body [] pos) (tFor wi t tb) (fFor g fi fb) := by
  obtain ⟨pi, qi⟩ := hi
  obtain ⟨pg, qg⟩ := hg
  obtain ⟨pb, qb⟩ := hb
  refine ⟨ps_for hp hc pi pg pb hs, fun Pr A G H σ e D s h => ?_⟩
  refine qi Pr A G H σ e _ s (h.first fun items e1 J G1 H1 x1 s1 rep h1 => ?_)
  dsimp only at h1
  refine ⟨fun i m σ H => m = items.length - i ∧ i ≤ items.length ∧ ∃ G2 e2, Ext Pr G1 G2 ∧ SR ⟨T, Pr, A⟩ G2 H σ e2 ∧ OkS ⟨T, Pr, A⟩ W G2 D (loop g fb (items.drop i) e2), ⟨_, rfl, Nat.zero_le _, G1, e1, Ext.refl, s1, h1⟩, ?_⟩
  rintro i m σ H ⟨rfl, hi, G2, e2, x2, s2, h2⟩
  by_cases hlt : i < items.length
  · refine .inr ?_
    have hd : items[i]? = some items[i] := List.getElem?_eq_getElem hlt
    have ed : items.drop i = items[i] :: items.drop (i + 1) := List.drop_eq_getElem_cons hlt
    rw [ed] at h2
    simp only [loop] at h2
    obtain ⟨go, yl⟩ := (rep G2 H i x2.1 s2.sub).1 _ hd
    refine ⟨go, fun σ' H' => ∃ G3 e3, Ext Pr G1 G3 ∧ SR ⟨T, Pr, A⟩ G3 H' σ' e3 ∧ OkS ⟨T, Pr, A⟩ W G3 D (loop g fb (items.drop (i + 1)) e3), fun σ' H' ⟨G3, e3, x3, s3, h3⟩ => ⟨_, by omega, rfl, hlt, G3, e3, x3, s3, h3⟩, fun x H3 y => ?_⟩
    obtain ⟨G3, x3, s3, r3⟩ := yr_done s2 (yl x H3 y)
    split at h2
    · exact h2.elim
    · rename_i e4 h4
      refine qg Pr A G3 H3 σ e2 e4 _ x _ s3 r3 h4 fun σ4 s4 _ _ => ?_
      refine qb Pr A G3 H3 σ4 e4 _ s4 ?_
      have h5 := OkS.ext x3 h2
      revert h5
      cases fb e4 with
      | nx e5 => exact fun h5 σ5 G5 H5 x5 s5 => ⟨G5, e5, (x2.trans x3).trans x5, s5, OkS.ext x5 h5⟩
      | ct e5 => exact fun h5 σ5 G5 H5 x5 s5 => ⟨G5, e5, (x2.trans x3).trans x5, s5, OkS.ext x5 h5⟩
      | bk e5 => exact fun h5 => h5
      | rt p e5 => exact fun h5 => h5
      | ex c d e5 => exact fun h5 => h5
      | no => exact fun h5 => h5
  · have ei : i = items.length := by omega
    subst ei
    refine .inl ⟨(rep G2 H _ x2.1 s2.sub).2 (Nat.le_refl _), ?_⟩
    rw [List.drop_length] at h2
    exact h2 σ G2 H Ext.refl s2

/-! ### while -/
def wloop (ft : FT) (b : FS) : Nat → Env → Oc
  | 0, _ => .no
  | n + 1, e => toS (ft e) fun (c, e1) => if c = true then (match b e1 with
      | .nx e2 => wloop ft b n e2
      | .ct e2 => wloop ft b n e2
      | .bk e2 => .nx e2
      | .rt p e2 => .rt p e2
      | .ex c d e2 => .ex c d e2
      | .no => .no) else .nx e1
def fWhile (n : Nat) (ft : FT) (b : FS) : FS := wloop ft b n
theorem ss_while {c : Expr} {body : List Stmt} {tc : TT} {tb : TS} {ft fb} (n : Nat) (hp : PassesOwn (model X.prog X.w) X.A X.env X.xe) (hc : ST T W X c tc ft) (hb : SSs T W X body tb fb) : SS T W X (.While c body [] pos) (tWhile tc tb) (fWhile n ft fb) := by
  obtain ⟨pc, qc⟩ := hc
  obtain ⟨pb, qb⟩ := hb
  refine ⟨ps_while hp pc pb, fun Pr A G H σ e D s h => ?_⟩
  refine ⟨fun m σ H => ∃ G2 e2, Ext Pr G G2 ∧ SR ⟨T, Pr, A⟩ G2 H σ e2 ∧ OkS ⟨T, Pr, A⟩ W G2 D (wloop ft fb m e2), ⟨n, G, e, Ext.refl, s, h⟩, ?_⟩
  rintro m σ H ⟨G2, e2, x2, s2, h2⟩
  cases m with
  | zero => exact h2.elim
  | succ m =>
    simp only [wloop] at h2
    refine qc Pr A G2 H σ e2 _ s2 (h2.first fun b1 e3 v3 G3 H3 x3 s3 q3 h3 => ?_)
    subst q3
    cases v3 with
    | false => exact h3 σ G3 H3 Ext.refl s3
    | true =>
      refine ⟨fun σ' H' => ∃ G4 e4, Ext Pr G G4 ∧ SR ⟨T, Pr, A⟩ G4 H' σ' e4 ∧ OkS ⟨T, Pr, A⟩ W G4 D (wloop ft fb m e4), fun σ' H' q => ⟨m, Nat.lt_succ_self m, q⟩, ?_⟩
      refine qb Pr A G3 H3 σ e3 _ s3 ?_
      simp only [if_true] at h3
      revert h3
      cases fb e3 with
      | nx e5 => exact fun h5 σ5 G5 H5 x5 s5 => ⟨G5, e5, (x2.trans x3).trans x5, s5, OkS.ext x5 h5⟩
      | ct e5 => exact fun h5 σ5 G5 H5 x5 s5 => ⟨G5, e5, (x2.trans x3).trans x5, s5, OkS.ext x5 h5⟩
      | bk e5 => exact fun h5 => h5
      | rt p e5 => exact fun h5 => h5
      | ex c d e5 => exact fun h5 => h5
      | no => exact fun h5 => h5

/-! ### list comprehensions -/
@[simp] def wipeE (e : Env) : List Nat → Env
  | [] => e
  | v :: vs => st (wipeE e vs) v .un
theorem un_set (s : SR F G H σ e) (i : Nat) : SR F G H (σ.set i none) (st e i .un) := by
  have key : ∀ {j : Nat} {x : Sl}, gt (st e i .un) j = x → x ≠ .un → j ≠ i ∧ gt e j = x := fun {j x} h hx => by
    rw [gt_st] at h
    split at h
    · exact absurd h.symm hx
    · rename_i hj
      refine ⟨fun z => hj ⟨z, ?_⟩, h⟩
      rw [z] at h
      exact gt_lt (by rw [h]; exact hx)
  refine ⟨s.prot, s.sub, by rw [st_len, List.length_set]; exact s.len, fun j d' h => ?_, fun j b d' h => ?_, fun j k b d1 b' d2 p h1 h2 z1 z2 => ?_⟩
  · obtain ⟨hj, h⟩ := key h (by intro z; cases z)
    obtain ⟨u, h1, h2⟩ := s.va j d' h
    exact ⟨u, by rw [List.getElem?_set_ne (Ne.symm hj)]; exact h1, h2⟩
  · obtain ⟨hj, h⟩ := key h (by intro z; cases z)
    obtain ⟨p, h1, h2⟩ := s.ce j b d' h
    exact ⟨p, by rw [List.getElem?_set_ne (Ne.symm hj)]; exact h1, h2⟩
  · obtain ⟨hj, h1⟩ := key h1 (by intro z; cases z)
    obtain ⟨hk, h2⟩ := key h2 (by intro z; cases z)
    rw [List.getElem?_set_ne (Ne.symm hj)] at z1
    rw [List.getElem?_set_ne (Ne.symm hk)] at z2
    exact s.dis j k b d1 b' d2 p h1 h2 z1 z2
theorem SR.wipe (s : SR F G H σ e) : ∀ vs : List Nat, SR F G H (wipe σ vs) (wipeE e vs)
  | [] => s
  | v :: vs => un_set (SR.wipe s vs) v
theorem wipe_get (σ : St) : ∀ (vs : List Nat) (j : Nat), (wipe σ vs)[j]? = if j ∈ vs ∧ j < σ.length then some none else σ[j]?
  | [], j => by simp [wipe]
  | v :: vs, j => by
    unfold wipe
    by_cases h : v = j
    · subst h
      by_cases hl : v < σ.length
      · rw [List.getElem?_set_self (by rw [wipe_length]; exact hl), if_pos ⟨List.mem_cons_self, hl⟩]
      · rw [if_neg (fun z => hl z.2), List.getElem?_eq_none (by rw [List.length_set, wipe_length]; omega), List.getElem?_eq_none (by omega)]
    · rw [List.getElem?_set_ne h, wipe_get σ vs j]
      by_cases q : j ∈ vs ∧ j < σ.length
      · rw [if_pos q, if_pos ⟨List.mem_cons_of_mem _ q.1, q.2⟩]
      · rw [if_neg q, if_neg (fun z => q ⟨(List.mem_cons.mp z.1).resolve_left (fun y => h y.symm), z.2⟩)]
theorem wipe_eq {σ2 : St} {vs is : List Nat} (hi : ∀ i ∈ is, i ∈ vs) (h : ∀ j, j ∉ is → σ2[j]? = (wipe σ vs)[j]?) (hl : σ2.length = (wipe σ vs).length) : wipe σ2 vs = wipe σ vs := by
  rw [wipe_length] at hl
  apply List.ext_getElem?
  intro j
  rw [wipe_get, wipe_get, hl]
  by_cases q : j ∈ vs ∧ j < σ.length
  · rw [if_pos q, if_pos q]
  · rw [if_neg q, if_neg q]
    by_cases hj : j ∈ vs
    · have : ¬ j < σ.length := fun z => q ⟨hj, z⟩
      rw [List.getElem?_eq_none (by omega), List.getElem?_eq_none (by omega)]
    · have := h j (fun z => hj (hi j z))
      rw [this, wipe_get, if_neg (fun z => hj z.1)]
abbrev W0 : WX := fun _ _ _ _ => False
def noex {α : Type} : R α → R α
  | .ok a => .ok a
  | _ => .no
@[simp] theorem noex_ok {α : Type} (a : α) : noex (.ok a : R α) = .ok a := rfl
@[simp] theorem noex_no {α : Type} : noex (.no : R α) = .no := rfl
@[simp] theorem noex_ex {α : Type} (c d e) : noex (.ex c d e : R α) = .no := rfl
def STs (T : Tb) (W : WX) (X : Cx) (x : List Expr) (t : TT) (f : FT) : Prop := PTs X x t ∧ ∀ (Pr : Hp) (A : Nat → Option Addr) (G H : Hp) (σ : St) (e : Env) (Q : Bool → Hp → Prop), SR ⟨T, Pr, A⟩ G H σ e → OkE ⟨T, Pr, A⟩ W σ G Q (fun _ _ _ b v => v = b) (f e) → t σ H Q
def fYes : FT := fun e => .ok (true, e)
theorem sts_nil : STs T W X [] tYes fYes := ⟨pts_nil, fun Pr A G H σ e Q s h => h true G H Ext.refl s rfl⟩
theorem sts_one {c : Expr} {tc : TT} {ft : FT} (h : ST T W X c tc ft) : STs T W X [c] tc ft := ⟨pts_one h.1, h.2⟩
def cloop (vs : List Nat) (g : D → Env → Option Env) (ft : FT) (fe : FE) : List D → List D → Env → R (List D × Env)
  | [], acc, e => .ok (acc, e)
  | d :: r, acc, e => do
    let e1 ← R.of (g d (wipeE e vs))
    let (b, e2) ← noex (ft e1)
    if b = true then do
      let (p, e3) ← noex (fe e2)
      let (y, e4) ← settle e3 p
      if acc.length < LIM then cloop vs g ft fe r (acc ++ [y]) e4 else .no
    else cloop vs g ft fe r acc e2
/-- the block's own names have again what they had -/
@[simp] def back (e0 : Env) : List Nat → Env → Env
  | [], e => e
  | v :: vs, e => match gt e0 v with
    | .va d => st (back e0 vs e) v (.va d)
    | _ => st (back e0 vs e) v .un
def fLc (vs : List Nat) (g : D → Env → Option Env) (fi : Env → R (List D × Env)) (ft : FT) (fe : FE) : FE := fun e => do
  let (items, e1) ← fi e
  let (acc, e2) ← cloop vs g ft fe items [] e1
  .ok (.nw (.lst acc), back e1 vs e2)
theorem wipeE_len (e : Env) : ∀ vs : List Nat, (wipeE e vs).length = e.length
  | [] => rfl
  | v :: vs => by show (st _ _ _).length = _; rw [st_len]; exact wipeE_len e vs
theorem gt_un {e : Env} {j : Nat} (h : e.length ≤ j) : gt e j = .un := by
  cases z : gt e j with
  | un => rfl
  | va d => exact absurd (gt_lt (e := e) (n := j) (by rw [z]; intro y; cases y)) (by omega)
  | ce b d => exact absurd (gt_lt (e := e) (n := j) (by rw [z]; intro y; cases y)) (by omega)
theorem gt_wipe : ∀ (vs : List Nat) (e : Env) (j : Nat), gt (wipeE e vs) j = if j ∈ vs then .un else gt e j
  | [], e, j => by simp [wipeE]
  | v :: vs, e, j => by
    show gt (st (wipeE e vs) v .un) j = _
    rw [gt_st, gt_wipe vs e j, wipeE_len]
    by_cases hj : j = v
    · subst hj
      rw [if_pos (List.mem_cons_self)]
      split
      · rfl
      · rename_i q
        split
        · rfl
        · exact gt_un (by omega)
    · rw [if_neg (fun z => hj z.1)]
      by_cases q : j ∈ vs
      · rw [if_pos q, if_pos (List.mem_cons_of_mem _ q)]
      · rw [if_neg q, if_neg (fun z => q ((List.mem_cons.mp z).resolve_left hj))]
theorem back_len (e0 : Env) : ∀ (vs : List Nat) (e : Env), (back e0 vs e).length = e.length
  | [], e => rfl
  | v :: vs, e => by
    unfold back
    split <;> (rw [st_len]; exact back_len e0 vs e)
/-- what stands behind the block: what stood within, or what the block's own names had -/
theorem gt_back (e0 : Env) : ∀ (vs : List Nat) (e : Env) (j : Nat) (x : Sl), gt (back e0 vs e) j = x → (j ∉ vs ∧ gt e j = x) ∨ (j ∈ vs ∧ (x = .un ∨ ∃ d, x = .va d ∧ gt e0 j = .va d))
  | [], e, j, x, h => .inl ⟨by simp, h⟩
  | v :: vs, e, j, x, h => by
    have key : ∀ y : Sl, (y = .un ∨ ∃ d, y = .va d ∧ gt e0 v = .va d) → gt (st (back e0 vs e) v y) j = x → (j ∉ v :: vs ∧ gt e j = x) ∨ (j ∈ v :: vs ∧ (x = .un ∨ ∃ d, x = .va d ∧ gt e0 j = .va d)) := fun y hy k => by
      clear h
      rw [gt_st] at k
      split at k
      · rename_i q
        obtain ⟨rfl, _⟩ := q
        subst k
        exact .inr ⟨List.mem_cons_self, hy⟩
      · rename_i q
        by_cases hj : j = v
        · subst hj
          have : (back e0 vs e).length ≤ j := Nat.le_of_not_lt fun z => q ⟨rfl, z⟩
          rw [gt_un this] at k
          exact .inr ⟨List.mem_cons_self, .inl k.symm⟩
        · rcases gt_back e0 vs e j x k with ⟨a, b⟩ | ⟨a, b⟩
          · exact .inl ⟨fun z => a ((List.mem_cons.mp z).resolve_left hj), b⟩
          · exact .inr ⟨List.mem_cons_of_mem _ a, b⟩
    unfold back at h
    split at h
    · rename_i d hd
      exact key _ (.inr ⟨d, rfl, hd⟩) h
    · exact key _ (.inl rfl) h
theorem SR.prot_new {Pr : Hp} {A : Nat → Option Addr} {D1 : Addr} {o : HO} (s : SR ⟨T, Pr, A⟩ G H σ e) (h : H D1 = none) : SR ⟨T, upd Pr D1 o, A⟩ G (upd H D1 o) σ e := by
  have s1 := s.grow (Sub.new (o := o) h)
  refine ⟨fun a u q => ?_, s1.sub, s1.len, s1.va, fun i b d q => ?_, s1.dis⟩
  · have q : upd Pr D1 o a = some u := q
    by_cases ha : a = D1
    · rw [ha, upd_same] at q; rw [ha, upd_same]; exact q
    · rw [upd_ne ha] at q; rw [upd_ne ha]; exact s.prot a u q
  · obtain ⟨p, h1, h2, h3, h4, h5⟩ := s1.ce i b d q
    refine ⟨p, h1, h2, ?_, h4, h5⟩
    obtain ⟨p', g1, g2, g3, g4, g5⟩ := s.ce i b d q
    rw [h1] at g1; cases g1
    obtain ⟨o', ho'⟩ := g5.here
    show upd Pr D1 o p = none
    rw [upd_ne (fun z => by rw [z, h] at ho'; cases ho')]
    exact h3
theorem SR.prot_upd {Pr : Hp} {A : Nat → Option Addr} {D1 : Addr} {o o' : HO} (s : SR ⟨T, upd Pr D1 o, A⟩ G H σ e) (hg : G D1 = none) : SR ⟨T, upd Pr D1 o', A⟩ G (upd H D1 o') σ e := by
  refine ⟨fun a u q => ?_, fun a u q => ?_, s.len, s.va, fun i b d q => ?_, s.dis⟩
  · have q : upd Pr D1 o' a = some u := q
    by_cases ha : a = D1
    · rw [ha, upd_same] at q; rw [ha, upd_same]; exact q
    · rw [upd_ne ha] at q
      rw [upd_ne ha]
      exact s.prot a u (by show upd Pr D1 o a = _; rw [upd_ne ha]; exact q)
  · rw [upd_ne (fun z => by rw [z, hg] at q; cases q)]
    exact s.sub a u q
  · obtain ⟨p, h1, h2, h3, h4, h5⟩ := s.ce i b d q
    have hp : p ≠ D1 := fun z => by
      have h3' : upd Pr D1 o p = none := h3
      rw [z, upd_same] at h3'; cases h3'
    refine ⟨p, h1, h2, ?_, h4, h5.mono Sub.refl fun u hu => by rw [upd_ne hp]; exact hu⟩
    have h3' : upd Pr D1 o p = none := h3
    show upd Pr D1 o' p = none
    rw [upd_ne hp] at h3' ⊢
    exact h3'
theorem ext_prot {Pr : Hp} {D1 : Addr} {o : HO} (x : Ext (upd Pr D1 o) G G1) (hg : G D1 = none) : Ext Pr G G1 ∧ G1 D1 = none := by
  have key : ∀ a u, G1 a = some u → G a = some u ∨ (a ≠ D1 ∧ Pr a = none) := fun a u q => by
    rcases x.2 a u q with z | z
    · exact .inl z
    · have ha : a ≠ D1 := fun y => by rw [y, upd_same] at z; cases z
      rw [upd_ne ha] at z
      exact .inr ⟨ha, z⟩
  refine ⟨⟨x.1, fun a u q => (key a u q).imp id (·.2)⟩, ?_⟩
  cases q : G1 D1 with
  | none => rfl
  | some u =>
    rcases key D1 u q with z | z
    · rw [hg] at z; cases z
    · exact absurd rfl z.1
theorem noex_of {α β γ : Type} {Q : β → Hp → Prop} {rel : Hp → Hp → Env → α → β → Prop} {x : R γ} {k : γ → R (α × Env)} (h : OkE F W σ G Q rel (noex x >>= k)) : ∃ a, x = .ok a ∧ OkE F W σ G Q rel (k a) := by
  cases x with
  | ok a => exact ⟨a, rfl, h⟩
  | ex c d e => exact h.elim
  | no => exact h.elim
theorem R.assoc {α β γ : Type} (x : R α) (f : α → R β) (g : β → R γ) : (x >>= f) >>= g = x >>= fun a => f a >>= g := by cases x <;> rfl
theorem lc_run {wi : TI} {t : TG} {is vs : List Nat} {tt : TT} {te : TE} {g ft fe} {fi : Env → R (List D × Env)}
    (qi : ∀ (Pr : Hp) (A : Nat → Option Addr) (G H : Hp) (σ : St) (e : Env) (Q : It → Hp → Prop), SR ⟨T, Pr, A⟩ G H σ e → OkE ⟨T, Pr, A⟩ W σ G Q (fun G' _ _ items J => IterRep T G' items J) (fi e) → wi σ H Q)
    (qg : ∀ (Pr : Hp) (A : Nat → Option Addr) (G H : Hp) (σ : St) (e e' : Env) (d : D) (v : V) (Q : St → Hp → Prop), SR ⟨T, Pr, A⟩ G H σ e → Rp T G d v → g d e = some e' → (∀ σ', SR ⟨T, Pr, A⟩ G H σ' e' → (∀ j, j ∉ is → σ'[j]? = σ[j]?) → σ'.length = σ.length → Q σ' H) → t v σ H Q)
    (qt : ∀ (Pr : Hp) (A : Nat → Option Addr) (G H : Hp) (σ : St) (e : Env) (Q : Bool → Hp → Prop), SR ⟨T, Pr, A⟩ G H σ e → OkE ⟨T, Pr, A⟩ W0 σ G Q (fun _ _ _ b v => v = b) (ft e) → tt σ H Q)
    (qe : ∀ (Pr : Hp) (A : Nat → Option Addr) (G H : Hp) (σ : St) (e : Env) (Q : VK), SR ⟨T, Pr, A⟩ G H σ e → OkE ⟨T, Pr, A⟩ W0 σ G Q (rPV ⟨T, Pr, A⟩ σ) (fe e) → te σ H Q)
    (his : ∀ i ∈ is, i ∈ vs) (Pr : Hp) (A : Nat → Option Addr) (G H : Hp) (σ : St) (e : Env) (Q : VK) (s : SR ⟨T, Pr, A⟩ G H σ e) (h : OkE ⟨T, Pr, A⟩ W σ G Q (rPV ⟨T, Pr, A⟩ σ) (fLc vs g fi ft fe e)) : tLc wi t tt te vs σ H Q := by
  refine qi Pr A G H σ e _ s (h.first fun items e1 J G1 H1 x1 s1 rep h1 => ?_)
  intro D1 hD
  have fD := s1.fresh hD
  refine ⟨fun i m H => m = items.length - i ∧ i ≤ items.length ∧ ∃ G2 e2 acc accV, Ext Pr G1 G2 ∧ G2 D1 = none ∧ SR ⟨T, upd Pr D1 (.lst accV), A⟩ G2 H (wipe σ vs) (wipeE e2 vs) ∧ RpL T G2 acc accV ∧
      OkE ⟨T, Pr, A⟩ W σ G2 Q (rPV ⟨T, Pr, A⟩ σ) (cloop vs g ft fe (items.drop i) acc e2 >>= fun (acc, e2) => .ok (.nw (.lst acc), back e1 vs e2)),
    ⟨_, rfl, Nat.zero_le _, G1, e1, [], [], Ext.refl, fD.2.1, (s1.prot_new hD).wipe vs, RpL.nil, h1⟩, ?_⟩
  rintro i m H ⟨rfl, hi, G2, e2, acc, accV, x2, g2, s2, ra, h2⟩
  by_cases hlt : i < items.length
  · refine .inr ?_
    have hd : items[i]? = some items[i] := List.getElem?_eq_getElem hlt
    have ed : items.drop i = items[i] :: items.drop (i + 1) := List.drop_eq_getElem_cons hlt
    rw [ed] at h2
    simp only [cloop, R.assoc] at h2
    obtain ⟨go, yl⟩ := (rep G2 H i x2.1 s2.sub).1 _ hd
    refine ⟨go, fun H' => ∃ G3 e3 acc accV, Ext Pr G1 G3 ∧ G3 D1 = none ∧ SR ⟨T, upd Pr D1 (.lst accV), A⟩ G3 H' (wipe σ vs) (wipeE e3 vs) ∧ RpL T G3 acc accV ∧
      OkE ⟨T, Pr, A⟩ W σ G3 Q (rPV ⟨T, Pr, A⟩ σ) (cloop vs g ft fe (items.drop (i + 1)) acc e3 >>= fun (acc, e2) => .ok (.nw (.lst acc), back e1 vs e2)), fun H' ⟨G3, e3, acc, accV, q⟩ => ⟨_, by omega, rfl, hlt, G3, e3, acc, accV, q⟩, fun x H3 y => ?_⟩
    obtain ⟨G3, x3, s3, r3⟩ := yr_done s2 (yl x H3 y)
    obtain ⟨e4, h4, h5⟩ := of_ok h2
    obtain ⟨⟨b, e5⟩, h6, h7⟩ := noex_of h5
    have y3 := ext_prot x3 g2
    refine qg _ A G3 H3 (wipe σ vs) (wipeE e2 vs) e4 _ x _ s3 r3 h4 fun σ4 s4 k4 l4 => ?_
    have w4 : wipe σ4 vs = wipe σ vs := wipe_eq his k4 l4
    refine ⟨w4, ?_⟩
    refine qt _ A G3 H3 σ4 e4 _ s4 ?_
    rw [h6]
    intro b' G5 H5 x5 s5 eb
    subst eb
    have y5 := ext_prot x5 y3.2
    have h8 := h7.ext (y3.1.trans y5.1)
    dsimp only at h8
    by_cases hb : b' = true
    · rw [if_pos hb]
      rw [if_pos hb] at h8
      rw [R.assoc] at h8
      obtain ⟨⟨p, e6⟩, h9, h10⟩ := noex_of h8
      refine qe _ A G5 H5 σ4 e5 _ s5 ?_
      rw [h9]
      intro v G6 H6 x6 s6 q6
      have y6 := ext_prot x6 y5.2
      have h11 := h10.ext y6.1
      dsimp only at h11
      rw [R.assoc] at h11
      obtain ⟨⟨yd, e7⟩, l7, h12⟩ := no_of (fun _ _ _ => settle_nx) h11
      obtain ⟨G7, x7, s7, r7⟩ := settle_ok s6 q6 l7
      have y7 := ext_prot x7 y6.2
      dsimp only at h12
      have acD : H6 D1 = some (.lst accV) := s6.prot D1 _ upd_same
      have xall : Ext Pr G2 G7 := ((y3.1.trans y5.1).trans y6.1).trans y7.1
      have lim : acc.length < LIM := by
        by_cases q : acc.length < LIM
        · exact q
        · rw [if_neg q] at h12; exact h12.elim
      rw [if_pos lim] at h12
      refine ⟨accV, acD, by rw [RpL.length ra]; exact Nat.lt_of_lt_of_le lim lim_le, G7, e7, acc ++ [yd], accV ++ [v], x2.trans xall, y7.2, ?_, (RpL.mono xall.1 _ _ ra).append (RpL.cons r7 RpL.nil), h12.ext y7.1⟩
      have s8 := (s7.prot_upd (o' := .lst (accV ++ [v])) y7.2).wipe vs
      rw [w4] at s8
      exact s8
    · rw [if_neg hb]
      rw [if_neg hb] at h8
      have s8 := s5.wipe vs
      rw [w4] at s8
      have xall : Ext Pr G2 G5 := y3.1.trans y5.1
      exact ⟨G5, e5, acc, accV, x2.trans xall, y5.2, s8, RpL.mono xall.1 _ _ ra, h8⟩
  · have ei : i = items.length := by omega
    subst ei
    refine .inl ⟨(rep G2 H _ x2.1 s2.sub).2 (Nat.le_refl _), ?_⟩
    rw [List.drop_length] at h2
    have h2 : OkE ⟨T, Pr, A⟩ W σ G2 Q (rPV ⟨T, Pr, A⟩ σ) (.ok (.nw (.lst acc), back e1 vs e2)) := h2
    have acD : H D1 = some (.lst accV) := s2.prot D1 _ upd_same
    have prD : ∀ {a : Addr}, upd Pr D1 (.lst accV) a = none → a ≠ D1 ∧ Pr a = none := fun {a} z => by
      have ha : a ≠ D1 := fun y => by rw [y, upd_same] at z; cases z
      rw [upd_ne ha] at z
      exact ⟨ha, z⟩
    have sg : ∀ {j : Nat} {o : Option V}, j ∉ vs → (wipe σ vs)[j]? = some o → σ[j]? = some o := fun {j o} hj q => by
      rw [wipe_get, if_neg (fun z => hj z.1)] at q; exact q
    have cell : ∀ {j : Nat} {b : Bool} {d : D}, gt (back e1 vs e2) j = .ce b d → j ∉ vs ∧ gt (wipeE e2 vs) j = .ce b d := fun {j b d} q => by
      rcases gt_back e1 vs e2 j _ q with ⟨a, z⟩ | ⟨a, z | ⟨d', z, _⟩⟩
      · exact ⟨a, by rw [gt_wipe, if_neg a]; exact z⟩
      · cases z
      · cases z
    have sw : ∀ {j : Nat} {v : V}, j ∉ vs → σ[j]? = some (some v) → (wipe σ vs)[j]? = some (some v) := fun {j v} hj q => by
      rw [wipe_get, if_neg (fun z => hj z.1)]; exact q
    refine h2 (.ref D1) G2 H Ext.refl ⟨fun a u q => ?_, s2.sub, ?_, fun j d q => ?_, fun j b d q => ?_, fun j k b d b' d' p q1 q2 z1 z2 => ?_⟩ ⟨D1, rfl, fD.1, g2, fun j b d q z => ?_, accV, acD, ra⟩
    · have ha : a ≠ D1 := fun y => by
        have fd := fD.1
        rw [y] at q
        have q' : Pr D1 = some u := q
        have fd' : Pr D1 = none := fd
        rw [fd'] at q'; cases q'
      exact s2.prot a u (by show upd Pr D1 _ a = _; rw [upd_ne ha]; exact q)
    · have := s2.len
      rw [wipeE_len, wipe_length] at this
      rw [back_len]; exact this
    · rcases gt_back e1 vs e2 j _ q with ⟨a, z⟩ | ⟨a, z | ⟨d', z, z2⟩⟩
      · obtain ⟨v, y1, y2⟩ := s2.va j d (by rw [gt_wipe, if_neg a]; exact z)
        exact ⟨v, sg a y1, y2⟩
      · cases z
      · cases z
        obtain ⟨v, y1, y2⟩ := s1.va j d z2
        exact ⟨v, y1, Rp.mono x2.1 _ _ y2⟩
    · obtain ⟨a, z⟩ := cell q
      obtain ⟨p, y1, y2, y3, y4, y5⟩ := s2.ce j b d z
      exact ⟨p, sg a y1, y2, (prD y3).2, y4, y5⟩
    · obtain ⟨a, z⟩ := cell q1
      obtain ⟨a', z'⟩ := cell q2
      exact s2.dis j k b d b' d' p z z' (sw a z1) (sw a' z2)
    · obtain ⟨a, z'⟩ := cell q
      obtain ⟨p, y1, y2, y3, y4, y5⟩ := s2.ce j b d z'
      rw [sw a z] at y1; cases y1
      exact (prD y3).1 rfl
def s00 : Shared := { heap := {}, gens := #[], drawn := {}, toks := 0, os := {} }
theorem se_lc {elt tg iter : Expr} {ifs : List Expr} {scope : Scope} {own : List (Str × Nat)} {wi : TI} {t : TG} {is : List Nat} {tt : TT} {te : TE} {g fi ft fe} (hc : X.calm = true) (hN : X.N.Nodup) (hi : SI T W X tg iter wi fi) (ok : BlkOk X.N X.env.scope scope own)
    (hg : ∀ (s : Shared) (H : Hp) (C : Addr) (cl : List (Str × Addr)) (fp : List Addr), STg T (X.blk s H scope (compEnvC scope cl C X.env) fp) tg t is g) (ht : ∀ (s : Shared) (H : Hp) (C : Addr) (cl : List (Str × Addr)) (fp : List Addr), STs T W0 (X.blk s H scope (compEnvC scope cl C X.env) fp) ifs tt ft)
    (he : ∀ (s : Shared) (H : Hp) (C : Addr) (cl : List (Str × Addr)) (fp : List Addr), SE T W0 (X.blk s H scope (compEnvC scope cl C X.env) fp) elt te fe) (his : ∀ i ∈ is, i ∈ own.map (·.2) := by decide) (hs : ∀ x, foldedSetIterable iter X.env x = pure x := by intro _; rfl) :
    SE T W X (.ListComp elt [⟨tg, iter, ifs, 0⟩] scope pos) (tLc wi t tt te (own.map (·.2))) (fLc (own.map (·.2)) g fi ft fe) :=
  ⟨pe_lc hc hN hi.1 ok (fun s H C cl fp => (hg s H C cl fp).1) (fun s H C cl fp => (ht s H C cl fp).1) (fun s H C cl fp => (he s H C cl fp).1) hs,
    lc_run hi.2 (hg s00 (fun _ => none) 0 [] []).2 (ht s00 (fun _ => none) 0 [] []).2 (he s00 (fun _ => none) 0 [] []).2 his⟩
theorem ss_setLc {i : Nat} {y : Str} {py : Pos} {elt tg iter : Expr} {ifs : List Expr} {scope : Scope} {own : List (Str × Nat)} {spos : Pos} {wi : TI} {t : TG} {is : List Nat} {tt : TT} {te : TE} {g fi ft fe} (hc : X.calm = true) (hN : X.N.Nodup) (hy : X.N[i]? = some y) (hyl : X.env.scope.names.lookup y = some .local)
    (hsw : swapsWith (.ListComp elt [⟨tg, iter, ifs, 0⟩] scope pos) (some (.Name y py)) spos.line X.env = pure true) (hi : SI T W X tg iter wi fi) (ok : BlkOk X.N X.env.scope scope own)
    (hg : ∀ (s : Shared) (H : Hp) (C : Addr) (cl : List (Str × Addr)) (fp : List Addr), STg T (X.blk s H scope (compEnvC scope cl C X.env) fp) tg t is g) (ht : ∀ (s : Shared) (H : Hp) (C : Addr) (cl : List (Str × Addr)) (fp : List Addr), STs T W0 (X.blk s H scope (compEnvC scope cl C X.env) fp) ifs tt ft)
    (he : ∀ (s : Shared) (H : Hp) (C : Addr) (cl : List (Str × Addr)) (fp : List Addr), SE T W0 (X.blk s H scope (compEnvC scope cl C X.env) fp) elt te fe) (his : ∀ i ∈ is, i ∈ own.map (·.2) := by decide) (hs : ∀ x, foldedSetIterable iter X.env x = pure x := by intro _; rfl) :
    SS T W X (.Assign [.Name y py] (.ListComp elt [⟨tg, iter, ifs, 0⟩] scope pos) spos) (tAsg (tLc wi t tt te (own.map (·.2))) (gName i)) (fSet i (fLc (own.map (·.2)) g fi ft fe)) := by
  have P := ps_setLc hc hN hy hyl hsw hi.1 ok (fun s H C cl fp => (hg s H C cl fp).1) (fun s H C cl fp => (ht s H C cl fp).1) (fun s H C cl fp => (he s H C cl fp).1) hs
  have L := se_lc (pos := pos) hc hN hi ok hg ht he his hs
  refine ⟨P, fun Pr A G H σ e D s h => ?_⟩
  refine L.2 Pr A G H σ e _ s (h.first fun p1 e1 v1 G1 H1 x1 s1 q1 h1 => ?_)
  dsimp only [putO] at h1
  split at h1
  · rename_i e2 h2
    obtain ⟨G2, x2, s2⟩ := put_ok s1 q1 h2
    exact h1 _ G2 H1 x2 s2
  · exact h1.elim
end
end DL
set_option Elab.async false
set_option linter.all false
set_option maxRecDepth 100000
set_option maxHeartbeats 4000000
namespace DL
open PySem PySem.Spec PyProof.Rows L2

/-! ### defs, where no repr is under way -/
structure FnG (P : Program) (w : World) (K : PySem.W.Frag) (mg : Str → Option Value) (base : Heap) (k : Nat) (f : Addr) (fd : FuncData) (ps : List Str) (sp : Sp) : Prop where
  many : ∀ xs H Q E, sp xs H Q E → xs.length = ps.length
  go : ∀ (A : Around) (below : List PySem.Env) (sh : Shared) (H : Hp) (as : Args) (us : List Value) (xs : List V) (Q : VK) (E : XK), Room k A → A.guards = some [] → Env0 P w K mg base A below sh H → BindsTo sh fd as (ps.zip us) → Vals xs us → sp xs H Q E →
    codeAny (model P w) A (.call (.ref f) as) (CR (L2.CX P w) below P w H sh Q E) sh
section
variable {P : Program} {w : World} {K : PySem.W.Frag} {mg : Str → Option Value} {base : Heap}
theorem FnG.up {j k : Nat} {f : Addr} {fd : FuncData} {ps : List Str} {sp : Sp} (F : FnG P w K mg base j f fd ps sp) (h : j ≤ k) : FnG P w K mg base k f fd ps sp :=
  ⟨F.many, fun A below sh H as us xs Q E room => F.go A below sh H as us xs Q E (room.mono h)⟩
/-- as Fun, with defaults of any kind -/
structure FnDf (K : PySem.W.Frag) (x qual : Str) (st : Stmt) (f : Addr) (fd : FuncData) : Prop where
  ex : ∃ (oc : Value) (od : Option Addr) (dV kV doc pm : Value) (an : Option Addr) (cdv ct : Value) (osl : Array (Option Value)),
    fd = PySem.W.fnOf x qual (defArgs st) (defBody st) (defScope st) dV kV doc pm an cdv ct ∧ K.lookup f = some ⟨oc, od, .func fd, osl⟩ ∧ PySem.W.codeIn K cdv qual = true
theorem fun_toD {x qual : Str} {st : Stmt} {f : Addr} {fd : FuncData} (F : Fun K x qual st f fd) : FnDf K x qual st f fd := by
  obtain ⟨oc, od, kV, doc, pm, an, cdv, ct, osl, e, lk, hc⟩ := F.ex
  exact ⟨⟨oc, od, .none, kV, doc, pm, an, cdv, ct, osl, e, lk, hc⟩⟩
theorem fun_ofL {x qual : Str} {st : Stmt} {f : Addr} {fd : FuncData} {dvs : List V} {kws : List (Str × V)} (F : L2.FunD K x qual (defArgs st) (defBody st) (defScope st) dvs kws f fd) : FnDf K x qual st f fd := by
  obtain ⟨oc, od, dV, kV, doc, pm, an, cdv, ct, osl, e, lk, hc, _, _⟩ := F.ex
  exact ⟨⟨oc, od, dV, kV, doc, pm, an, cdv, ct, osl, e, lk, hc⟩⟩
theorem fundL_mk {x qual : Str} {st : Stmt} {f T : Addr} {oc tc : Value} {od an td : Option Addr} {osl tsl : Array (Option Value)} {kV doc pm cdv ct : Value} {dvs : List V} {its : List Value} {n : Nat}
    (l : K.lookup f = some ⟨oc, od, .func (PySem.W.fnOf x qual (defArgs st) (defBody st) (defScope st) (.ref T) kV doc pm an cdv ct), osl⟩) (c : PySem.W.codeIn K cdv qual = true) (k : PySem.W.keepIn K (.ref f) = true)
    (t : K.lookup T = some ⟨tc, td, .seq its.toArray n, tsl⟩) (hd : dvs ≠ []) (v : Vals dvs its) : L2.FunD K x qual (defArgs st) (defBody st) (defScope st) dvs [] f (PySem.W.fnOf x qual (defArgs st) (defBody st) (defScope st) (.ref T) kV doc pm an cdv ct) :=
  ⟨⟨oc, od, .ref T, kV, doc, pm, an, cdv, ct, osl, rfl, l, c, .inr ⟨hd, T, _, its, n, rfl, t, rfl, v⟩, .inl rfl⟩, k⟩
/-- every parameter is given by its place, though there are defaults -/
theorem fundL_all {x qual : Str} {st : Stmt} {f : Addr} {fd : FuncData} {dvs : List V} {ps : List Str} (F : L2.FunD K x qual (defArgs st) (defBody st) (defScope st) dvs [] f fd) (hd : dvs ≠ [])
    (h : ∀ (T : Addr) (kV doc pm : Value) (an : Option Addr) (cdv ct : Value) (us its : List Value), us.length = ps.length → its.length = dvs.length →
      ∃ k, bindArgs (PySem.W.fnOf x qual (defArgs st) (defBody st) (defScope st) (.ref T) kV doc pm an cdv ct) ⟨us, []⟩ = seqItems? (.ref T) >>= k ∧ k (some its.toArray) = pure (ps.zip (us ++ its.drop dvs.length))) : Binds K fd ps [] := by
  obtain ⟨ds, hv, hb⟩ := F.binds1 (ps := ps) ps.length dvs.length hd (by omega) h
  rw [List.drop_eq_nil_of_le (Nat.le_refl _)] at hv
  cases hv
  exact hb
/-- a def by its body, whatever its defaults -/
theorem fng_ofD {x qual : Str} {sd : Stmt} {f : Addr} {fd : FuncData} {N ps : List Str} {k : Nat} {sp : Sp} (F : FnDf K x qual sd f fd) (S : FnScope N ps (defScope sd)) (many : ∀ xs H Q E, sp xs H Q E → xs.length = ps.length)
    (body : ∀ (cdv : Value) (A : Around) (below : List PySem.Env) (sh : Shared) (H : Hp) (xs : List V) (Q : VK) (E : XK), Room k (A.deeper (envOfC qual (defScope sd) sh.heap.objs.size f cdv)) → A.guards = some [] → sp xs H Q E →
      ∃ t, PSs (cxOf (L2.CX P w) P w K mg base N qual (defScope sd) f cdv A below sh H E) (defBody sd) t ∧ t { nx := fun _ H' => Q .non H', rt := Q } (L2.start N xs) H) : FnG P w K mg base (k + 1) f fd ps sp := by
  obtain ⟨oc, od, dV, kV, doc, pm, an, cdv, ct, osl, rfl, lk, hcode⟩ := F.ex
  refine ⟨many, fun A below sh H as us xs Q E room gd e0 bound vals want => ?_⟩
  have long := many _ _ _ _ want
  have kin : K.In sh.heap := e0.mod.kin.keeps fun a o z => (e0.bs a o z).1
  have nolim : sh.heap.NoLimit := e0.mod.nolimit.keeps fun a o z => (e0.bs a o z).1
  have kinds : ∀ q ∈ ps.zip us, (defScope sd).names.lookup q.1 = some .local ∨ ((defScope sd).names.lookup q.1 = some .cell ∧ ((cellsFrom (sh.heap.objs.size + 1) (defScope sd).names []).lookup q.1).isSome = true) := fun ⟨n, v⟩ hq => by
    rcases S.par n (List.of_mem_zip hq).1 with z | z
    · exact .inl z
    · exact .inr ⟨z, PySem.W.cellsFrom_some _ _ _ (.inl z)⟩
  refine codeAny_call_function room.depth (kin _ _ lk) rfl S.co S.gen rfl (PySem.W.codeRec_of kin hcode) (bound _ _ _ _ ?_)
  refine wpAny_newFunctionEnv_cells S.kind kinds fun env same s1 called => ?_
  subst same
  refine ⟨nolim.keeps called.toInCall.keep, codeAny_func ?_⟩
  obtain ⟨t, reads, runs⟩ := body cdv A below sh H xs Q E (room.deeper _) gd want
  have I := inv_start (CX := L2.CX P w) (E := E) S room.hd e0 long vals called
  refine wpAny_mono (reads.run [] s1 (L2.start N xs) H _ I runs) (fun fl s' z => ?_) fun e s' z => z
  have done : ∀ {σ' : L2.St} {H' : Hp} {v : V} {u : Value}, Inv (cxOf (L2.CX P w) P w K mg base N qual (defScope sd) f cdv A below sh H E) [] σ' H' s' → RelV v u → Q v H' → CE below P w H sh Q u s' :=
    fun {σ' H' v u} J rv q => ⟨v, H', J.os, J.bare, J.base, J.hok, rv, q⟩
  cases fl with
  | next =>
    obtain ⟨σ', H', J, q⟩ := z
    exact done (v := .non) (u := .none) J rfl q
  | ret u =>
    obtain ⟨v, σ', H', J, rv, q⟩ := z
    exact done J rv q
  | brk => obtain ⟨_, _, _, q⟩ := z; exact q.elim
  | cont => obtain ⟨_, _, _, q⟩ := z; exact q.elim
/-- a def by its body -/
theorem fng_of {x qual : Str} {sd : Stmt} {f : Addr} {fd : FuncData} {N ps : List Str} {k : Nat} {sp : Sp} (F : Fun K x qual sd f fd) (S : FnScope N ps (defScope sd)) (many : ∀ xs H Q E, sp xs H Q E → xs.length = ps.length)
    (body : ∀ (cdv : Value) (A : Around) (below : List PySem.Env) (sh : Shared) (H : Hp) (xs : List V) (Q : VK) (E : XK), Room k (A.deeper (envOfC qual (defScope sd) sh.heap.objs.size f cdv)) → A.guards = some [] → sp xs H Q E →
      ∃ t, PSs (cxOf (L2.CX P w) P w K mg base N qual (defScope sd) f cdv A below sh H E) (defBody sd) t ∧ t { nx := fun _ H' => Q .non H', rt := Q } (L2.start N xs) H) : FnG P w K mg base (k + 1) f fd ps sp :=
  fng_ofD (fun_toD F) S many body
end

/-! ### calls of such defs -/
section
variable {X : Cx} {k : Nat} {f : Addr} {fd : FuncData} {ps : List Str} {sp : Sp} {E : L2.St → XK} {x : Str} {p pos : Pos} {e : Expr} {es : List Expr} {t : TA}
/-- us the positional values, ws those of the keywords ks -/
structure Bd (K : PySem.W.Frag) (fd : FuncData) (ps ks : List Str) (n : Nat) (g : List Value → List Value) (gV : List V → List V) : Prop where
  to : ∀ (sh : Shared) (us ws : List Value), K.In sh.heap → us.length = n → ws.length = ks.length → BindsTo sh fd ⟨us, ks.zip ws⟩ (ps.zip (g (us ++ ws)))
  rel : ∀ {xs : List V} {us : List Value}, Vals xs us → Vals (gV xs) (g us)
def tCallG (n : Nat) (sp : Sp) (gV : List V → List V) (E : L2.St → XK) (t : TA) : TE := fun σ H Q => t σ H fun xs H1 => xs.length = n ∧ sp (gV xs) H1 Q (E σ)
theorem run_fng {n : Nat} {ks : List Str} {g : List Value → List Value} {gV : List V → List V} {pins : List (Addr × Obj)} {σ : L2.St} {H : Hp} {s : Shared} {Q : VK} {us ws : List Value} {xs : List V} (F : FnG X.prog X.w X.K X.mg X.base k f fd ps sp) (hr : Room k X.A) (gd : X.A.guards = some []) (hb : Bd X.K fd ps ks n g gV)
    (hx : PassesAt (L2.CX X.prog X.w) X σ (E σ)) (I : Inv X pins σ H s) (lu : us.length = n) (lw : ws.length = ks.length) (r : Vals xs (us ++ ws)) (h : sp (gV xs) H Q (E σ)) : wpAny (model X.prog X.w) X.A (call (.ref f) us (ks.zip ws)) (EP X pins σ Q) X.xe s := by
  refine wpAny_call (codeAny_mono (F.go X.A X.stack s H ⟨us, ks.zip ws⟩ (g (us ++ ws)) (gV xs) Q (E σ) hr gd I.env0 (hb.to s us ws I.kIn lu lw) (hb.rel r) h) fun r s' z => ?_)
  cases r with
  | error e => exact hx pins H s e s' I z
  | ok fl =>
    cases fl with
    | next => exact z.elim
    | brk => exact z.elim
    | cont => exact z.elim
    | ret u => exact I.after z
/-- f(e, ..) -/
theorem pe_callG {n : Nat} {g : List Value → List Value} {gV : List V → List V} (F : FnG X.prog X.w X.K X.mg X.base k f fd ps sp) (hr : Room k X.A) (gd : X.A.guards = some []) (hg : Gl X x) (hm : X.mg x = some (.ref f)) (hk : PySem.W.keepIn X.K (.ref f) = true) (hb : Bd X.K fd ps [] n g gV)
    (hx : ∀ σ, PassesAt (L2.CX X.prog X.w) X σ (E σ)) (ha : PA X (e :: es) t) (hdb : (x == ("__debug__" : Str)) = false := by decide) (he : starEach (e :: es) X.env = (false, eval e X.env) :: starEach es X.env := by rfl) (hpl : (backTo pos (starEach es X.env)).any (·.1) = false := by rfl) :
    PE X (.Call (.Name x p) (e :: es) [] pos) (tCallG n sp gV E t) := by
  refine ⟨fun pins s σ H Q I want => ?_⟩
  refine wpAny_Call_Name_kw (ld_glob I hg hm ?_ hdb)
  refine PySem.W.callWith_K (h₀ := X.base) I.ok.mod.kin hk (thn (ha.run pos pins s σ H _ I want) fun us s1 ⟨xs, H1, I1, r, l, q⟩ => ⟨I1.kIn, ?_⟩) he hpl
  exact run_fng (ws := []) F hr gd hb (hx σ) I1 (r.length.symm.trans l) rfl (by rw [List.append_nil]; exact r) q
/-- f() -/
theorem pe_callG0 {g : List Value → List Value} {gV : List V → List V} (F : FnG X.prog X.w X.K X.mg X.base k f fd ps sp) (hr : Room k X.A) (gd : X.A.guards = some []) (hg : Gl X x) (hm : X.mg x = some (.ref f)) (hk : PySem.W.keepIn X.K (.ref f) = true) (hb : Bd X.K fd ps [] 0 g gV)
    (hx : ∀ σ, PassesAt (L2.CX X.prog X.w) X σ (E σ)) (hdb : (x == ("__debug__" : Str)) = false := by decide) : PE X (.Call (.Name x p) [] [] pos) (tCallG 0 sp gV E tNil) := by
  refine ⟨fun pins s σ H Q I want => ?_⟩
  refine wpAny_Call_Name_kw (ld_glob I hg hm ?_ hdb)
  exact PySem.W.callWith_K0 I.kIn hk (run_fng (us := []) (ws := []) F hr gd hb (hx σ) I rfl rfl .nil want.2)
/-- the positional arguments, then the keywords' -/
def tApp (t u : TA) : TA := fun σ H Q => t σ H fun xs H1 => u σ H1 fun ys H2 => Q (xs ++ ys) H2
variable {kws : List Keyword} {tk : TA} {ks : List Str}
/-- f(e, .., k = v, ..); l: as many positional values as there are -/
theorem pe_callGk {n : Nat} {g : List Value → List Value} {gV : List V → List V} (F : FnG X.prog X.w X.K X.mg X.base k f fd ps sp) (hr : Room k X.A) (gd : X.A.guards = some []) (hg : Gl X x) (hm : X.mg x = some (.ref f)) (hk : PySem.W.keepIn X.K (.ref f) = true) (hb : Bd X.K fd ps ks n g gV)
    (hx : ∀ σ, PassesAt (L2.CX X.prog X.w) X σ (E σ)) (ha : PA X (e :: es) t) (hkw : PK X kws tk) (hall : (backToKw pos (keywordEach kws X.env)).all (·.1.isSome) = true := by rfl) (hks : (backToKw pos (keywordEach kws X.env)).filterMap (·.1) = ks := by rfl)
    (hdb : (x == ("__debug__" : Str)) = false := by decide) (he : starEach (e :: es) X.env = (false, eval e X.env) :: starEach es X.env := by rfl)
    (hpl : ((backTo pos (starEach (e :: es) X.env)).any (·.1) || (backToKw pos (keywordEach kws X.env)).any (·.1.isNone)) = false := by rfl) :
    PE X (.Call (.Name x p) (e :: es) kws pos) (fun σ H Q => t σ H fun xs H1 => tk σ H1 fun ys H2 => xs.length = n ∧ ys.length = ks.length ∧ sp (gV (xs ++ ys)) H2 Q (E σ)) := by
  refine ⟨fun pins s σ H Q I want => ?_⟩
  refine wpAny_Call_Name_kw (ld_glob I hg hm ?_ hdb)
  refine PySem.W.callWith_KW (h₀ := X.base) I.ok.mod.kin hk hall (thn (ha.run pos pins s σ H _ I want) fun us s1 ⟨xs, H1, I1, r, q⟩ => ?_) hpl he
  refine thn (hkw.run pos pins s1 σ H1 _ I1 q) fun ws s2 ⟨ys, H2, I2, r2, l1, l2, q2⟩ => ⟨I2.kIn, ?_⟩
  rw [hks]
  exact run_fng F hr gd hb (hx σ) I2 (r.length.symm.trans l1) (r2.length.symm.trans l2) (r.append r2) q2
/-- f(k = v, ..) -/
theorem pe_callGk0 {g : List Value → List Value} {gV : List V → List V} (F : FnG X.prog X.w X.K X.mg X.base k f fd ps sp) (hr : Room k X.A) (gd : X.A.guards = some []) (hg : Gl X x) (hm : X.mg x = some (.ref f)) (hk : PySem.W.keepIn X.K (.ref f) = true) (hb : Bd X.K fd ps ks 0 g gV)
    (hx : ∀ σ, PassesAt (L2.CX X.prog X.w) X σ (E σ)) (hkw : PK X kws tk) (hall : (backToKw pos (keywordEach kws X.env)).all (·.1.isSome) = true := by rfl) (hks : (backToKw pos (keywordEach kws X.env)).filterMap (·.1) = ks := by rfl)
    (hdb : (x == ("__debug__" : Str)) = false := by decide)
    (hpl : ((backTo pos (starEach [] X.env)).any (·.1) || (backToKw pos (keywordEach kws X.env)).any (·.1.isNone)) = false := by rfl) :
    PE X (.Call (.Name x p) [] kws pos) (tCallG ks.length sp gV E tk) := by
  refine ⟨fun pins s σ H Q I want => ?_⟩
  refine wpAny_Call_Name_kw (ld_glob I hg hm ?_ hdb)
  refine PySem.W.callWith_KW0 (h₀ := X.base) I.ok.mod.kin hk hall (thn (hkw.run pos pins s σ H _ I want) fun ws s1 ⟨ys, H1, I1, r, l, q⟩ => ⟨I1.kIn, ?_⟩) hpl
  rw [hks]
  exact run_fng (us := []) F hr gd hb (hx σ) I1 rfl (r.length.symm.trans l) r q
/-- every parameter is given by its place -/
theorem Bd.all {K : PySem.W.Frag} {fd : FuncData} {ps : List Str} {n : Nat} (hn : n = ps.length) (h : ∀ us : List Value, us.length = ps.length → bindArgs fd ⟨us, []⟩ = pure (ps.zip us)) : Bd K fd ps [] n id id where
  to := fun sh us ws _ l1 l2 => by
    have : ws = [] := List.length_eq_zero_iff.mp l2
    subst this
    rw [List.append_nil]
    exact .of_eq (h us (l1.trans hn))
  rel := fun r => r
/-- with defaults behind -/
theorem Bd.dfl {K : PySem.W.Frag} {fd : FuncData} {ps : List Str} {ds : List Value} {dvs : List V} {n : Nat} (hn : n + ds.length = ps.length) (h : Binds K fd ps ds) (hd : Vals dvs ds) : Bd K fd ps [] n (· ++ ds) (· ++ dvs) where
  to := fun sh us ws kin l1 l2 => by
    have : ws = [] := List.length_eq_zero_iff.mp l2
    subst this
    rw [List.append_nil]
    exact h sh us kin (by rw [List.length_append, l1]; exact hn)
  rel := fun r => r.append hd
end

/-! ### the law's own def at the head -/
theorem head_call {P : Program} {w : World} {K : PySem.W.Frag} {mg mb : Str → Option Value} {k : Nat} {fa a : Addr} {fd : FuncData} {x : Str} {sp : Sp} {s₁ : Shared} {vs : List Value} {ns : List Int}
    (kin : K.In s₁.heap) (main : s₁.heap.Ns mainGlobals mg) (blt : s₁.heap.Ns builtinsNs mb) (boot : ∀ x : Str, x ≠ "__name__" → mb x = bootBuiltins x) (nolim : s₁.heap.NoLimit) (nogen : s₁.gens = #[])
    (obj : s₁.heap.get? a = some { cls := .type "list", data := .seq vs.toArray }) (numb : IntsAre vs ns) (few : ns.length ≤ sizeLine) (room : Room k callerA)
    (F : ∀ base : Heap, K.In base → base.Ns mainGlobals mg → FnG P w K mg base k fa fd [x] sp) (bound : ∀ (s : Shared) (u : Value), BindsTo s fd ⟨[u], []⟩ [(x, u)])
    (want : ∀ H : Hp, Only H → SqL K H a (ns.map V.int) → sp [.ref a] H (fun v _ => v = .bl true) fun _ _ _ => False) :
    codeAny (model P w) callerA (.call (.ref fa) ⟨[.ref a], []⟩) (fun r s' => r = .ok (.ret (.bool true)) ∧ OldK s₁.heap s'.heap ∧ s'.os = s₁.os ∧ AllBare s'.gens) s₁ := by
  have vals := vals_ints numb
  have many := numb.length
  have core : ∀ H : Hp, Only H → SqL K H a (ns.map V.int) → HOk P w H s₁.heap → (∀ b, H b ≠ none → b = a) → (H a ≠ none → K.lookup a = none) →
      codeAny (model P w) callerA (.call (.ref fa) ⟨[.ref a], []⟩) (fun r s' => r = .ok (.ret (.bool true)) ∧ OldK s₁.heap s'.heap ∧ s'.os = s₁.os ∧ AllBare s'.gens) s₁ := by
    intro H only seq lies one own
    have keep : ∀ {b : Addr} {o : Obj}, s₁.heap.get? b = some o → H b = none → (hidT s₁.heap H).get? b = some o := fun z n => hidT_get z n
    have dicts : ∀ {b : Addr} {o : Obj} {es : Array DictEntry} {ep : Nat}, s₁.heap.get? b = some o → o.data = .dict es ep → H b = none := fun {b o es ep} z d => by
      cases y : H b with
      | none => rfl
      | some u =>
        have same : b = a := one b (by rw [y]; simp)
        subst same
        rw [obj] at z; cases z
        have d' : Data.seq vs.toArray _ = Data.dict es ep := d
        cases d'
    have spaces : ∀ {b : Addr} {m : Str → Option Value}, s₁.heap.Ns b m → (hidT s₁.heap H).Ns b m := fun {b m} ⟨o, es, ep, z, d, r⟩ => ⟨o, es, ep, keep z (dicts z d), d, r⟩
    have kin' : K.In (hidT s₁.heap H) := fun b o z => keep (kin b o z) (by
      cases y : H b with
      | none => rfl
      | some u =>
        have same : b = a := one b (by rw [y]; simp)
        subst same
        rw [own (by rw [y]; simp)] at z; cases z)
    have mod : Mod K mg (hidT s₁.heap H) := ⟨kin', spaces main, ⟨mb, spaces blt, boot⟩, let ⟨mc, h1, h2⟩ := nolim; ⟨mc, spaces h1, h2⟩⟩
    have e0 : Env0 P w K mg (hidT s₁.heap H) callerA [] s₁ H := ⟨rfl, mod, fun b o z => of_hidT z, Nat.le_of_eq (hidT_size _ _), trivial, fun b z => absurd (show b ∈ ([] : List Addr) from z) (by simp), lies, .of_eq nogen⟩
    refine codeAny_mono ((F _ kin' (spaces main)).go callerA [] s₁ H ⟨[.ref a], []⟩ [.ref a] [.ref a] _ _ room rfl e0 (bound s₁ (.ref a)) (.cons rfl .nil) (want H only seq)) fun r s' z => ?_
    cases r with
    | error e =>
      obtain ⟨_, _, _, _, _, _, _, _, _, _, _, _, y⟩ := z
      exact y.elim
    | ok fl =>
      cases fl with
      | next => exact z.elim
      | brk => exact z.elim
      | cont => exact z.elim
      | ret u =>
        obtain ⟨v, H', os, bare, un, lies', rv, q⟩ := z
        have q : v = .bl true := q
        subst q
        obtain rfl : u = Value.bool true := rv
        refine ⟨rfl, OldK.of_keep fun b o z => ?_, os, bare⟩
        cases y : H b with
        | none => exact un.keep b o z y (by intro c; exact absurd (show b ∈ ([] : List Addr) from c) (by simp)) (by simp)
        | some u =>
          rcases only b with c | ⟨ob, xs, c⟩
          · rw [y] at c; cases c
          · have c2 := un.frzs b ob _ c
            obtain ⟨e1, _⟩ := lies b _ c
            obtain ⟨e2, _⟩ := lies' b _ c2
            rw [z] at e1; cases e1
            exact e2
  cases own : K.lookup a with
  | some o =>
    have z := kin a o own
    rw [obj] at z
    cases z
    exact core (fun _ => none) (fun _ => .inl rfl) (.inr ⟨_, vs.toArray, _, own, rfl, rfl, rfl, by rw [List.size_toArray, many]; exact few, by simpa using vals⟩) (fun b u y => by
      have y : (none : Option HO) = some u := y
      cases y) (fun b y => absurd rfl y) fun y => absurd rfl y
  | none =>
    refine core (fun b => if b = a then some (.frz { cls := .type "list", data := .seq vs.toArray } (.lst (ns.map V.int))) else none) (fun b => ?_) (.inl (.inr ⟨{ cls := .type "list", data := .seq vs.toArray }, if_pos rfl⟩)) (fun b u y => ?_) (fun b y => ?_) fun _ => own
    · rcases Decidable.em (b = a) with same | other
      · exact .inr ⟨_, _, if_pos same⟩
      · exact .inl (if_neg other)
    · rcases Decidable.em (b = a) with same | other
      · have c := (if_pos same).symm.trans y
        cases c
        subst same
        exact ⟨obj, by rw [List.length_map]; exact few, vs, _, vals, obj⟩
      · have c := (if_neg other).symm.trans y
        cases c
    · rcases Decidable.em (b = a) with same | other
      · exact same
      · exact absurd (if_neg other) y
/-- what the head leaves, from the promise of the law's def -/
theorem walk_g {l : PySem.W.OpenLaw} {n k : Nat} {q : Program} {loose : List Str} {XP : (Str → Option Value) → Heap → Prop} {YP : World → Heap → Prop} {d : DefRec} {K : Params → PySem.W.Frag} {sp : PySem.W.Frag → Sp} {x : Str}
    (most : l.most = some n) (few : n ≤ sizeLine) (nodef : d.params.defaults = []) (room : Room k callerA) (hY : ∀ (w : World) (h : Heap), YP w h → (K w.params).In h)
    (F : ∀ (w : World) (mg : Str → Option Value) (fa : Addr) (h : Heap), (K w.params).In h → h.Ns mainGlobals mg → mg d.name = some (.ref fa) →
      ∃ fd : FuncData, (∀ (s : Shared) (u : Value), BindsTo s fd ⟨[u], []⟩ [(x, u)]) ∧ ∀ base : Heap, (K w.params).In base → base.Ns mainGlobals mg → FnG l.prog w (K w.params) mg base k fa fd [x] (sp (K w.params)))
    (want : ∀ (K : PySem.W.Frag) (H : Hp) (a : Addr) (ns : List Int), ns.length ≤ n → (∀ z ∈ ns, Builtin.Int.intBits z ≤ 1048576) → Only H → SqL K H a (ns.map V.int) → sp K [.ref a] H (fun v _ => v = .bl true) fun _ _ _ => False) :
    PySem.W.WalkO q loose XP YP l.row.toRowW d [] (fun f vs => PySem.call f vs) := by
  refine Att.attach_callB most nodef fun w s₀ s₁ mg mb fa o pm cd doc a vs ns G Y ho hd hcd hmg hobj hints hlen hbits hg => ?_
  have kin := hY w _ Y
  obtain ⟨fd, hb, hF⟩ := F w mg fa _ kin G.T.g hmg
  exact head_call kin G.T.g G.T.b G.T.builtins G.T.nolimit hg hobj hints (Nat.le_trans hlen few) room hF hb fun H only seq => want _ H a ns hlen hbits only seq
end DL
set_option Elab.async false
set_option linter.all false
set_option maxRecDepth 100000
set_option maxHeartbeats 4000000
namespace DL
open PySem PySem.Spec PyProof.Rows L2

/-! ### what a def promises -/
structure ArgOk (T : Tb) (G H : Hp) (vs : List V) (sls : List Sl) : Prop where
  va : ∀ i d, gt sls i = .va d → ∃ v, vs[i]? = some v ∧ Rp T G d v
  ce : ∀ i b d, gt sls i = .ce b d → b = true ∧ ∃ p, vs[i]? = some (.ref p) ∧ G p = none ∧ Cp T G H p d
  dis : ∀ i j b d b' d' p, gt sls i = .ce b d → gt sls j = .ce b' d' → vs[i]? = some (.ref p) → vs[j]? = some (.ref p) → i = j
def IsC (vs : List V) (sls : List Sl) (p : Addr) : Prop := ∃ i d, gt sls i = .ce true d ∧ vs[i]? = some (.ref p)
/-- how the heap lies behind a call -/
structure Aft (T : Tb) (G H : Hp) (vs : List V) (sls sls' : List Sl) (G' H' : Hp) : Prop where
  ext : Sub G G' ∧ ∀ a o, G' a = some o → G a = some o ∨ H a = none
  fr : ∀ a o, H a = some o → ¬ IsC vs sls a → H' a = some o
  sub : Sub G' H'
  cel : ∀ i d, gt sls i = .ce true d → ∃ p d', vs[i]? = some (.ref p) ∧ gt sls' i = .ce true d' ∧ G' p = none ∧ Cp T G' H' p d'
def PVC (T : Tb) (H G' H' : Hp) : PV → V → Prop
  | .d d, v => Rp T G' d v
  | .nw d, v => ∃ p, v = .ref p ∧ H p = none ∧ G' p = none ∧ Cp T G' H' p d
  | .sl _, _ => False
abbrev FM := List Sl → R (PV × List Sl)
def OkC (T : Tb) (G H : Hp) (vs : List V) (sls : List Sl) (Q : VK) (E : XK) : R (PV × List Sl) → Prop
  | .ok (pv, s') => ∀ (v : V) (G' H' : Hp), Aft T G H vs sls s' G' H' → PVC T H G' H' pv v → Q v H'
  | .ex c d s' => ∀ (dct : Addr) (v : V) (f : Str) (G' H' : Hp), Aft T G H vs sls s' G' H' → Rp T G' d v → (T.cls c).2 = [f] → H' dct = some (.xd [(f, v)]) → E (.ref (T.cls c).1) (some dct) H'
  | .no => False
def spD (T : Tb) (n : Nat) (m : FM) : Sp := fun vs H Q E => vs.length = n ∧ ∃ (G : Hp) (sls : List Sl), Sub G H ∧ sls.length = n ∧ ArgOk T G H vs sls ∧ OkC T G H vs sls Q E (m sls)
/-- the caller's objects, as they are left -/
@[simp] def fin : List Sl → Env → Option (List Sl)
  | [], _ => some []
  | .ce true _ :: r, .ce true d :: e => (fin r e).map (Sl.ce true d :: ·)
  | .ce true _ :: _, _ => none
  | _ :: r, _ :: e => (fin r e).map (Sl.un :: ·)
  | _ :: _, [] => none
def mDef (n : Nat) (fb : FS) : FM := fun sls => match fb (sls ++ List.replicate (n - sls.length) .un) with
  | .rt (.sl _) _ => .no
  | .rt p e => match fin sls e with
    | some s' => .ok (p, s')
    | none => .no
  | .nx e => match fin sls e with
    | some s' => .ok (.d .non, s')
    | none => .no
  | .ex c d e => match fin sls e with
    | some s' => .ex c d s'
    | none => .no
  | _ => .no
theorem fin_get : ∀ {sls : List Sl} {e : Env} {s' : List Sl}, fin sls e = some s' → ∀ {i : Nat} {d : D}, gt sls i = .ce true d → ∃ d', gt e i = .ce true d' ∧ gt s' i = .ce true d'
  | [], _, _, _, i, d, q => by cases q
  | x :: r, e, s', h, i, d, q => by
    cases x with
    | un =>
      cases e with
      | nil => cases h
      | cons y e =>
        simp only [fin, Option.map_eq_some_iff] at h
        obtain ⟨s1, h1, rfl⟩ := h
        cases i with
        | zero => cases q
        | succ i => exact fin_get (sls := r) (e := e) h1 (i := i) q
    | va d0 =>
      cases e with
      | nil => cases h
      | cons y e =>
        simp only [fin, Option.map_eq_some_iff] at h
        obtain ⟨s1, h1, rfl⟩ := h
        cases i with
        | zero => cases q
        | succ i => exact fin_get (sls := r) (e := e) h1 (i := i) q
    | ce b d0 =>
      cases b with
      | false =>
        cases e with
        | nil => cases h
        | cons y e =>
          simp only [fin, Option.map_eq_some_iff] at h
          obtain ⟨s1, h1, rfl⟩ := h
          cases i with
          | zero => cases q
          | succ i => exact fin_get (sls := r) (e := e) h1 (i := i) q
      | true =>
        cases e with
        | nil => cases h
        | cons y e =>
          cases y with
          | un => cases h
          | va _ => cases h
          | ce b d1 =>
            cases b with
            | false => cases h
            | true =>
              simp only [fin, Option.map_eq_some_iff] at h
              obtain ⟨s1, h1, rfl⟩ := h
              cases i with
              | zero => exact ⟨d1, rfl, rfl⟩
              | succ i => exact fin_get (sls := r) (e := e) h1 (i := i) q
theorem gt_app_un : ∀ (s : List Sl) (n i : Nat), gt (s ++ List.replicate n .un) i = gt s i
  | [], 0, i => by cases i <;> rfl
  | [], n + 1, 0 => rfl
  | [], n + 1, i + 1 => by
    show gt ([] ++ List.replicate n .un) i = gt [] (i + 1)
    rw [gt_app_un [] n i]
    cases i <;> rfl
  | x :: s, n, 0 => rfl
  | x :: s, n, i + 1 => gt_app_un s n i

section
variable {P : Program} {w : World} {K : PySem.W.Frag} {mg : Str → Option Value} {base : Heap} {T : Tb}
open Classical in
theorem fn_okD {x qual : Str} {sd : Stmt} {f : Addr} {fd : FuncData} {N ps : List Str} {k : Nat} {fb : FS} (F : FnDf K x qual sd f fd) (S : FnScope N ps (defScope sd))
    (hb : ∀ (cdv : Value) (A : Around) (outer : List PySem.Env) (s : Shared) (H : Hp) (E : XK), Room k (A.deeper (envOfC qual (defScope sd) s.heap.objs.size f cdv)) → A.guards = some [] →
      ∃ t, SSs T (fun cls d _ H => E cls d H) (cxOf (L2.CX P w) P w K mg base N qual (defScope sd) f cdv A outer s H E) (defBody sd) t fb) :
    FnG P w K mg base (k + 1) f fd ps (spD T ps.length (mDef N.length fb)) := by
  refine fng_ofD F S (fun vs H Q E h => h.1) fun cdv A outer s H vs Q E hr gd ⟨hl, G, sls, sub, hsl, ok, h⟩ => ?_
  obtain ⟨t, p, q⟩ := hb cdv A outer s H E hr gd
  refine ⟨t, p, ?_⟩
  have hpl : ps.length ≤ N.length := by have := congrArg List.length S.pre; rw [List.length_take] at this; omega
  let Pr : Hp := fun a => if IsC vs sls a then none else H a
  let An : Nat → Option Addr := fun i => match gt sls i with
    | .ce true _ => match vs[i]? with
      | some (.ref p) => some p
      | _ => none
    | _ => none
  have hst : ∀ i, i < vs.length → (L2.start N vs)[i]? = (vs[i]?).map some := fun i hi => by
    unfold L2.start
    rw [List.getElem?_append_left (by simpa using hi), List.getElem?_map]
  have hlt : ∀ {i : Nat}, gt sls i ≠ .un → i < vs.length := fun {i} z => by rw [hl, ← hsl]; exact gt_lt z
  have anp : ∀ {i : Nat} {d : D} {p : Addr}, gt sls i = .ce true d → vs[i]? = some (.ref p) → An i = some p := fun {i d p} h1 h2 => by
    show (match gt sls i with | .ce true _ => (match vs[i]? with | some (.ref p) => some p | _ => none) | _ => none) = _
    rw [h1, h2]
  have s0 : SR ⟨T, Pr, An⟩ G H (L2.start N vs) (sls ++ List.replicate (N.length - sls.length) .un) := by
    refine ⟨fun a o z => ?_, sub, ?_, fun i d z => ?_, fun i b d z => ?_, fun i j b d b' d' p z1 z2 y1 y2 => ?_⟩
    · have z : (if IsC vs sls a then none else H a) = some o := z
      split at z
      · cases z
      · exact z
    · unfold L2.start
      simp only [List.length_append, List.length_replicate, List.length_map]
      omega
    · rw [gt_app_un] at z
      obtain ⟨v, h1, h2⟩ := ok.va i d z
      exact ⟨v, by rw [hst i (hlt (by rw [z]; intro y; cases y)), h1]; rfl, h2⟩
    · rw [gt_app_un] at z
      obtain ⟨hb, p, h1, h2, h3⟩ := ok.ce i b d z
      subst hb
      refine ⟨p, by rw [hst i (hlt (by rw [z]; intro y; cases y)), h1]; rfl, fun _ => anp z h1, ?_, h2, h3⟩
      show (if IsC vs sls p then none else H p) = none
      rw [if_pos ⟨i, d, z, h1⟩]
    · rw [gt_app_un] at z1 z2
      rw [hst i (hlt (by rw [z1]; intro y; cases y))] at y1
      rw [hst j (hlt (by rw [z2]; intro y; cases y))] at y2
      refine ok.dis i j b d b' d' p z1 z2 ?_ ?_
      · cases e : vs[i]? with
        | none => rw [e] at y1; cases y1
        | some v => rw [e] at y1; cases y1; rfl
      · cases e : vs[j]? with
        | none => rw [e] at y2; cases y2
        | some v => rw [e] at y2; cases y2; rfl
  refine q Pr An G H (L2.start N vs) _ _ s0 ?_
  have aft : ∀ {e : Env} {s' : List Sl} {σ' : St} {G' H' : Hp}, fin sls e = some s' → Ext Pr G G' → SR ⟨T, Pr, An⟩ G' H' σ' e → Aft T G H vs sls s' G' H' := fun {e s' σ' G' H'} hf x s1 => by
    have cel : ∀ i d, gt sls i = .ce true d → ∃ p d', vs[i]? = some (.ref p) ∧ gt s' i = .ce true d' ∧ G' p = none ∧ Cp T G' H' p d' := fun i d z => by
      obtain ⟨d', g1, g2⟩ := fin_get hf z
      obtain ⟨_, p, h1, _, _⟩ := ok.ce i true d z
      obtain ⟨p', y1, y2, y3, y4, y5⟩ := s1.ce i true d' g1
      have this : An i = some p' := y2 rfl
      rw [anp z h1] at this
      cases this
      exact ⟨p, d', h1, g2, y4, y5⟩
    refine ⟨⟨x.1, fun a o z => ?_⟩, fun a o z hn => s1.prot a o ?_, s1.sub, cel⟩
    · rcases x.2 a o z with y | y
      · exact .inl y
      · have y : (if IsC vs sls a then none else H a) = none := y
        split at y
        · rename_i hc
          obtain ⟨i, d, h1, h2⟩ := hc
          obtain ⟨p, d', g1, g2, g3, _⟩ := cel i d h1
          rw [h2] at g1; cases g1
          rw [g3] at z; cases z
        · exact .inr y
    · show (if IsC vs sls a then none else H a) = some o
      rw [if_neg hn]; exact z
  have off : ∀ {e : Env} {s' : List Sl} {σ' : St} {G' H' : Hp} {p : PV} {v : V}, fin sls e = some s' → Ext Pr G G' → SR ⟨T, Pr, An⟩ G' H' σ' e → (∀ i, p ≠ .sl i) → PVR ⟨T, Pr, An⟩ G' H' σ' e p v → PVC T H G' H' p v := fun {e s' σ' G' H' p v} hf x s1 hn r => by
    cases p with
    | d d => exact r
    | sl i => exact absurd rfl (hn i)
    | nw d =>
      obtain ⟨p, rfl, h1, h2, h3, h4⟩ := r
      refine ⟨p, rfl, ?_, h2, h4⟩
      have h1 : (if IsC vs sls p then none else H p) = none := h1
      split at h1
      · rename_i hc
        obtain ⟨i, d0, y1, y2⟩ := hc
        obtain ⟨d', g1, g2⟩ := fin_get hf y1
        obtain ⟨p', z1, z2, _⟩ := s1.ce i true d' g1
        have this : An i = some p' := z2 rfl
        rw [anp y1 y2] at this
        cases this
        exact absurd z1 (h3 i true d' g1)
      · exact h1
  unfold mDef at h
  revert h
  cases fb (sls ++ List.replicate (N.length - sls.length) .un) with
  | rt p e =>
    cases p with
    | sl i => exact fun h => h.elim
    | d d =>
      intro h σ' v G' H' x s1 r
      dsimp only at h
      split at h
      · rename_i s' hf
        exact h v G' H' (aft hf x s1) (off hf x s1 (fun i z => by cases z) r)
      · exact h.elim
    | nw d =>
      intro h σ' v G' H' x s1 r
      dsimp only at h
      split at h
      · rename_i s' hf
        exact h v G' H' (aft hf x s1) (off hf x s1 (fun i z => by cases z) r)
      · exact h.elim
  | nx e =>
    intro h σ' G' H' x s1
    dsimp only at h
    split at h
    · rename_i s' hf
      exact h .non G' H' (aft hf x s1) (by show Rp _ _ _ _; simp only [Rp])
    · exact h.elim
  | ex c d e =>
    intro h dct v f σ' G' H' x s1 r n y
    dsimp only at h
    split at h
    · rename_i s' hf
      exact h dct v f G' H' (aft hf x s1) r n y
    · exact h.elim
  | bk e => exact fun h => h.elim
  | ct e => exact fun h => h.elim
  | no => exact fun h => h.elim
theorem fn_ok {x qual : Str} {sd : Stmt} {f : Addr} {fd : FuncData} {N ps : List Str} {k : Nat} {fb : FS} (F : Fun K x qual sd f fd) (S : FnScope N ps (defScope sd))
    (hb : ∀ (cdv : Value) (A : Around) (outer : List PySem.Env) (s : Shared) (H : Hp) (E : XK), Room k (A.deeper (envOfC qual (defScope sd) s.heap.objs.size f cdv)) → A.guards = some [] →
      ∃ t, SSs T (fun cls d _ H => E cls d H) (cxOf (L2.CX P w) P w K mg base N qual (defScope sd) f cdv A outer s H E) (defBody sd) t fb) :
    FnG P w K mg base (k + 1) f fd ps (spD T ps.length (mDef N.length fb)) := fn_okD (fun_toD F) S hb
end

/-! ### calls -/
/-- the arguments: those handed over as data are frozen -/
@[simp] def pass1 (e : Env) : List Bool → List PV → R (List PV × Env)
  | _, [] => .ok ([], e)
  | true :: ms, .sl i :: ps => do
    let (ps', e1) ← pass1 e ms ps
    .ok (.sl i :: ps', e1)
  | true :: _, _ :: _ => .no
  | m, p :: ps => do
    let (d, e1) ← settle e p
    let (ps', e2) ← pass1 e1 m.tail ps
    .ok (.d d :: ps', e2)
@[simp] def toSl (e : Env) : List PV → Option (List Sl)
  | [] => some []
  | .d d :: ps => (toSl e ps).map (Sl.va d :: ·)
  | .sl i :: ps => match gt e i with
    | .ce _ d => (toSl e ps).map (Sl.ce true d :: ·)
    | _ => none
  | .nw _ :: _ => none
@[simp] def refs : List PV → List Nat
  | [] => []
  | .sl i :: ps => i :: refs ps
  | _ :: ps => refs ps
@[simp] def nodupB : List Nat → Bool
  | [] => true
  | i :: r => !r.contains i && nodupB r
/-- the caller's names hold what the callee left -/
@[simp] def upds (e : Env) : List PV → List Sl → Env
  | [], _ => e
  | .sl i :: ps, .ce true d :: s => upds (match gt e i with | .ce b _ => st e i (.ce b d) | _ => e) ps s
  | _ :: ps, _ :: s => upds e ps s
  | _ :: _, [] => e
def fCall (m : FM) (ms : List Bool) (dfl : List D) (fa : FA) : FE := fun e => do
  let (ps, e1) ← fa e
  let (ps', e2) ← pass1 e1 ms ps
  let sls ← R.of (if nodupB (refs ps') then toSl e2 ps' else none)
  match m (sls ++ dfl.map Sl.va) with
  | .ok (p, s') => .ok (p, upds e2 ps' s')
  | .ex c d s' => .ex c d (upds e2 ps' s')
  | .no => .no
section
variable {T : Tb} {W : WX} {X : Cx} {F : Fx} {G G1 H : Hp} {σ : St} {e e1 : Env}
def PVh (F : Fx) (G : Hp) (σ : St) (p : PV) (v : V) : Prop := match p with | .d d => Rp F.T G d v | .sl i => σ[i]? = some (some v) | .nw _ => False
theorem PVL.at : ∀ {ps : List PV} {vs : List V}, PVL F G σ ps vs → ∀ {i : Nat} {p : PV}, ps[i]? = some p → ∃ v, vs[i]? = some v ∧ PVh F G σ p v
  | [], _, _, i, p, q => by simp at q
  | p0 :: ps, _, ⟨v, r, h1, h2, h3⟩, 0, p, q => by
    simp at q; subst q; subst h1
    exact ⟨v, rfl, h2⟩
  | p0 :: ps, _, ⟨v, r, h1, h2, h3⟩, i + 1, p, q => by
    subst h1
    exact PVL.at h3 (i := i) (by simpa using q)
theorem pass1_ok : ∀ {ms : List Bool} {ps : List PV} {vs : List V} {G : Hp} {e : Env} {ps' : List PV} {e' : Env}, SR F G H σ e → PVL F G σ ps vs → pass1 e ms ps = .ok (ps', e') → ∃ G', Ext F.Pr G G' ∧ SR F G' H σ e' ∧ PVL F G' σ ps' vs := by
  intro ms ps
  induction ps generalizing ms with
  | nil =>
    intro vs G e ps' e' s h hp
    simp only [pass1] at hp
    cases hp
    exact ⟨G, Ext.refl, s, h⟩
  | cons p ps ih =>
    intro vs G e ps' e' s h hp
    obtain ⟨v, r, rfl, h2, h3⟩ := h
    have val : ∀ m, (do
        let (d, e1) ← settle e p
        let (ps', e2) ← pass1 e1 m ps
        R.ok (PV.d d :: ps', e2)) = .ok (ps', e') → ∃ G', Ext F.Pr G G' ∧ SR F G' H σ e' ∧ PVL F G' σ ps' (v :: r) := fun m hp => by
      cases q1 : settle e p with
      | no => rw [q1] at hp; cases hp
      | ex _ _ _ => rw [q1] at hp; cases hp
      | ok a =>
        obtain ⟨d, e1⟩ := a
        rw [q1] at hp
        simp only [R.bind_ok] at hp
        cases q2 : pass1 e1 m ps with
        | no => rw [q2] at hp; cases hp
        | ex _ _ _ => rw [q2] at hp; cases hp
        | ok b =>
          obtain ⟨ps1, e2⟩ := b
          rw [q2] at hp
          simp only [R.bind_ok] at hp
          cases hp
          have hv : PVR F G H σ e p v := by cases p <;> first | exact h2 | exact h2.elim
          obtain ⟨G1, x1, s1, r1⟩ := settle_ok s hv q1
          obtain ⟨G2, x2, s2, r2⟩ := ih s1 (h3.mono x1.1) q2
          exact ⟨G2, x1.trans x2, s2, v, r, rfl, Rp.mono x2.1 _ _ r1, r2⟩
    cases ms with
    | nil => simp only [pass1] at hp; exact val _ hp
    | cons m ms =>
      cases m with
      | false => simp only [pass1] at hp; exact val _ hp
      | true =>
        cases p with
        | d d => simp only [pass1] at hp; cases hp
        | nw d => simp only [pass1] at hp; cases hp
        | sl i =>
          simp only [pass1] at hp
          cases q2 : pass1 e ms ps with
          | no => rw [q2] at hp; cases hp
          | ex _ _ _ => rw [q2] at hp; cases hp
          | ok b =>
            obtain ⟨ps1, e2⟩ := b
            rw [q2] at hp
            simp only [R.bind_ok] at hp
            cases hp
            obtain ⟨G2, x2, s2, r2⟩ := ih s h3 q2
            exact ⟨G2, x2, s2, v, r, rfl, h2, r2⟩
theorem pass1_nx : ∀ {ms : List Bool} {ps : List PV} {e : Env} {c d e'}, pass1 e ms ps ≠ .ex c d e' := by
  intro ms ps
  induction ps generalizing ms with
  | nil => intro e c d e'; simp only [pass1]; intro z; cases z
  | cons p ps ih =>
    intro e c d e'
    have val : ∀ m, (do
        let (d, e1) ← settle e p
        let (ps', e2) ← pass1 e1 m ps
        R.ok (PV.d d :: ps', e2)) ≠ .ex c d e' := fun m hp => by
      cases q1 : settle e p with
      | no => rw [q1] at hp; cases hp
      | ex _ _ _ => exact settle_nx q1
      | ok a =>
        obtain ⟨d, e1⟩ := a
        rw [q1] at hp
        simp only [R.bind_ok] at hp
        cases q2 : pass1 e1 m ps with
        | no => rw [q2] at hp; cases hp
        | ex _ _ _ => exact ih q2
        | ok b => rw [q2] at hp; cases hp
    cases ms with
    | nil => simp only [pass1]; exact val _
    | cons m ms =>
      cases m with
      | false => simp only [pass1]; exact val _
      | true =>
        cases p with
        | d d => simp only [pass1]; intro z; cases z
        | nw d => simp only [pass1]; intro z; cases z
        | sl i =>
          simp only [pass1]
          cases q2 : pass1 e ms ps with
          | no => intro z; cases z
          | ex _ _ _ => exact absurd q2 ih
          | ok b => intro z; cases z
theorem toSl_at : ∀ {ps : List PV} {sls : List Sl}, toSl e ps = some sls → sls.length = ps.length ∧ ∀ i, (∀ d, gt sls i = .va d → ps[i]? = some (.d d)) ∧ (∀ b d, gt sls i = .ce b d → b = true ∧ ∃ j b', ps[i]? = some (.sl j) ∧ gt e j = .ce b' d)
  | [], sls, h => by
    cases h
    exact ⟨rfl, fun i => ⟨fun d q => (by cases q), fun b d q => (by cases q)⟩⟩
  | .nw _ :: ps, sls, h => by cases h
  | .d d0 :: ps, sls, h => by
    simp only [toSl, Option.map_eq_some_iff] at h
    obtain ⟨s1, h1, rfl⟩ := h
    obtain ⟨l, k⟩ := toSl_at h1
    refine ⟨by simp [l], fun i => ?_⟩
    cases i with
    | zero => exact ⟨fun d q => (by cases q; rfl), fun b d q => (by cases q)⟩
    | succ i => exact ⟨fun d q => by simpa using (k i).1 d q, fun b d q => by simpa using (k i).2 b d q⟩
  | .sl j :: ps, sls, h => by
    simp only [toSl] at h
    split at h
    · rename_i b' d' hj
      simp only [Option.map_eq_some_iff] at h
      obtain ⟨s1, h1, rfl⟩ := h
      obtain ⟨l, k⟩ := toSl_at h1
      refine ⟨by simp [l], fun i => ?_⟩
      cases i with
      | zero => exact ⟨fun d q => (by cases q), fun b d q => (by cases q; exact ⟨rfl, j, b', rfl, hj⟩)⟩
      | succ i => exact ⟨fun d q => by simpa using (k i).1 d q, fun b d q => by simpa using (k i).2 b d q⟩
    · cases h
theorem refs_mem : ∀ {ps : List PV} {i j : Nat}, ps[i]? = some (.sl j) → j ∈ refs ps
  | [], i, j, h => by simp at h
  | p :: ps, 0, j, h => by simp at h; subst h; exact List.mem_cons_self
  | p :: ps, i + 1, j, h => by
    have := refs_mem (ps := ps) (i := i) (j := j) (by simpa using h)
    cases p with
    | sl k => exact List.mem_cons_of_mem _ this
    | d _ => exact this
    | nw _ => exact this
theorem nodup_ref : ∀ {ps : List PV} {i j k : Nat}, nodupB (refs ps) = true → ps[i]? = some (.sl k) → ps[j]? = some (.sl k) → i = j
  | [], i, j, k, _, h, _ => by simp at h
  | p :: ps, i, j, k, hn, h1, h2 => by
    have tl : nodupB (refs ps) = true := by
      cases p with
      | sl m => simp only [refs, nodupB, Bool.and_eq_true] at hn; exact hn.2
      | d _ => exact hn
      | nw _ => exact hn
    cases i with
    | zero =>
      cases j with
      | zero => rfl
      | succ j =>
        simp at h1; subst h1
        simp only [refs, nodupB, Bool.and_eq_true, Bool.not_eq_true', List.contains_eq_mem, decide_eq_false_iff_not] at hn
        exact absurd (refs_mem (ps := ps) (i := j) (j := k) (by simpa using h2)) hn.1
    | succ i =>
      cases j with
      | zero =>
        simp at h2; subst h2
        simp only [refs, nodupB, Bool.and_eq_true, Bool.not_eq_true', List.contains_eq_mem, decide_eq_false_iff_not] at hn
        exact absurd (refs_mem (ps := ps) (i := i) (j := k) (by simpa using h1)) hn.1
      | succ j => rw [nodup_ref (ps := ps) (i := i) (j := j) (k := k) tl (by simpa using h1) (by simpa using h2)]
theorem args_ok {ps : List PV} {vs : List V} {sls : List Sl} (s : SR F G H σ e) (h : PVL F G σ ps vs) (hn : nodupB (refs ps) = true) (ht : toSl e ps = some sls) : sls.length = vs.length ∧ ArgOk F.T G H vs sls := by
  obtain ⟨l, k⟩ := toSl_at ht
  refine ⟨by rw [l, PVL.length h], fun i d q => ?_, fun i b d q => ?_, fun i j b d b' d' p q1 q2 y1 y2 => ?_⟩
  · obtain ⟨v, h1, h2⟩ := h.at ((k i).1 d q)
    exact ⟨v, h1, h2⟩
  · obtain ⟨rfl, j, b', h1, h2⟩ := (k i).2 b d q
    obtain ⟨v, h3, h4⟩ := h.at h1
    obtain ⟨p, z1, z2, z3, z4, z5⟩ := s.ce j b' d h2
    have h4' : σ[j]? = some (some v) := h4
    rw [h4'] at z1; cases z1
    exact ⟨rfl, p, h3, z4, z5⟩
  · obtain ⟨_, j1, c1, g1, g2⟩ := (k i).2 b d q1
    obtain ⟨_, j2, c2, g3, g4⟩ := (k j).2 b' d' q2
    obtain ⟨v1, a1, a2⟩ := h.at g1
    obtain ⟨v2, a3, a4⟩ := h.at g3
    rw [y1] at a1; cases a1
    rw [y2] at a3; cases a3
    have : j1 = j2 := s.dis j1 j2 c1 d c2 d' p g2 g4 a2 a4
    subst this
    exact nodup_ref hn g1 g3
theorem upds_nil {s' : List Sl} {e : Env} : upds e [] s' = e := by cases s' <;> simp only [upds]
theorem upds_nil2 {p : PV} {ps : List PV} {e : Env} : upds e (p :: ps) [] = e := by cases p <;> simp only [upds]
theorem gt_upds : ∀ {ps : List PV} {s' : List Sl} {e : Env} {j : Nat} {x : Sl}, gt (upds e ps s') j = x → (∃ k b d d', ps[k]? = some (.sl j) ∧ gt s' k = .ce true d' ∧ gt e j = .ce b d ∧ x = .ce b d') ∨ ((∀ k d', ps[k]? = some (.sl j) → gt s' k = .ce true d' → ∀ b d, gt e j ≠ .ce b d) ∧ gt e j = x)
  | [], s', e, j, x, h => .inr ⟨fun k d' q => (by simp at q), (by rw [upds_nil] at h; exact h)⟩
  | p :: ps, [], e, j, x, h => by
    rw [upds_nil2] at h
    exact .inr ⟨fun k d' q z => (by cases z), h⟩
  | p :: ps, y :: s', e, j, x, h => by
    have skip : upds e (p :: ps) (y :: s') = upds e ps s' → (∀ i d, p = .sl i → y = .ce true d → False) → (∃ k b d d', (p :: ps)[k]? = some (.sl j) ∧ gt (y :: s') k = .ce true d' ∧ gt e j = .ce b d ∧ x = .ce b d') ∨ ((∀ k d', (p :: ps)[k]? = some (.sl j) → gt (y :: s') k = .ce true d' → ∀ b d, gt e j ≠ .ce b d) ∧ gt e j = x) := fun q hn => by
      rw [q] at h
      rcases gt_upds h with ⟨k, b, d, d', h1, h2, h3, h4⟩ | ⟨h1, h2⟩
      · exact .inl ⟨k + 1, b, d, d', by simpa using h1, h2, h3, h4⟩
      · refine .inr ⟨fun k d' q1 q2 => ?_, h2⟩
        cases k with
        | zero => simp at q1; exact (hn _ _ q1 q2).elim
        | succ k => exact h1 k d' (by simpa using q1) q2
    cases p with
    | d _ => exact skip rfl (fun i d z => by cases z)
    | nw _ => exact skip rfl (fun i d z => by cases z)
    | sl i =>
      cases y with
      | un => exact skip rfl (fun i d _ z => by cases z)
      | va _ => exact skip rfl (fun i d _ z => by cases z)
      | ce b0 d0 =>
        cases b0 with
        | false => exact skip rfl (fun i d _ z => by cases z)
        | true =>
          have e1 : upds e (.sl i :: ps) (.ce true d0 :: s') = upds (match gt e i with | .ce b _ => st e i (.ce b d0) | _ => e) ps s' := rfl
          rw [e1] at h
          cases hi : gt e i with
          | un =>
            rw [hi] at h
            rcases gt_upds h with ⟨k, b, d, d', h1, h2, h3, h4⟩ | ⟨h1, h2⟩
            · exact .inl ⟨k + 1, b, d, d', by simpa using h1, h2, h3, h4⟩
            · refine .inr ⟨fun k d' q1 q2 => ?_, h2⟩
              cases k with
              | zero => simp at q1; subst q1; intro b d z; rw [hi] at z; cases z
              | succ k => exact h1 k d' (by simpa using q1) q2
          | va dv =>
            rw [hi] at h
            rcases gt_upds h with ⟨k, b, d, d', h1, h2, h3, h4⟩ | ⟨h1, h2⟩
            · exact .inl ⟨k + 1, b, d, d', by simpa using h1, h2, h3, h4⟩
            · refine .inr ⟨fun k d' q1 q2 => ?_, h2⟩
              cases k with
              | zero => simp at q1; subst q1; intro b d z; rw [hi] at z; cases z
              | succ k => exact h1 k d' (by simpa using q1) q2
          | ce b1 d1 =>
            rw [hi] at h
            have hl : i < e.length := gt_lt (by rw [hi]; intro z; cases z)
            rcases gt_upds h with ⟨k, b, d, d', h1, h2, h3, h4⟩ | ⟨h1, h2⟩
            · rw [gt_st] at h3
              split at h3
              · rename_i q
                cases h3
                exact .inl ⟨k + 1, b1, d1, d', by simpa using h1, h2, by rw [q.1]; exact hi, h4⟩
              · exact .inl ⟨k + 1, b, d, d', by simpa using h1, h2, h3, h4⟩
            · rw [gt_st] at h2
              split at h2
              · rename_i q
                exact .inl ⟨0, b1, d1, d0, by rw [q.1]; rfl, rfl, by rw [q.1]; exact hi, h2.symm⟩
              · rename_i q
                refine .inr ⟨fun k d' q1 q2 => ?_, h2⟩
                cases k with
                | zero => simp at q1; exact absurd ⟨q1.symm, hl⟩ q
                | succ k =>
                  intro b d z
                  refine h1 k d' (by simpa using q1) q2 b d ?_
                  rw [gt_st, if_neg q]; exact z
theorem upds_len : ∀ {ps : List PV} {s' : List Sl} {e : Env}, (upds e ps s').length = e.length
  | [], s', e => by rw [upds_nil]
  | p :: ps, [], e => by rw [upds_nil2]
  | p :: ps, y :: s', e => by
    have skip : upds e (p :: ps) (y :: s') = upds e ps s' → (upds e (p :: ps) (y :: s')).length = e.length := fun q => by rw [q]; exact upds_len
    cases p with
    | d _ => exact skip rfl
    | nw _ => exact skip rfl
    | sl i =>
      cases y with
      | un => exact skip rfl
      | va _ => exact skip rfl
      | ce b0 d0 =>
        cases b0 with
        | false => exact skip rfl
        | true =>
          show (upds (match gt e i with | .ce b _ => st e i (.ce b d0) | _ => e) ps s').length = _
          rw [upds_len]
          split
          · rw [st_len]
          · rfl
theorem ArgOk.app {vs dvs : List V} {sls : List Sl} {dfl : List D} (h : ArgOk T G H vs sls) (hl : sls.length = vs.length) (r : RpL T G dfl dvs) : ArgOk T G H (vs ++ dvs) (sls ++ dfl.map Sl.va) := by
  have key : ∀ {sls : List Sl} {i : Nat} {x : Sl}, gt (sls ++ dfl.map Sl.va) i = x → x ≠ .un → (i < sls.length ∧ gt sls i = x) ∨ (sls.length ≤ i ∧ ∃ d, dfl[i - sls.length]? = some d ∧ x = .va d) := by
    intro sls
    induction sls with
    | nil =>
      intro i x q hx
      refine .inr ⟨Nat.zero_le _, ?_⟩
      replace q : gt (dfl.map Sl.va) i = x := q
      clear r
      revert i
      induction dfl with
      | nil => intro i q; exact absurd q.symm hx
      | cons d ds ih =>
        intro i q
        cases i with
        | zero => exact ⟨d, rfl, q.symm⟩
        | succ i =>
          obtain ⟨d', h1, h2⟩ := ih (i := i) q
          exact ⟨d', by simpa using h1, h2⟩
    | cons y sls ih =>
      intro i x q hx
      cases i with
      | zero => exact .inl ⟨Nat.succ_pos _, q⟩
      | succ i =>
        rcases ih (i := i) q hx with ⟨a, b⟩ | ⟨a, d, b, c⟩
        · exact .inl ⟨Nat.succ_lt_succ a, b⟩
        · exact .inr ⟨Nat.succ_le_succ a, d, by simpa using b, c⟩
  have get1 : ∀ {i : Nat} {v : V}, i < sls.length → (vs ++ dvs)[i]? = some v → vs[i]? = some v := fun {i v} hi q => by
    rw [List.getElem?_append_left (by omega)] at q; exact q
  refine ⟨fun i d q => ?_, fun i b d q => ?_, fun i j b d b' d' p q1 q2 y1 y2 => ?_⟩
  · rcases key q (by intro z; cases z) with ⟨a, b⟩ | ⟨a, d', b, c⟩
    · obtain ⟨v, h1, h2⟩ := h.va i d b
      exact ⟨v, by rw [List.getElem?_append_left (by omega)]; exact h1, h2⟩
    · cases c
      obtain ⟨v, h1, h2⟩ := r.get b
      exact ⟨v, by rw [List.getElem?_append_right (by omega), ← hl]; exact h1, h2⟩
  · rcases key q (by intro z; cases z) with ⟨a, b'⟩ | ⟨a, d', _, c⟩
    · obtain ⟨h0, p, h1, h2⟩ := h.ce i b d b'
      exact ⟨h0, p, by rw [List.getElem?_append_left (by omega)]; exact h1, h2⟩
    · cases c
  · rcases key q1 (by intro z; cases z) with ⟨a, b1⟩ | ⟨a, d1, _, c⟩
    · rcases key q2 (by intro z; cases z) with ⟨a', b2⟩ | ⟨a', d2, _, c⟩
      · exact h.dis i j b d b' d' p b1 b2 (get1 a y1) (get1 a' y2)
      · cases c
    · cases c
theorem gt_app_lt : ∀ {s t : List Sl} {i : Nat}, i < s.length → gt (s ++ t) i = gt s i
  | [], _, _, h => absurd h (Nat.not_lt_zero _)
  | _ :: _, _, 0, _ => rfl
  | _ :: s, t, i + 1, h => gt_app_lt (s := s) (t := t) (i := i) (Nat.lt_of_succ_lt_succ h)
/-- behind a call -/
theorem call_aft {ps : List PV} {vs dvs : List V} {sls s' : List Sl} {dfl : List D} {G' H' : Hp} (s : SR F G H σ e) (h : PVL F G σ ps vs) (ht : toSl e ps = some sls) (a : Aft F.T G H (vs ++ dvs) (sls ++ dfl.map Sl.va) s' G' H') :
    Ext F.Pr G G' ∧ SR F G' H' σ (upds e ps s') := by
  obtain ⟨l, k⟩ := toSl_at ht
  have hl : sls.length = vs.length := by rw [l, PVL.length h]
  have gapp : ∀ {sls : List Sl} {i : Nat} {d : D}, gt (sls ++ dfl.map Sl.va) i = .ce true d → gt sls i = .ce true d := by
    intro sls
    induction sls with
    | nil =>
      intro i d q
      replace q : gt (dfl.map Sl.va) i = .ce true d := q
      exfalso
      clear a
      revert i
      induction dfl with
      | nil => intro i q; cases q
      | cons d0 ds ih =>
        intro i q
        cases i with
        | zero => cases q
        | succ i => exact ih (i := i) q
    | cons y sls ih =>
      intro i d q
      cases i with
      | zero => exact q
      | succ i => exact ih (i := i) q
  -- a cell of the callee's is a name of ours that was handed over
  have isc : ∀ {p : Addr}, IsC (vs ++ dvs) (sls ++ dfl.map Sl.va) p → ∃ i j b d, ps[i]? = some (.sl j) ∧ gt e j = .ce b d ∧ σ[j]? = some (some (.ref p)) ∧ gt sls i = .ce true d := fun {p} ⟨i, d, q1, q2⟩ => by
    have q1 := gapp q1
    obtain ⟨_, j, b', g1, g2⟩ := (k i).2 true d q1
    have hi : i < sls.length := gt_lt (by rw [q1]; intro z; cases z)
    rw [List.getElem?_append_left (by omega)] at q2
    obtain ⟨v, y1, y2⟩ := h.at g1
    rw [q2] at y1; cases y1
    exact ⟨i, j, b', d, g1, g2, y2, q1⟩
  have x : Ext F.Pr G G' := ⟨a.ext.1, fun y o z => (a.ext.2 y o z).imp id fun q => by
    cases w : F.Pr y with
    | none => rfl
    | some u => rw [s.prot y u w] at q; cases q⟩
  have handed : ∀ {i j : Nat} {b : Bool} {d : D}, ps[i]? = some (.sl j) → gt e j = .ce b d → gt sls i = .ce true d := fun {i j b d} q1 q2 => by
    clear a k gapp isc l hl x h s
    induction ps generalizing i sls with
    | nil => simp at q1
    | cons p ps ih =>
      cases p with
      | nw _ => cases ht
      | d d0 =>
        simp only [toSl, Option.map_eq_some_iff] at ht
        obtain ⟨s1, h1, rfl⟩ := ht
        cases i with
        | zero => simp at q1
        | succ i => exact ih h1 (by simpa using q1)
      | sl m =>
        simp only [toSl] at ht
        split at ht
        · rename_i b0 d0 h0
          simp only [Option.map_eq_some_iff] at ht
          obtain ⟨s1, h1, rfl⟩ := ht
          cases i with
          | zero => simp at q1; subst q1; rw [q2] at h0; cases h0; rfl
          | succ i => exact ih h1 (by simpa using q1)
        · cases ht
  refine ⟨x, fun y o z => a.fr y o (s.prot y o z) fun hc => ?_, a.sub, by rw [upds_len]; exact s.len, fun j d q => ?_, fun j b d q => ?_, fun i j b d b' d' p q1 q2 y1 y2 => ?_⟩
  · obtain ⟨i, j, b, d, g1, g2, g3, _⟩ := isc hc
    obtain ⟨p, z1, z2, z3, _⟩ := s.ce j b d g2
    rw [g3] at z1; cases z1
    rw [z3] at z; cases z
  · rcases gt_upds q with ⟨k', b, d0, d', _, _, _, g⟩ | ⟨_, g⟩
    · cases g
    · obtain ⟨v, h1, h2⟩ := s.va j d g
      exact ⟨v, h1, Rp.mono a.ext.1 _ _ h2⟩
  · rcases gt_upds q with ⟨k', b1, d0, d', g1, g2, g3, g⟩ | ⟨gn, g⟩
    · cases g
      obtain ⟨p, z1, z2, z3, z4, z5⟩ := s.ce j b d0 g3
      have g4 := handed g1 g3
      have g5 : gt (sls ++ dfl.map Sl.va) k' = .ce true d0 := by
        have hi : k' < sls.length := gt_lt (by rw [g4]; intro z; cases z)
        rw [gt_app_lt hi]; exact g4
      obtain ⟨p', d2, y1, y2, y3, y4⟩ := a.cel k' d0 g5
      rw [g2] at y2; cases y2
      obtain ⟨v, w1, w2⟩ := h.at g1
      have w2' : σ[j]? = some (some v) := w2
      rw [z1] at w2'; cases w2'
      have hi : k' < sls.length := gt_lt (by rw [g4]; intro z; cases z)
      rw [List.getElem?_append_left (by omega)] at y1
      rw [w1] at y1; cases y1
      exact ⟨p, z1, z2, z3, y3, y4⟩
    · obtain ⟨p, z1, z2, z3, z4, z5⟩ := s.ce j b d g
      have nc : ¬ IsC (vs ++ dvs) (sls ++ dfl.map Sl.va) p := fun hc => by
        obtain ⟨i, j', b', d', g1, g2, g3, g4⟩ := isc hc
        have : j' = j := s.dis j' j b' d' b d p g2 g g3 z1
        subst this
        have hi : i < sls.length := gt_lt (by rw [g4]; intro z; cases z)
        obtain ⟨p', d2, _, y2, _, _⟩ := a.cel i d' (by rw [gt_app_lt hi]; exact g4)
        exact gn i d2 g1 y2 b d g
      obtain ⟨o, ho⟩ := z5.here
      refine ⟨p, z1, z2, z3, ?_, z5.mono a.ext.1 fun o' ho' => a.fr p o' ho' nc⟩
      cases w : G' p with
      | none => rfl
      | some u =>
        rcases a.ext.2 p u w with q | q
        · rw [z4] at q; cases q
        · rw [ho] at q; cases q
  · have was : ∀ {j : Nat} {b : Bool} {d : D}, gt (upds e ps s') j = .ce b d → ∃ b0 d0, gt e j = .ce b0 d0 := fun {j b d} q => by
      rcases gt_upds q with ⟨_, b1, d0, _, _, _, g3, _⟩ | ⟨_, g⟩
      · exact ⟨b1, d0, g3⟩
      · exact ⟨b, d, g⟩
    obtain ⟨c1, f1, g1⟩ := was q1
    obtain ⟨c2, f2, g2⟩ := was q2
    exact s.dis i j c1 f1 c2 f2 p g1 g2 y1 y2
theorem fcall_run {ta : TA} {m : FM} {ms : List Bool} {dfl : List D} {dvs : List V} {fa : FA} {n : Nat} (qa : ∀ (Pr : Hp) (A : Nat → Option Addr) (G H : Hp) (σ : St) (e : Env) (Q : List V → Hp → Prop), SR ⟨T, Pr, A⟩ G H σ e → OkE ⟨T, Pr, A⟩ W σ G Q (fun G' _ _ ps vs => PVL ⟨T, Pr, A⟩ G' σ ps vs) (fa e) → ta σ H Q)
    (hd : ∀ G, RpL T G dfl dvs) (hn : ∀ vs : List V, vs.length = (ms.length) → (vs ++ dvs).length = n) (hz : ∀ e ps e', fa e = .ok (ps, e') → ps.length = ms.length) (Pr : Hp) (A : Nat → Option Addr) (G H : Hp) (σ : St) (e : Env) (Q : VK)
    (s : SR ⟨T, Pr, A⟩ G H σ e) (h : OkE ⟨T, Pr, A⟩ W σ G Q (rPV ⟨T, Pr, A⟩ σ) (fCall m ms dfl fa e)) : tCallG ms.length (spD T n m) (· ++ dvs) (WE W) ta σ H Q := by
  refine qa Pr A G H σ e _ s ?_
  cases q0 : fa e with
  | no => unfold fCall at h; rw [q0] at h; exact h
  | ex c d e' => unfold fCall at h; rw [q0] at h; exact h
  | ok a =>
    obtain ⟨ps, e1⟩ := a
    intro vs G1 H1 x1 s1 q1
    unfold fCall at h
    rw [q0] at h
    simp only [R.bind_ok] at h
    have h := h.ext x1
    obtain ⟨⟨ps', e2⟩, l1, h2⟩ := no_of (fun _ _ _ => pass1_nx) h
    obtain ⟨G2, x2, s2, q2⟩ := pass1_ok s1 q1 l1
    obtain ⟨sls, l2, h3⟩ := of_ok h2
    have hnd : nodupB (refs ps') = true ∧ toSl e2 ps' = some sls := by
      by_cases q : nodupB (refs ps') = true
      · rw [if_pos q] at l2; exact ⟨q, l2⟩
      · rw [if_neg q] at l2; cases l2
    obtain ⟨al, ak⟩ := args_ok s2 q2 hnd.1 hnd.2
    have hl : (vs ++ dvs).length = n := hn vs (by rw [PVL.length q1]; exact hz _ _ _ q0)
    refine ⟨by rw [PVL.length q1]; exact hz _ _ _ q0, hl, G2, sls ++ dfl.map Sl.va, s2.sub, ?_, ak.app al (hd G2), ?_⟩
    · rw [← hl, List.length_append, List.length_append, List.length_map, al, RpL.length (hd G2)]
    · have h4 := h3.ext x2
      dsimp only at h4
      revert h4
      cases m (sls ++ dfl.map Sl.va) with
      | no => exact fun h => h
      | ex c d s' =>
        intro h4 dct v f G' H' a r nm y
        obtain ⟨xx, ss⟩ := call_aft s2 q2 hnd.2 a
        exact h4 dct v f G' H' xx ss r nm y
      | ok b =>
        obtain ⟨pv, s'⟩ := b
        intro h4 v G' H' a r
        obtain ⟨xx, ss⟩ := call_aft s2 q2 hnd.2 a
        refine h4 v G' H' xx ss ?_
        cases pv with
        | d d => exact r
        | sl i => exact r.elim
        | nw d =>
          obtain ⟨p, rfl, r1, r2, r3⟩ := r
          have f1 := s2.fresh r1
          refine ⟨p, rfl, f1.1, r2, fun j b d' z y => ?_, r3⟩
          have was : ∃ b0 d0, gt e2 j = .ce b0 d0 := by
            rcases gt_upds z with ⟨_, b1, d0, _, _, _, g3, _⟩ | ⟨_, g⟩
            · exact ⟨b1, d0, g3⟩
            · exact ⟨b, d', g⟩
          obtain ⟨b0, d0, g⟩ := was
          exact f1.2.2 j b0 d0 g y
/-- how many arguments there are -/
def Ar (fa : FA) (n : Nat) : Prop := ∀ e ps e', fa e = .ok (ps, e') → ps.length = n
theorem ar_nil : Ar fNil 0 := fun e ps e' h => by cases h; rfl
theorem ar_cons {fa : FE} {fr : FA} {n : Nat} (h : Ar fr n) : Ar (fCons fa fr) (n + 1) := fun e ps e' q => by
  unfold fCons at q
  cases q0 : fa e with
  | no => rw [q0] at q; cases q
  | ex _ _ _ => rw [q0] at q; cases q
  | ok a =>
    obtain ⟨p, e1⟩ := a
    rw [q0] at q
    simp only [R.bind_ok] at q
    cases q1 : fr e1 with
    | no => rw [q1] at q; cases q
    | ex _ _ _ => rw [q1] at q; cases q
    | ok b =>
      obtain ⟨ps1, e2⟩ := b
      rw [q1] at q
      simp only [R.bind_ok] at q
      cases q
      simp [h _ _ _ q1]
theorem se_call {f : Addr} {fd : FuncData} {ps : List Str} {k : Nat} {x : Str} {p pos : Pos} {a : Expr} {es : List Expr} {ta : TA} {fa : FA} {m : FM} {ms : List Bool} {dfl : List D} {dvs : List V} {g : List Value → List Value} {n : Nat}
    (Fn : FnG X.prog X.w X.K X.mg X.base k f fd ps (spD T n m)) (tk : Takes X W) (hr : Room k X.A) (gd : X.A.guards = some []) (hg : Gl X x) (hm : X.mg x = some (.ref f)) (hk : PySem.W.keepIn X.K (.ref f) = true) (hb : Bd X.K fd ps [] ms.length g (· ++ dvs)) (hd : ∀ G, RpL T G dfl dvs)
    (ha : SA T W X (a :: es) ta fa) (hz : Ar fa ms.length) (hn : ms.length + dvs.length = n := by rfl) (hdb : (x == ("__debug__" : Str)) = false := by decide)
    (he : starEach (a :: es) X.env = (false, eval a X.env) :: starEach es X.env := by rfl) (hpl : (backTo pos (starEach es X.env)).any (·.1) = false := by rfl) :
    SE T W X (.Call (.Name x p) (a :: es) [] pos) (tCallG ms.length (spD T n m) (· ++ dvs) (WE W) ta) (fCall m ms dfl fa) :=
  ⟨pe_callG Fn hr gd hg hm hk hb (fun σ => passAt tk σ) ha.1 hdb he hpl, fcall_run ha.2 hd (fun vs h => by rw [List.length_append, h]; exact hn) hz⟩
theorem se_call0 {f : Addr} {fd : FuncData} {ps : List Str} {k : Nat} {x : Str} {p pos : Pos} {m : FM} {dfl : List D} {dvs : List V} {g : List Value → List Value} {n : Nat}
    (Fn : FnG X.prog X.w X.K X.mg X.base k f fd ps (spD T n m)) (tk : Takes X W) (hr : Room k X.A) (gd : X.A.guards = some []) (hg : Gl X x) (hm : X.mg x = some (.ref f)) (hk : PySem.W.keepIn X.K (.ref f) = true) (hb : Bd X.K fd ps [] 0 g (· ++ dvs)) (hd : ∀ G, RpL T G dfl dvs)
    (hn : dvs.length = n := by rfl) (hdb : (x == ("__debug__" : Str)) = false := by decide) :
    SE T W X (.Call (.Name x p) [] [] pos) (tCallG 0 (spD T n m) (· ++ dvs) (WE W) tNil) (fCall m [] dfl fNil) :=
  ⟨pe_callG0 Fn hr gd hg hm hk hb (fun σ => passAt tk σ) hdb, fcall_run (ms := []) (sa_nil (X := X)).2 hd (fun vs h => by rw [List.length_append, h]; exact (Nat.zero_add _).trans hn) ar_nil⟩
/-! .. with keywords, all arguments as data -/
def fCallK (m : FM) (perm : List D → List D) (fa : FA) : FE := fun e => do
  let (ps, e1) ← fa e
  let (ds, e2) ← settleL e1 ps
  match m ((perm ds).map Sl.va) with
  | .ok (p, _) => .ok (p, e2)
  | .ex c d _ => .ex c d e2
  | .no => .no
def SK (T : Tb) (W : WX) (X : Cx) (kws : List Keyword) (t : TA) (f : FA) : Prop := PK X kws t ∧ ∀ (Pr : Hp) (A : Nat → Option Addr) (G H : Hp) (σ : St) (e : Env) (Q : List V → Hp → Prop), SR ⟨T, Pr, A⟩ G H σ e → OkE ⟨T, Pr, A⟩ W σ G Q (fun G' _ _ ps vs => PVL ⟨T, Pr, A⟩ G' σ ps vs) (f e) → t σ H Q
theorem fcallK_run {ta : TA} {m : FM} {perm : List D → List D} {gV : List V → List V} {fa : FA} {n N : Nat} (qa : ∀ (Pr : Hp) (A : Nat → Option Addr) (G H : Hp) (σ : St) (e : Env) (Q : List V → Hp → Prop), SR ⟨T, Pr, A⟩ G H σ e → OkE ⟨T, Pr, A⟩ W σ G Q (fun G' _ _ ps vs => PVL ⟨T, Pr, A⟩ G' σ ps vs) (fa e) → ta σ H Q)
    (hp : ∀ G ds xs, RpL T G ds xs → ds.length = N → RpL T G (perm ds) (gV xs) ∧ (perm ds).length = n) (hz : ∀ e ps e', fa e = .ok (ps, e') → ps.length = N) (Pr : Hp) (A : Nat → Option Addr) (G H : Hp) (σ : St) (e : Env) (Q : VK)
    (s : SR ⟨T, Pr, A⟩ G H σ e) (h : OkE ⟨T, Pr, A⟩ W σ G Q (rPV ⟨T, Pr, A⟩ σ) (fCallK m perm fa e)) : tCallG N (spD T n m) gV (WE W) ta σ H Q := by
  refine qa Pr A G H σ e _ s ?_
  cases q0 : fa e with
  | no => unfold fCallK at h; rw [q0] at h; exact h
  | ex c d e' => unfold fCallK at h; rw [q0] at h; exact h
  | ok a =>
    obtain ⟨ps, e1⟩ := a
    intro vs G1 H1 x1 s1 q1
    unfold fCallK at h
    rw [q0] at h
    simp only [R.bind_ok] at h
    have h := h.ext x1
    obtain ⟨⟨ds, e2⟩, l1, h2⟩ := no_of (fun _ _ _ => settleL_nx) h
    obtain ⟨G2, x2, s2, q2⟩ := settleL_ok s1 q1 l1
    have hN := hz _ _ _ q0
    have hl : ds.length = N := by rw [← RpL.length q2, PVL.length q1]; exact hN
    obtain ⟨rp, ln⟩ := hp G2 ds vs q2 hl
    have ak : ArgOk T G2 H1 [] [] := ⟨fun i d z => (by cases z), fun i b d z => (by cases z), fun i j b d b2 d2 p z _ _ _ => (by cases z)⟩
    have ak2 := ak.app rfl rp
    refine ⟨by rw [PVL.length q1]; exact hN, by rw [RpL.length rp]; exact ln, G2, (perm ds).map Sl.va, s2.sub, by rw [List.length_map]; exact ln, ak2, ?_⟩
    have h4 := h2.ext x2
    dsimp only at h4
    revert h4
    cases m ((perm ds).map Sl.va) with
    | no => exact fun h => h
    | ex c d s' =>
      intro h4 dct v f G' H' a r nm y
      obtain ⟨xx, ss⟩ := call_aft (ps := []) (vs := []) (sls := []) s2 rfl rfl a
      exact h4 dct v f G' H' xx (by rw [upds_nil] at ss; exact ss) r nm y
    | ok b =>
      obtain ⟨pv, s'⟩ := b
      intro h4 v G' H' a r
      obtain ⟨xx, ss⟩ := call_aft (ps := []) (vs := []) (sls := []) s2 rfl rfl a
      rw [upds_nil] at ss
      refine h4 v G' H' xx ss ?_
      cases pv with
      | d d => exact r
      | sl i => exact r.elim
      | nw d =>
        obtain ⟨p, rfl, r1, r2, r3⟩ := r
        have f1 := s2.fresh r1
        exact ⟨p, rfl, f1.1, r2, f1.2.2, r3⟩
theorem sk_nil : SK T W X [] tNil fNil := ⟨pk_nil, (sa_nil (X := X)).2⟩
theorem sk_cons {a : Expr} {kws : List Keyword} {ta : TE} {tr : TA} {fa : FE} {fr : FA} {nm : Option Str} {kpos : Pos} (ha : SE T W X a ta fa) (hr : SK T W X kws tr fr) : SK T W X (⟨nm, a, kpos⟩ :: kws) (tCons ta tr) (fCons fa fr) :=
  ⟨pk_cons ha.1 hr.1, cons_run ha.2 hr.2⟩
theorem se_callK0 {f : Addr} {fd : FuncData} {ps ks : List Str} {k : Nat} {x : Str} {p pos : Pos} {kws : List Keyword} {tk : TA} {fk : FA} {m : FM} {g : List Value → List Value} {gV : List V → List V} {perm : List D → List D} {n : Nat}
    (Fn : FnG X.prog X.w X.K X.mg X.base k f fd ps (spD T n m)) (tks : Takes X W) (hr : Room k X.A) (gd : X.A.guards = some []) (hg : Gl X x) (hm : X.mg x = some (.ref f)) (hk : PySem.W.keepIn X.K (.ref f) = true) (hb : Bd X.K fd ps ks 0 g gV)
    (hp : ∀ G ds xs, RpL T G ds xs → ds.length = ks.length → RpL T G (perm ds) (gV xs) ∧ (perm ds).length = n) (ha : SK T W X kws tk fk) (hz : Ar fk ks.length) (hall : (backToKw pos (keywordEach kws X.env)).all (·.1.isSome) = true := by rfl) (hks : (backToKw pos (keywordEach kws X.env)).filterMap (·.1) = ks := by rfl)
    (hdb : (x == ("__debug__" : Str)) = false := by decide) (hpl : ((backTo pos (starEach [] X.env)).any (·.1) || (backToKw pos (keywordEach kws X.env)).any (·.1.isNone)) = false := by rfl) :
    SE T W X (.Call (.Name x p) [] kws pos) (tCallG ks.length (spD T n m) gV (WE W) tk) (fCallK m perm fk) :=
  ⟨pe_callGk0 Fn hr gd hg hm hk hb (fun σ => passAt tks σ) ha.1 hall hks hdb hpl, fcallK_run ha.2 hp hz⟩
end
end DL
set_option Elab.async false
set_option linter.all false
set_option maxRecDepth 100000
set_option maxHeartbeats 4000000
namespace DL
open PySem PySem.Spec PyProof.Rows L2

section
variable {T : Tb} {X : Cx} {G H : Hp}
theorem OpD.or {r r' : R2} {op : D → D → Option RV} {op' : D → D → Option RV} (h : OpD T r op) (h' : OpD T r' op') : OpD T (fun x y H Q => r x y H Q ∨ r' x y H Q) (fun a b => match op a b with | some x => some x | none => op' a b) := by
  intro G H x y dx dy rv Q sub px py ho q
  dsimp only at ho
  split at ho
  · rename_i z hz; cases ho; exact .inl (h G H x y dx dy _ Q sub px py hz q)
  · exact .inr (h' G H x y dx dy rv Q sub px py ho q)
theorem str_val {l : List Nat} : Rp T G (.str l) (.str (S l)) := by simp only [Rp]
theorem int_val {i : Int} : Rp T G (.int i) (.int i) := by simp only [Rp]
theorem bl_val {b : Bool} : Rp T G (.bl b) (.bl b) := by simp only [Rp]
theorem non_val : Rp T G .non .non := by simp only [Rp]
theorem S_app (a b : List Nat) : S a ++ S b = S (a ++ b) := by
  show Str.append (S a) (S b) = _
  simp [S, Str.append]
theorem S_len (a : List Nat) : (S a).length = a.length := by simp [S, Str.length]
theorem S_inj {a b : List Nat} (h : S a = S b) : a = b := by
  have := congrArg (fun x : Str => x.cps.toList) h
  simpa [S] using this

/-! ### + -/
def rAddS : R2 := fun x y H Q => ∃ i j, x = .str i ∧ y = .str j ∧ i.length + j.length ≤ sizeLine ∧ Q (.str (i ++ j)) H
def oAddI : D → D → Option RV
  | .int i, .int j => some (.at (.int (i + j)))
  | _, _ => none
def oAddS : D → D → Option RV
  | .str a, .str b => if a.length + b.length ≤ LIM then some (.at (.str (a ++ b))) else none
  | _, _ => none
def oAddL : D → D → Option RV
  | .lst a, .lst b => if a.length + b.length ≤ LIM then some (.ls (a ++ b)) else none
  | _, _ => none
theorem d_addI : OpD T (rI0 fun i j => .int (i + j)) oAddI := by
  intro G H x y dx dy rv Q sub px py ho q
  unfold oAddI at ho
  split at ho
  · cases ho
    rw [pk_int px, pk_int py]
    exact ⟨_, _, rfl, rfl, q _ int_val⟩
  · cases ho
theorem d_addS : OpD T rAddS oAddS := by
  intro G H x y dx dy rv Q sub px py ho q
  unfold oAddS at ho
  split at ho
  · split at ho
    · rename_i hl
      cases ho
      rw [pk_str px, pk_str py]
      exact ⟨_, _, rfl, rfl, by rw [S_len, S_len]; exact Nat.le_trans hl lim_le, by rw [S_app]; exact q _ str_val⟩
    · cases ho
  · cases ho
theorem d_addL : OpD T rCat oAddL := by
  intro G H x y dx dy rv Q sub px py ho q
  unfold oAddL at ho
  split at ho
  · split at ho
    · rename_i hl
      cases ho
      obtain ⟨a, xs, rfl, h1, r1⟩ := pk_lst sub px
      obtain ⟨b, ys, rfl, h2, r2⟩ := pk_lst sub py
      exact ⟨a, b, xs, ys, rfl, rfl, h1, h2, by rw [RpL.length r1, RpL.length r2]; exact Nat.le_trans hl lim_le, fun p hp => q p _ hp (r1.append r2)⟩
    · cases ho
  · cases ho
@[simp] def oAdd : D → D → Option RV
  | .int i, .int j => some (.at (.int (i + j)))
  | .str a, .str b => if a.length + b.length ≤ LIM then some (.at (.str (a ++ b))) else none
  | .lst a, .lst b => if a.length + b.length ≤ LIM then some (.ls (a ++ b)) else none
  | _, _ => none
abbrev rAddA : R2 := fun x y H Q => (rI0 fun i j => .int (i + j)) x y H Q ∨ (rAddS x y H Q ∨ rCat x y H Q)
theorem op_addA : OpR X (binaryOp .Add) rAddA := op_add.or (OpR.or (r := rAddS) op_add_str op_cat)
theorem iop_addA : OpR X (inplaceOp .Add) (fun x y H Q => (rI0 fun i j => .int (i + j)) x y H Q ∨ rAddS x y H Q) := OpR.or iop_add (r' := rAddS) iop_add_str
theorem d_add : OpD T rAddA oAdd := by
  intro G H x y dx dy rv Q sub px py ho q
  unfold oAdd at ho
  split at ho
  · exact .inl (d_addI G H x y _ _ rv Q sub px py ho q)
  · exact .inr (.inl (d_addS G H x y _ _ rv Q sub px py ho q))
  · exact .inr (.inr (d_addL G H x y _ _ rv Q sub px py ho q))
  · cases ho
@[simp] def oAugAdd : D → D → Option RV
  | .int i, .int j => some (.at (.int (i + j)))
  | .str a, .str b => if a.length + b.length ≤ LIM then some (.at (.str (a ++ b))) else none
  | _, _ => none
theorem d_augAdd : OpD T (fun x y H Q => (rI0 fun i j => .int (i + j)) x y H Q ∨ rAddS x y H Q) oAugAdd := by
  intro G H x y dx dy rv Q sub px py ho q
  unfold oAugAdd at ho
  split at ho
  · exact .inl (d_addI G H x y _ _ rv Q sub px py ho q)
  · exact .inr (d_addS G H x y _ _ rv Q sub px py ho q)
  · cases ho
/-! ### other arithmetic -/
@[simp] def oI (C : Int → Int → Bool) (g : Int → Int → Int) : D → D → Option RV
  | .int i, .int j => if C i j = true then some (.at (.int (g i j))) else none
  | _, _ => none
theorem d_I {C : Int → Int → Prop} {Cb : Int → Int → Bool} {g : Int → Int → Int} (h : ∀ i j, Cb i j = true → C i j) : OpD T (rI C fun i j => .int (g i j)) (oI Cb g) := by
  intro G H x y dx dy rv Q sub px py ho q
  unfold oI at ho
  split at ho
  · split at ho
    · rename_i hc
      cases ho
      rw [pk_int px, pk_int py]
      exact ⟨_, _, rfl, rfl, h _ _ hc, q _ int_val⟩
    · cases ho
  · cases ho
@[simp] def oI0 (g : Int → Int → Int) : D → D → Option RV
  | .int i, .int j => some (.at (.int (g i j)))
  | _, _ => none
theorem d_I0 {g : Int → Int → Int} : OpD T (rI0 fun i j => .int (g i j)) (oI0 g) := by
  intro G H x y dx dy rv Q sub px py ho q
  unfold oI0 at ho
  split at ho
  · cases ho
    rw [pk_int px, pk_int py]
    exact ⟨_, _, rfl, rfl, q _ int_val⟩
  · cases ho
@[simp] def oB0 (g : Int → Int → Bool) : D → D → Option RV
  | .int i, .int j => some (.at (.bl (g i j)))
  | _, _ => none
theorem d_B0 {g : Int → Int → Bool} : OpD T (rI0 fun i j => .bl (g i j)) (oB0 g) := by
  intro G H x y dx dy rv Q sub px py ho q
  unfold oB0 at ho
  split at ho
  · cases ho
    rw [pk_int px, pk_int py]
    exact ⟨_, _, rfl, rfl, q _ bl_val⟩
  · cases ho
@[simp] abbrev oSub := oI0 fun i j => i - j
@[simp] abbrev oLt := oB0 fun i j => decide (i < j)
@[simp] abbrev oLe := oB0 fun i j => decide (i ≤ j)
@[simp] abbrev oGt := oB0 fun i j => decide (j < i)
@[simp] abbrev oGe := oB0 fun i j => decide (j ≤ i)
@[simp] def cMod (_ j : Int) : Bool := decide (0 < j)
@[simp] abbrev oMod := oI cMod fun i j => i % j
theorem d_mod : OpD T (rI (fun _ j => 0 < j) fun i j => .int (i % j)) oMod := d_I fun i j h => of_decide_eq_true h
@[simp] def cDiv (_ j : Int) : Bool := decide (0 < j) && decide (j < 1073741824)
@[simp] abbrev oDiv := oI cDiv fun i j => i / j
theorem d_div : OpD T (rI CDiv fun i j => .int (i / j)) oDiv := d_I fun i j h => by
  simp only [cDiv, Bool.and_eq_true, decide_eq_true_eq] at h; exact h
@[simp] def cPow (i j : Int) : Bool := decide (0 ≤ j) && decide (j ≤ 1000) && decide (-(2 ^ 60) < i) && decide (i < 2 ^ 60)
@[simp] abbrev oPow := oI cPow fun i j => i ^ j.toNat
theorem d_pow : OpD T (rI CPow fun i j => .int (i ^ j.toNat)) oPow := d_I fun i j h => by
  simp only [cPow, Bool.and_eq_true, decide_eq_true_eq] at h
  obtain ⟨⟨⟨h1, h2⟩, h3⟩, h4⟩ := h
  exact ⟨h1, by omega, by omega⟩
@[simp] def oNeg : D → Option RV
  | .int i => some (.at (.int (-i)))
  | _ => none
theorem d_neg : UnD T (rU fun i => .int (-i)) oNeg := by
  intro G H x dx rv Q sub px ho q
  unfold oNeg at ho
  split at ho
  · cases ho
    rw [pk_int px]
    exact ⟨_, rfl, q _ int_val⟩
  · cases ho
/-! ### * -/
def cMul (i j : Int) : Bool := (decide (-(2 ^ 64) < i) && decide (i < 2 ^ 64)) || (decide (-(2 ^ 64) < j) && decide (j < 2 ^ 64))
def rMulS : R2 := fun x y H Q => ∃ (i : Str) (n : Int), x = .str i ∧ y = .int n ∧ -(2 ^ 62) < n ∧ n < 2 ^ 62 ∧ i.length * n.toNat ≤ 1000000 ∧ Q (.str (Txt.mul i n)) H
theorem op_mulS : OpR X (binaryOp .Mult) rMulS := by
  intro pins s σ H x y v u Q I rx ry h
  obtain ⟨i, n, rfl, rfl, h1, h2, h3, q⟩ := h
  obtain ⟨t, rfl⟩ := rx
  obtain ⟨t', rfl⟩ := ry
  refine SB.mul ⟨?_, fun a b => ?_, fun a b => ?_⟩ fun t' k => ⟨.str (Txt.mul i n), H, I.tok _, ⟨_, rfl⟩, q⟩
  · simp only [Bool.or_eq_false_iff, decide_eq_false_iff_not]; omega
  · have hn : 1 ≤ n := by omega
    have h4 : (i.length : Int) * n ≤ 1000000 := by
      have : ((i.length * n.toNat : Nat) : Int) ≤ 1000000 := by omega
      rw [Int.natCast_mul, Int.toNat_of_nonneg (by omega)] at this
      exact this
    intro z
    have h5 : (2 ^ 63 - 1) / n < (i.length : Int) := z
    have h6 := (Int.ediv_lt_iff_lt_mul (by omega : 0 < n)).mp h5
    omega
  · unfold Builtin.Str.tooLong
    simp only [decide_eq_false_iff_not]
    have : (1000000 : Nat) < sizeLine := by decide
    omega
theorem mul_S (l : List Nat) (n : Int) : Txt.mul (S l) n = S (List.replicate n.toNat l).flatten := by
  have fold : ∀ (k : Nat) (acc : Array Nat), (List.replicate k l.toArray).foldl (· ++ ·) acc = acc ++ ((List.replicate k l).flatten).toArray := by
    intro k
    induction k with
    | zero => intro acc; simp
    | succ k ih => intro acc; simp only [List.replicate_succ, List.foldl_cons, ih, List.flatten_cons]; simp
  unfold Txt.mul
  by_cases h1 : n < 1
  · rw [if_pos h1, show n.toNat = 0 by omega]; rfl
  · rw [if_neg h1]
    by_cases h2 : (n == 1 || (S l).length == 0) = true
    · rw [if_pos h2]
      simp only [Bool.or_eq_true, beq_iff_eq] at h2
      rcases h2 with h2 | h2
      · subst h2; simp
      · rw [S_len] at h2
        have : l = [] := List.length_eq_zero_iff.mp h2
        subst this
        have : ∀ k, (List.replicate k ([] : List Nat)).flatten = [] := by intro k; induction k with | zero => rfl | succ k ih => simp [List.replicate_succ, ih]
        rw [this]
    · rw [if_neg h2, fold]; simp
@[simp] def oMul : D → D → Option RV
  | .int i, .int j => if cMul i j = true then some (.at (.int (i * j))) else none
  | .str l, .int n => if (decide (-(2 ^ 62) < n) && decide (n < 2 ^ 62) && decide (l.length * n.toNat ≤ LIM)) = true then some (.at (.str (List.replicate n.toNat l).flatten)) else none
  | .lst l, .int n => if (decide (-(2 ^ 62) < n) && decide (n < 2 ^ 62) && decide (l.length * n.toNat ≤ LIM)) = true then some (.ls (List.replicate n.toNat l).flatten) else none
  | _, _ => none
abbrev rMulA : R2 := fun x y H Q => (rI CMul fun i j => .int (i * j)) x y H Q ∨ (rMulS x y H Q ∨ rRep x y H Q)
theorem op_mulA : OpR X (binaryOp .Mult) rMulA := op_mul.or (op_mulS.or op_rep)
theorem rep_rpl {l : List D} {xs : List V} (h : RpL T G l xs) : ∀ n : Nat, RpL T G (List.replicate n l).flatten (List.replicate n xs).flatten
  | 0 => RpL.nil
  | n + 1 => by simp only [List.replicate_succ, List.flatten_cons]; exact h.append (rep_rpl h n)
theorem d_mul : OpD T rMulA oMul := by
  intro G H x y dx dy rv Q sub px py ho q
  unfold oMul at ho
  split at ho
  · split at ho
    · rename_i hc
      cases ho
      rw [pk_int px, pk_int py]
      refine .inl ⟨_, _, rfl, rfl, ?_, q _ int_val⟩
      simp only [cMul, Bool.or_eq_true, Bool.and_eq_true, decide_eq_true_eq] at hc
      exact hc
    · cases ho
  · split at ho
    · rename_i hc
      cases ho
      rw [pk_str px, pk_int py]
      simp only [Bool.and_eq_true, decide_eq_true_eq] at hc
      refine .inr (.inl ⟨_, _, rfl, rfl, hc.1.1, hc.1.2, by rw [S_len]; exact hc.2, ?_⟩)
      rw [mul_S]; exact q _ str_val
    · cases ho
  · split at ho
    · rename_i hc
      cases ho
      obtain ⟨a, xs, rfl, h1, r1⟩ := pk_lst sub px
      rw [pk_int py]
      simp only [Bool.and_eq_true, decide_eq_true_eq] at hc
      refine .inr (.inr ⟨a, _, xs, rfl, rfl, h1, by omega, by omega, ?_, fun p hp => q p _ hp (rep_rpl r1 _)⟩)
      rw [RpL.length r1]; exact Nat.le_trans hc.2 lim_le
    · cases ho
  · cases ho

/-! ### == -/
mutual
def toPy : D → Option PyData
  | .non => some .none
  | .bl b => some (.bool b)
  | .int i => some (.int i)
  | .str l => some (.str (S l))
  | .lst ds => match toPyL ds with | some ps => some (.list ps) | none => none
  | .tup ds => match toPyL ds with | some ps => some (.tuple ps) | none => none
  | _ => none
def toPyL : List D → Option (List PyData)
  | [] => some []
  | d :: ds => match toPy d, toPyL ds with | some p, some ps => some (p :: ps) | _, _ => none
end
mutual
def eqD : D → D → Bool
  | .non, .non => true
  | .bl a, .bl b => a == b
  | .bl a, .int j => (if a then 1 else 0) == j
  | .int i, .bl b => i == (if b then 1 else 0)
  | .int i, .int j => i == j
  | .str x, .str y => x == y
  | .lst xs, .lst ys => eqDL xs ys
  | .tup xs, .tup ys => eqDL xs ys
  | _, _ => false
def eqDL : List D → List D → Bool
  | [], [] => true
  | x :: xs, y :: ys => eqD x y && eqDL xs ys
  | _, _ => false
end
mutual
/-- nested at most n deep, signs in range -/
def okD : Nat → D → Bool
  | _, .non => true
  | _, .bl _ => true
  | _, .int _ => true
  | _, .str l => l.all (· < 0x110000)
  | n + 1, .lst ds => okDL n ds
  | n + 1, .tup ds => okDL n ds
  | _, _ => false
def okDL : Nat → List D → Bool
  | _, [] => true
  | n, d :: ds => okD n d && okDL n ds
end
mutual
theorem ok_py : ∀ (n : Nat) (d : D), okD n d = true → ∃ p, toPy d = some p ∧ p.canLay0 = true ∧ p.depth ≤ n
  | n, .non, h => ⟨.none, by simp only [toPy], by simp only [PyData.canLay0], by simp only [PyData.depth]; omega⟩
  | n, .bl b, h => ⟨.bool b, by simp only [toPy], by simp only [PyData.canLay0], by simp only [PyData.depth]; omega⟩
  | n, .int i, h => ⟨.int i, by simp only [toPy], by simp only [PyData.canLay0], by simp only [PyData.depth]; omega⟩
  | n, .str l, h => ⟨.str (S l), by simp only [toPy], by
      simp only [okD] at h
      simp only [PyData.canLay0, PyData.strOk]
      simpa [S] using h, by simp only [PyData.depth]; omega⟩
  | 0, .lst ds, h => by simp only [okD] at h; cases h
  | 0, .tup ds, h => by simp only [okD] at h; cases h
  | n + 1, .lst ds, h => by
    simp only [okD] at h
    obtain ⟨ps, h1, h2, h3⟩ := ok_pyL n ds h
    exact ⟨.list ps, by simp only [toPy, h1], by simp only [PyData.canLay0]; exact h2, by simp only [PyData.depth]; omega⟩
  | n + 1, .tup ds, h => by
    simp only [okD] at h
    obtain ⟨ps, h1, h2, h3⟩ := ok_pyL n ds h
    exact ⟨.tuple ps, by simp only [toPy, h1], by simp only [PyData.canLay0]; exact h2, by simp only [PyData.depth]; omega⟩
  | n, .dic _ _, h => by simp only [okD] at h; cases h
  | n, .obj _ _, h => by simp only [okD] at h; cases h
  | n, .fro _, h => by simp only [okD] at h; cases h
  | n, .cls _, h => by simp only [okD] at h; cases h
theorem ok_pyL : ∀ (n : Nat) (ds : List D), okDL n ds = true → ∃ ps, toPyL ds = some ps ∧ PyData.canLayAll0 ps = true ∧ PyData.depthAll ps ≤ n
  | n, [], h => ⟨[], by simp only [toPyL], by simp only [PyData.canLayAll0], by simp only [PyData.depthAll]; omega⟩
  | n, d :: ds, h => by
    simp only [okDL, Bool.and_eq_true] at h
    obtain ⟨p, h1, h2, h3⟩ := ok_py n d h.1
    obtain ⟨ps, g1, g2, g3⟩ := ok_pyL n ds h.2
    exact ⟨p :: ps, by simp only [toPyL, h1, g1], by simp only [PyData.canLayAll0, h2, g2, Bool.and_true], by simp only [PyData.depthAll]; omega⟩
end
mutual
theorem py_dp {K : PySem.W.Frag} (sub : Sub G H) : ∀ (d : D) (p : PyData) (v : V), toPy d = some p → Rp T G d v → Dp K H v p
  | .non, p, v, h, r => by simp only [toPy] at h; cases h; simp only [Rp] at r; subst r; exact .non
  | .bl b, p, v, h, r => by simp only [toPy] at h; cases h; simp only [Rp] at r; subst r; exact .bl b
  | .int i, p, v, h, r => by simp only [toPy] at h; cases h; simp only [Rp] at r; subst r; exact .int i
  | .str l, p, v, h, r => by simp only [toPy] at h; cases h; simp only [Rp] at r; subst r; exact .str _
  | .lst ds, p, v, h, r => by
    simp only [toPy] at h
    split at h
    · rename_i ps hp
      cases h
      simp only [Rp] at r
      obtain ⟨a, xs, rfl, h1, h2⟩ := r
      exact .lst (.inl (.inl (sub _ _ h1))) (py_dpL sub ds ps xs hp h2)
    · cases h
  | .tup ds, p, v, h, r => by
    simp only [toPy] at h
    split at h
    · rename_i ps hp
      cases h
      simp only [Rp] at r
      obtain ⟨a, xs, rfl, h1, h2⟩ := r
      exact .tup (.inl (.inl (sub _ _ h1))) (py_dpL sub ds ps xs hp h2)
    · cases h
  | .dic _ _, p, v, h, r => by simp only [toPy] at h; cases h
  | .obj _ _, p, v, h, r => by simp only [toPy] at h; cases h
  | .fro _, p, v, h, r => by simp only [toPy] at h; cases h
  | .cls _, p, v, h, r => by simp only [toPy] at h; cases h
theorem py_dpL {K : PySem.W.Frag} (sub : Sub G H) : ∀ (ds : List D) (ps : List PyData) (vs : List V), toPyL ds = some ps → RpL T G ds vs → DpAll K H vs ps
  | [], ps, vs, h, r => by simp only [toPyL] at h; cases h; simp only [RpL] at r; subst r; exact .nil
  | d :: ds, ps, vs, h, r => by
    simp only [toPyL] at h
    split at h
    · rename_i p ps' h1 h2
      cases h
      simp only [RpL] at r
      obtain ⟨x, r', rfl, r1, r2⟩ := r
      exact .cons (py_dp sub d p x h1 r1) (py_dpL sub ds ps' r' h2 r2)
    · cases h
end
theorem pk_dp {K : PySem.W.Frag} (sub : Sub G H) {d : D} {p : PyData} {v : V} (h : toPy d = some p) (r : Pk T G H v d) : Dp K H v p := by
  rcases r with r | ⟨a, rfl, r⟩
  · exact py_dp sub d p v h r
  · cases d with
    | lst ds =>
      simp only [toPy] at h
      split at h
      · rename_i ps hp
        cases h
        obtain ⟨xs, h1, h2⟩ := r
        exact .lst (.inl (.inl h1)) (py_dpL sub ds ps xs hp h2)
      · cases h
    | _ => first | exact r.elim | (simp only [toPy] at h; cases h)
mutual
theorem eqv_eqD : ∀ (d e : D) (p q : PyData), toPy d = some p → toPy e = some q → PyData.eqv p q = eqD d e := by
  intro d e p q h1 h2
  cases d with
  | dic _ _ => simp only [toPy] at h1; cases h1
  | obj _ _ => simp only [toPy] at h1; cases h1
  | fro _ => simp only [toPy] at h1; cases h1
  | cls _ => simp only [toPy] at h1; cases h1
  | non =>
    simp only [toPy] at h1; cases h1
    cases e <;> simp only [toPy] at h2 <;> (try (cases h2; done)) <;> (try (split at h2)) <;> (try (cases h2; done)) <;> cases h2 <;> simp only [PyData.eqv, eqD]
  | bl b =>
    simp only [toPy] at h1; cases h1
    cases e <;> simp only [toPy] at h2 <;> (try (cases h2; done)) <;> (try (split at h2)) <;> (try (cases h2; done)) <;> cases h2 <;> simp only [PyData.eqv, eqD]
  | int b =>
    simp only [toPy] at h1; cases h1
    cases e <;> simp only [toPy] at h2 <;> (try (cases h2; done)) <;> (try (split at h2)) <;> (try (cases h2; done)) <;> cases h2 <;> simp only [PyData.eqv, eqD]
  | str l =>
    simp only [toPy] at h1; cases h1
    cases e <;> simp only [toPy] at h2 <;> (try (cases h2; done)) <;> (try (split at h2)) <;> (try (cases h2; done)) <;> cases h2 <;> simp only [PyData.eqv, eqD]
    rw [Bool.eq_iff_iff]
    simp only [beq_iff_eq]
    exact ⟨S_inj, fun z => by rw [z]⟩
  | lst ds =>
    simp only [toPy] at h1
    split at h1
    · rename_i ps hp
      cases h1
      cases e with
      | lst es =>
        simp only [toPy] at h2
        split at h2
        · rename_i qs hq
          cases h2
          simp only [PyData.eqv, eqD]
          exact eqv_eqDL ds es ps qs hp hq
        · cases h2
      | _ => simp only [toPy] at h2 <;> (try (cases h2; done)) <;> (try (split at h2)) <;> (try (cases h2; done)) <;> cases h2 <;> simp only [PyData.eqv, eqD]
    · cases h1
  | tup ds =>
    simp only [toPy] at h1
    split at h1
    · rename_i ps hp
      cases h1
      cases e with
      | tup es =>
        simp only [toPy] at h2
        split at h2
        · rename_i qs hq
          cases h2
          simp only [PyData.eqv, eqD]
          exact eqv_eqDL ds es ps qs hp hq
        · cases h2
      | _ => simp only [toPy] at h2 <;> (try (cases h2; done)) <;> (try (split at h2)) <;> (try (cases h2; done)) <;> cases h2 <;> simp only [PyData.eqv, eqD]
    · cases h1
termination_by d => sizeOf d
theorem eqv_eqDL : ∀ (ds es : List D) (ps qs : List PyData), toPyL ds = some ps → toPyL es = some qs → PyData.eqvAll ps qs = eqDL ds es
  | [], [], ps, qs, h1, h2 => by simp only [toPyL] at h1 h2; cases h1; cases h2; simp only [PyData.eqvAll, eqDL]
  | [], e :: es, ps, qs, h1, h2 => by
    simp only [toPyL] at h1 h2; cases h1
    split at h2
    · cases h2; simp only [PyData.eqvAll, eqDL]
    · cases h2
  | d :: ds, [], ps, qs, h1, h2 => by
    simp only [toPyL] at h1 h2; cases h2
    split at h1
    · cases h1; simp only [PyData.eqvAll, eqDL]
    · cases h1
  | d :: ds, e :: es, ps, qs, h1, h2 => by
    simp only [toPyL] at h1 h2
    split at h1
    · rename_i p ps' a1 a2
      cases h1
      split at h2
      · rename_i q qs' b1 b2
        cases h2
        simp only [PyData.eqvAll, eqDL]
        rw [eqv_eqD d e p q a1 b1, eqv_eqDL ds es ps' qs' a2 b2]
      · cases h2
    · cases h1
termination_by ds => sizeOf ds
end
@[simp] def scalD : D → D → Bool
  | .non, .non => true | .non, .int _ => true | .int _, .non => true | .non, .bl _ => true | .bl _, .non => true | .non, .str _ => true | .str _, .non => true
  | .int _, .int _ => true | .bl _, .bl _ => true | .str _, .str _ => true
  | .int _, .str _ => true | .str _, .int _ => true | .bl _, .str _ => true | .str _, .bl _ => true
  | _, _ => false
@[simp] def oEq (f : Bool → Bool) (a b : D) : Option RV := if (scalD a b || (okD 60 a && okD 60 b)) = true then some (.at (.bl (f (eqD a b)))) else none
abbrev rEqA (K : PySem.W.Frag) : R2 := fun x y H Q => rEq x y H Q ∨ rEqD K x y H Q
abbrev rNeA (K : PySem.W.Frag) : R2 := fun x y H Q => rNe x y H Q ∨ rNeD K x y H Q
theorem scal_of {x y : V} {a b : D} (h : scalD a b = true) (px : Pk T G H x a) (py : Pk T G H y b) : scal x y = true ∧ decide (x = y) = eqD a b := by
  unfold scalD at h
  split at h <;> first
    | exact absurd h Bool.false_ne_true
    | (first | rw [pk_non px] | rw [pk_int px] | rw [pk_bl px] | rw [pk_str px]
       first | rw [pk_non py] | rw [pk_int py] | rw [pk_bl py] | rw [pk_str py]
       refine ⟨rfl, ?_⟩
       simp only [eqD]
       first
         | rfl
         | (rw [dec_int])
         | (rw [dec_bl])
         | (rw [Bool.eq_iff_iff]; simp only [decide_eq_true_eq, beq_iff_eq]; exact ⟨fun z => S_inj (V.str.inj z), fun z => by rw [z]⟩)
         | (exact decide_eq_false (fun z => nomatch z)))
theorem d_eqA {K : PySem.W.Frag} : OpD T (rEqA K) (oEq id) := by
  intro G H x y dx dy rv Q sub px py ho q
  unfold oEq at ho
  split at ho
  · rename_i hc
    cases ho
    simp only [Bool.or_eq_true, Bool.and_eq_true] at hc
    rcases hc with hc | ⟨h1, h2⟩
    · obtain ⟨e1, e2⟩ := scal_of hc px py
      exact .inl ⟨e1, by rw [e2]; exact q _ bl_val⟩
    · obtain ⟨p, p1, p2, p3⟩ := ok_py _ _ h1
      obtain ⟨p', q1, q2, q3⟩ := ok_py _ _ h2
      refine .inr ⟨p, p', pk_dp sub p1 px, pk_dp sub q1 py, ?_, ?_, ?_⟩
      · simp only [SeqAt.shaped, Bool.and_eq_true, decide_eq_true_eq]; exact ⟨p2, by omega⟩
      · simp only [SeqAt.shaped, Bool.and_eq_true, decide_eq_true_eq]; exact ⟨q2, by omega⟩
      · rw [eqv_eqD _ _ _ _ p1 q1]; exact q _ bl_val
  · cases ho
theorem d_neA {K : PySem.W.Frag} : OpD T (rNeA K) (oEq not) := by
  intro G H x y dx dy rv Q sub px py ho q
  unfold oEq at ho
  split at ho
  · rename_i hc
    cases ho
    simp only [Bool.or_eq_true, Bool.and_eq_true] at hc
    rcases hc with hc | ⟨h1, h2⟩
    · obtain ⟨e1, e2⟩ := scal_of hc px py
      exact .inl ⟨e1, by rw [e2]; exact q _ bl_val⟩
    · obtain ⟨p, p1, p2, p3⟩ := ok_py _ _ h1
      obtain ⟨p', q1, q2, q3⟩ := ok_py _ _ h2
      refine .inr ⟨p, p', pk_dp sub p1 px, pk_dp sub q1 py, ?_, ?_, ?_⟩
      · simp only [SeqAt.shaped, Bool.and_eq_true, decide_eq_true_eq]; exact ⟨p2, by omega⟩
      · simp only [SeqAt.shaped, Bool.and_eq_true, decide_eq_true_eq]; exact ⟨q2, by omega⟩
      · rw [eqv_eqD _ _ _ _ p1 q1]; exact q _ bl_val
  · cases ho
theorem op_eqA (hu : X.A.units + 64 < cLine) : OpR X (compareOp .Eq) (rEqA X.K) := op_eq.or (op_eqD hu)
theorem op_neA (hu : X.A.units + 64 < cLine) : OpR X (compareOp .NotEq) (rNeA X.K) := op_ne.or (op_neD hu)
end
end DL
set_option Elab.async false
set_option linter.all false
set_option maxRecDepth 100000
set_option maxHeartbeats 4000000
namespace DL
open PySem PySem.Spec PyProof.Rows L2

section
variable {T : Tb} {X : Cx} {G H : Hp}
theorem S_list (l : List Nat) : (S l).cps.toList = l := by simp [S]
/-! ### is None -/
@[simp] def oIsN (f : Bool → Bool) : D → D → Option RV
  | .non, .non => some (.at (.bl (f true)))
  | _, .non => some (.at (.bl (f false)))
  | _, _ => none
theorem pk_nn {v : V} {d : D} (h : Pk T G H v d) (hd : d ≠ .non) : v ≠ .non := by
  rcases h with h | ⟨p, rfl, h⟩
  · cases d with
    | non => exact absurd rfl hd
    | bl _ => simp only [Rp] at h; rw [h]; intro z; cases z
    | int _ => simp only [Rp] at h; rw [h]; intro z; cases z
    | str _ => simp only [Rp] at h; rw [h]; intro z; cases z
    | lst _ => simp only [Rp] at h; obtain ⟨a, _, rfl, _⟩ := h; intro z; cases z
    | tup _ => simp only [Rp] at h; obtain ⟨a, _, rfl, _⟩ := h; intro z; cases z
    | dic _ _ => simp only [Rp] at h; obtain ⟨a, _, rfl, _⟩ := h; intro z; cases z
    | obj _ _ => simp only [Rp] at h; obtain ⟨a, _, _, rfl, _⟩ := h; intro z; cases z
    | fro _ => simp only [Rp] at h; obtain ⟨a, _, rfl, _⟩ := h; intro z; cases z
    | cls _ => simp only [Rp] at h; subst h; intro z; cases z
  · intro z; cases z
abbrev rIsN' (f : Bool → Bool) : R2 := fun x y H Q => y = .non ∧ Q (.bl (f (decide (x = .non)))) H
theorem d_isN (f : Bool → Bool) : OpD T (rIsN' f) (oIsN f) := by
  intro G H x y dx dy rv Q sub px py ho q
  unfold oIsN at ho
  split at ho
  · cases ho
    rw [pk_non px, pk_non py]
    exact ⟨rfl, q _ bl_val⟩
  · rename_i hn
    cases ho
    have e1 : decide (x = V.non) = false := decide_eq_false (pk_nn px (fun z => hn z))
    rw [pk_non py]
    refine ⟨rfl, ?_⟩
    rw [e1]; exact q _ bl_val
  · cases ho
theorem op_isN' : OpR X (compareOp .Is) (rIsN' id) := op_isN
theorem op_notN' : OpR X (compareOp .IsNot) (rIsN' not) := op_notN
/-! ### is True, is False -/
@[simp] def oIsB (f : Bool → Bool) : D → D → Option RV
  | .bl a, .bl b => some (.at (.bl (f (a == b))))
  | _, _ => none
abbrev rIsB' (f : Bool → Bool) : R2 := fun x y H Q => ∃ a b : Bool, x = .bl a ∧ y = .bl b ∧ Q (.bl (f (a == b))) H
theorem d_isB (f : Bool → Bool) : OpD T (rIsB' f) (oIsB f) := by
  intro G H x y dx dy rv Q sub px py ho q
  unfold oIsB at ho
  split at ho
  · cases ho
    rw [pk_bl px, pk_bl py]
    exact ⟨_, _, rfl, rfl, q _ bl_val⟩
  · cases ho
/-! ### in -/
@[simp] def oIn (f : Bool → Bool) : D → D → Option RV
  | .str [c], .str z => some (.at (.bl (f (z.contains c))))
  | d, .lst ds => if (okD 60 d && okDL 60 ds) = true then some (.at (.bl (f (ds.any fun z => eqD z d)))) else none
  | _, _ => none
abbrev rInC (f : Bool → Bool) : R2 := fun x y H Q => ∃ (c : Nat) (z : Str), x = .str ⟨#[c]⟩ ∧ y = .str z ∧ Q (.bl (f (decide (c ∈ z.cps.toList)))) H
abbrev rInL (K : PySem.W.Frag) (f : Bool → Bool) : R2 := fun x y H Q => ∃ d ds, Dp K H x d ∧ Dp K H y (.list ds) ∧ SeqAt.shaped d = true ∧ SeqAt.shaped (.list ds) = true ∧ Q (.bl (f (ds.any fun z => PyData.eqv z d))) H
abbrev rInA (K : PySem.W.Frag) (f : Bool → Bool) : R2 := fun x y H Q => rInC f x y H Q ∨ rInL K f x y H Q
theorem op_inA (hu : X.A.units + 65 < cLine) : OpR X (compareOp .In) (rInA X.K id) := OpR.or (r := rInC id) (r' := rInL X.K id) op_in_sign (op_inD hu)
theorem op_notInA (hu : X.A.units + 65 < cLine) : OpR X (compareOp .NotIn) (rInA X.K not) := OpR.or (r := rInC not) (r' := rInL X.K not) op_notIn_sign (op_notInD hu)
theorem any_eqv {d : D} {p : PyData} (hd : toPy d = some p) : ∀ (ds : List D) (ps : List PyData), toPyL ds = some ps → (ps.any fun z => PyData.eqv z p) = (ds.any fun z => eqD z d)
  | [], ps, h => by simp only [toPyL] at h; cases h; rfl
  | e :: ds, ps, h => by
    simp only [toPyL] at h
    split at h
    · rename_i q qs h1 h2
      cases h
      simp only [List.any_cons]
      rw [eqv_eqD e d q p h1 hd, any_eqv hd ds qs h2]
    · cases h
theorem list_depth {ps : List PyData} (h : PyData.depthAll ps ≤ 60) : (PyData.list ps).depth ≤ 64 := by
  have e : (PyData.list ps).depth = PyData.depthAll ps + 1 := by simp only [PyData.depth]
  omega
theorem d_in {K : PySem.W.Frag} (f : Bool → Bool) : OpD T (rInA K f) (oIn f) := by
  intro G H x y dx dy rv Q sub px py ho q
  unfold oIn at ho
  split at ho
  · rename_i c z
    cases ho
    rw [pk_str px, pk_str py]
    refine .inl ⟨c, S z, rfl, rfl, ?_⟩
    have e : decide (c ∈ (S z).cps.toList) = z.contains c := by
      rw [Bool.eq_iff_iff]; simp [S]
    rw [e]; exact q _ bl_val
  · rename_i ds
    split at ho
    · rename_i hc
      cases ho
      simp only [Bool.and_eq_true] at hc
      obtain ⟨p, p1, p2, p3⟩ := ok_py _ _ hc.1
      obtain ⟨ps, q1, q2, q3⟩ := ok_pyL _ _ hc.2
      refine .inr ⟨p, ps, pk_dp sub p1 px, pk_dp sub (by simp only [toPy, q1]) py, ?_, ?_, ?_⟩
      · simp only [SeqAt.shaped, Bool.and_eq_true, decide_eq_true_eq]; exact ⟨p2, by omega⟩
      · simp only [SeqAt.shaped, Bool.and_eq_true, decide_eq_true_eq, PyData.canLay0]; exact ⟨q2, list_depth q3⟩
      · rw [any_eqv p1 _ _ q1]; exact q _ bl_val
    · cases ho
  · cases ho

/-! ### subscripts -/
@[simp] def at? {α : Type} (l : List α) (i : Int) : Option α := if 0 ≤ i then l[i.toNat]? else if -(l.length : Int) ≤ i then l[(i + l.length).toNat]? else none
theorem atI_at (xs : List V) (i : Int) : atI xs i = at? xs i := by
  unfold atI at? ixN
  by_cases h : 0 ≤ i
  · rw [if_pos h, if_pos h]
    by_cases h2 : i < xs.length
    · rw [if_pos h2]; rfl
    · rw [if_neg h2]; rw [List.getElem?_eq_none (by omega)]; rfl
  · rw [if_neg h, if_neg h]
    by_cases h2 : -(xs.length : Int) ≤ i
    · rw [if_pos h2, if_pos h2]; rfl
    · rw [if_neg h2, if_neg h2]; rfl
theorem RpL.at? {l : List D} {xs : List V} (r : RpL T G l xs) {i : Int} {d : D} (h : DL.at? l i = some d) : ∃ x, DL.at? xs i = some x ∧ Rp T G d x := by
  unfold DL.at? at h ⊢
  rw [RpL.length r]
  split at h
  · rename_i h0; rw [if_pos h0]; exact r.get h
  · rename_i h0
    rw [if_neg h0]
    split at h
    · rename_i h1; rw [if_pos h1]; exact r.get h
    · cases h
@[simp] def oIx : D → D → Option RV
  | .lst l, .int i => (at? l i).map RV.at
  | .tup l, .int i => (at? l i).map RV.at
  | .str l, .int i => if l.length ≤ LIM then (at? l i).map (fun c => RV.at (.str [c])) else none
  | _, _ => none
theorem d_ix : OpD T (rIx T.K) oIx := by
  intro G H x y dx dy rv Q sub px py ho q
  unfold oIx at ho
  split at ho
  · simp only [Option.map_eq_some_iff] at ho
    obtain ⟨d, h1, rfl⟩ := ho
    obtain ⟨a, xs, rfl, h2, r⟩ := pk_lst sub px
    obtain ⟨v, h3, rv⟩ := r.at? h1
    rw [pk_int py]
    exact .inl ⟨a, xs, _, v, rfl, rfl, .inl (.inl h2), by rw [atI_at]; exact h3, q v rv⟩
  · simp only [Option.map_eq_some_iff] at ho
    obtain ⟨d, h1, rfl⟩ := ho
    obtain ⟨a, xs, rfl, h2, r⟩ := pk_tup sub px
    obtain ⟨v, h3, rv⟩ := r.at? h1
    rw [pk_int py]
    exact .inr (.inl ⟨a, xs, _, v, rfl, rfl, .inl (.inl h2), by rw [atI_at]; exact h3, q v rv⟩)
  · split at ho
    · rename_i hl
      simp only [Option.map_eq_some_iff] at ho
      obtain ⟨c, h1, rfl⟩ := ho
      rw [pk_str px, pk_int py]
      refine .inr (.inr ⟨S _, _, c, rfl, rfl, by rw [S_len]; exact Nat.le_trans hl lim_le, ?_, q _ str_val⟩)
      rw [S_list]
      unfold atI ixN
      unfold at? at h1
      split at h1
      · rename_i h0
        rw [if_pos h0]
        have := (List.getElem?_eq_some_iff.mp h1).1
        rw [if_pos (by omega)]
        exact h1
      · rename_i h0
        rw [if_neg h0]
        split at h1
        · rename_i h2; rw [if_pos h2]; exact h1
        · cases h1
    · cases ho
  · cases ho
/-! ### slices -/
def cut {α : Type} (xs : List α) (lo hi : Option Int) : List α := (xs.drop (HT.sIx xs.length 0 lo)).take (HT.sIx xs.length xs.length hi - HT.sIx xs.length 0 lo)
theorem cutS_S (l : List Nat) (lo hi : Option Int) : cutS (S l) lo hi = S (cut l lo hi) := by
  unfold cutS cut
  rw [S_len]
@[simp] def oSl : D → Option Int → Option Int → Option RV
  | .lst l, lo, hi => some (.ls (cut l lo hi))
  | .fro l, lo, hi => some (.ls (cut l lo hi))
  | .str l, lo, hi => if l.length ≤ LIM then some (.at (.str (cut l lo hi))) else none
  | _, _, _ => none
abbrev rSlA' (K : PySem.W.Frag) : V → Option Int → Option Int → Hp → VK → Prop := fun x lo hi H Q => rSlL K x lo hi H Q ∨ rSlS x lo hi H Q
theorem sl_A : SlR X (rSlA' X.K) := sl_list.or sl_str
theorem d_sl : SlD T (rSlA' T.K) oSl := by
  intro G H x dx lo hi rv Q sub px ho q
  unfold oSl at ho
  split at ho
  · cases ho
    obtain ⟨a, xs, rfl, h2, r⟩ := pk_lst sub px
    refine .inl ⟨a, xs, rfl, .inl (.inl h2), fun p hp => q p _ hp ?_⟩
    unfold cut cutV
    rw [RpL.length r]
    exact (r.drop _).take _
  · cases ho
    obtain ⟨a, xs, rfl, h2, r⟩ := pk_fro sub px
    refine .inl ⟨a, xs, rfl, h2, fun p hp => q p _ hp ?_⟩
    unfold cut cutV
    rw [RpL.length r]
    exact (r.drop _).take _
  · split at ho
    · rename_i hl
      cases ho
      rw [pk_str px]
      refine .inr ⟨S _, rfl, by rw [S_len]; exact Nat.le_trans hl lim_le, ?_⟩
      rw [cutS_S]
      exact q _ str_val
    · cases ho
  · cases ho
/-! ### built-in functions -/
@[simp] def oLen : List D → Option RV
  | [.lst l] => some (.at (.int l.length))
  | [.tup l] => some (.at (.int l.length))
  | [.fro l] => some (.at (.int l.length))
  | [.str l] => if l.length ≤ LIM then some (.at (.int l.length)) else none
  | _ => none
abbrev rLen (K : PySem.W.Frag) : List V → Hp → VK → Prop := fun xs H Q => ∃ x n, xs = [x] ∧ LenV K x H n ∧ Q (.int n) H
theorem d_len : CallD T (rLen T.K) oLen := by
  intro G H vs ds rv Q sub pk ho q
  unfold oLen at ho
  split at ho
  · cases ho
    obtain ⟨v, r, rfl, p1, rfl⟩ := pk
    obtain ⟨a, xs, rfl, h2, r⟩ := pk_lst sub p1
    refine ⟨_, _, rfl, .inl ⟨xs, .inl (.inl h2), rfl⟩, ?_⟩
    rw [RpL.length r]; exact q _ int_val
  · cases ho
    obtain ⟨v, r, rfl, p1, rfl⟩ := pk
    obtain ⟨a, xs, rfl, h2, r⟩ := pk_tup sub p1
    refine ⟨_, _, rfl, .inr ⟨xs, .inl (.inl h2), rfl⟩, ?_⟩
    rw [RpL.length r]; exact q _ int_val
  · cases ho
    obtain ⟨v, r, rfl, p1, rfl⟩ := pk
    obtain ⟨a, xs, rfl, h2, r⟩ := pk_fro sub p1
    refine ⟨_, _, rfl, .inl ⟨xs, h2, rfl⟩, ?_⟩
    rw [RpL.length r]; exact q _ int_val
  · split at ho
    · rename_i hl
      cases ho
      obtain ⟨v, r, rfl, p1, rfl⟩ := pk
      rw [pk_str p1]
      refine ⟨_, _, rfl, ⟨by rw [S_len]; exact Nat.le_trans hl lim_le, rfl⟩, ?_⟩
      rw [S_len]; exact q _ int_val
    · cases ho
  · cases ho
@[simp] def oMax2 : List D → Option RV
  | [.int i, .int j] => some (.at (.int (if j > i then j else i)))
  | _ => none
@[simp] def oMin2 : List D → Option RV
  | [.int i, .int j] => some (.at (.int (if j < i then j else i)))
  | _ => none
theorem d_max2 : CallD T (fun xs H Q => ∃ i j, xs = [.int i, .int j] ∧ Q (.int (if j > i then j else i)) H) oMax2 := by
  intro G H vs ds rv Q sub pk ho q
  unfold oMax2 at ho
  split at ho
  · cases ho
    obtain ⟨v, r, rfl, p1, v', r', rfl, p2, rfl⟩ := pk
    rw [pk_int p1, pk_int p2]
    exact ⟨_, _, rfl, q _ int_val⟩
  · cases ho
theorem d_min2 : CallD T (fun xs H Q => ∃ i j, xs = [.int i, .int j] ∧ Q (.int (if j < i then j else i)) H) oMin2 := by
  intro G H vs ds rv Q sub pk ho q
  unfold oMin2 at ho
  split at ho
  · cases ho
    obtain ⟨v, r, rfl, p1, v', r', rfl, p2, rfl⟩ := pk
    rw [pk_int p1, pk_int p2]
    exact ⟨_, _, rfl, q _ int_val⟩
  · cases ho
@[simp] def oInt : List D → Option RV
  | [.int i] => some (.at (.int i))
  | [.bl b] => some (.at (.int (if b then 1 else 0)))
  | _ => none
theorem d_int : CallD T (fun xs H Q => (∃ i, xs = [.int i] ∧ Q (.int i) H) ∨ ∃ k, xs = [.bl k] ∧ Q (.int (if k then 1 else 0)) H) oInt := by
  intro G H vs ds rv Q sub pk ho q
  unfold oInt at ho
  split at ho
  · cases ho
    obtain ⟨v, r, rfl, p1, rfl⟩ := pk
    rw [pk_int p1]
    exact .inl ⟨_, rfl, q _ int_val⟩
  · cases ho
    obtain ⟨v, r, rfl, p1, rfl⟩ := pk
    rw [pk_bl p1]
    exact .inr ⟨_, rfl, q _ int_val⟩
  · cases ho
theorem chrs_rp : ∀ l : List Nat, RpL T G (chrs l) (l.map fun c => V.str ⟨#[c]⟩)
  | [] => RpL.nil
  | c :: l => RpL.cons str_val (chrs_rp l)
/-! ### list(..) -/
@[simp] def oList : List D → Option RV
  | [.lst l] => some (.ls l)
  | [.tup l] => some (.ls l)
  | [.fro l] => some (.ls l)
  | [.str l] => if l.length ≤ LIM then some (.ls (chrs l)) else none
  | _ => none
abbrev rList1 (K : PySem.W.Frag) : List V → Hp → VK → Prop := fun xs H Q => ∃ p ys, xs = [.ref p] ∧ (SqL K H p ys ∨ SqT K H p ys) ∧ ∀ l, H l = none → Q (.ref l) (upd H l (.lst ys))
abbrev rList2 : List V → Hp → VK → Prop := fun xs H Q => ∃ z : Str, xs = [.str z] ∧ z.length ≤ sizeLine ∧ ∀ l, H l = none → Q (.ref l) (upd H l (.lst (z.cps.toList.map fun c => .str ⟨#[c]⟩)))
theorem call_list_chars (hc : X.calm = true) : CallR X (.type "list") rList2 := by
  intro pins s σ H vs us Q I r h
  obtain ⟨z, rfl, hz, q⟩ := h
  cases r with
  | cons r1 r2 =>
    cases r2
    obtain ⟨t, rfl⟩ := r1
    refine call_list_str (I.ok.hd hc) z t (fun h' tk acc' c' hk hS hacc => ?_) (by simpa [Str.length] using hz)
    have hf : H s.heap.objs.size = none := I.hok.fresh (Nat.le_refl _)
    refine ⟨.ref s.heap.objs.size, upd H s.heap.objs.size (.lst (z.cps.toList.map fun c => .str ⟨#[c]⟩)), I.laid (t' := tk) hk (Nat.le_refl _) ?_, rfl, q _ hf⟩
    refine ⟨by simpa [Str.length] using hz, acc'.toList, c', ?_, by simpa using hS⟩
    have key : ∀ (l : List Nat) (us : List Value), us.length = l.length → (∀ (j : Nat) (v : Value), us[j]? = some v → ∃ c u, l[j]? = some c ∧ v = .str ⟨#[c]⟩ u) → Vals (l.map fun c => V.str ⟨#[c]⟩) us := by
      intro l
      induction l with
      | nil =>
        intro us hl _
        have : us = [] := List.length_eq_zero_iff.mp hl
        subst this; exact .nil
      | cons c l ih =>
        intro us hl hk
        cases us with
        | nil => cases hl
        | cons u us =>
          obtain ⟨c', t', e1, e2⟩ := hk 0 u rfl
          simp at e1
          subst e1
          exact .cons ⟨t', e2⟩ (ih us (by simpa using hl) fun j v hj => by simpa using hk (j + 1) v (by simpa using hj))
    refine key _ _ (by simpa using hacc.1) fun j v hj => ?_
    obtain ⟨c, u, e1, e2⟩ := hacc.2 j v (by simpa using hj)
    exact ⟨c, u, by simpa using e1, e2⟩
theorem d_list {K : PySem.W.Frag} (hK : K = T.K) : CallD T (fun xs H Q => rList1 K xs H Q ∨ rList2 xs H Q) oList := by
  subst hK
  intro G H vs ds rv Q sub pk ho q
  unfold oList at ho
  split at ho
  · cases ho
    obtain ⟨v, r, rfl, p1, rfl⟩ := pk
    obtain ⟨a, xs, rfl, h2, r⟩ := pk_lst sub p1
    exact .inl ⟨a, xs, rfl, .inl (.inl (.inl h2)), fun p hp => q p _ hp r⟩
  · cases ho
    obtain ⟨v, r, rfl, p1, rfl⟩ := pk
    obtain ⟨a, xs, rfl, h2, r⟩ := pk_tup sub p1
    exact .inl ⟨a, xs, rfl, .inr (.inl (.inl h2)), fun p hp => q p _ hp r⟩
  · cases ho
    obtain ⟨v, r, rfl, p1, rfl⟩ := pk
    obtain ⟨a, xs, rfl, h2, r⟩ := pk_fro sub p1
    exact .inl ⟨a, xs, rfl, .inl h2, fun p hp => q p _ hp r⟩
  · split at ho
    · rename_i hl
      cases ho
      obtain ⟨v, r, rfl, p1, rfl⟩ := pk
      rw [pk_str p1]
      refine .inr ⟨S _, rfl, by rw [S_len]; exact Nat.le_trans hl lim_le, fun p hp => q p _ hp ?_⟩
      rw [S_list]
      exact chrs_rp _
    · cases ho
  · cases ho
/-! ### all, any -/
def bls : List D → Option (List Bool)
  | [] => some []
  | .bl b :: r => (bls r).map (b :: ·)
  | _ => none
theorem bls_ok : ∀ {l : List D} {xs : List V} {bs : List Bool}, bls l = some bs → RpL T G l xs → xs = bs.map V.bl
  | [], xs, bs, h, r => by cases h; simp only [RpL] at r; exact r
  | d :: l, xs, bs, h, r => by
    cases d with
    | bl b =>
      simp only [bls, Option.map_eq_some_iff] at h
      obtain ⟨bs', h1, rfl⟩ := h
      simp only [RpL, Rp] at r
      obtain ⟨x, r', rfl, rfl, r2⟩ := r
      rw [bls_ok h1 r2]; rfl
    | _ => simp only [bls] at h; cases h
@[simp] def oAll : List D → Option RV
  | [.lst l] => (bls l).map fun bs => .at (.bl (bs.all id))
  | _ => none
@[simp] def oAny : List D → Option RV
  | [.lst l] => (bls l).map fun bs => .at (.bl (bs.any id))
  | _ => none
theorem d_all : CallD T (rAll T.K) oAll := by
  intro G H vs ds rv Q sub pk ho q
  unfold oAll at ho
  split at ho
  · simp only [Option.map_eq_some_iff] at ho
    obtain ⟨bs, h1, rfl⟩ := ho
    obtain ⟨v, r, rfl, p1, rfl⟩ := pk
    obtain ⟨a, xs, rfl, h2, r⟩ := pk_lst sub p1
    exact ⟨a, bs, rfl, .inl (.inl (by rw [← bls_ok h1 r]; exact h2)), q _ bl_val⟩
  · cases ho
theorem d_any : CallD T (rAny T.K) oAny := by
  intro G H vs ds rv Q sub pk ho q
  unfold oAny at ho
  split at ho
  · simp only [Option.map_eq_some_iff] at ho
    obtain ⟨bs, h1, rfl⟩ := ho
    obtain ⟨v, r, rfl, p1, rfl⟩ := pk
    obtain ⟨a, xs, rfl, h2, r⟩ := pk_lst sub p1
    exact ⟨a, bs, rfl, .inl (.inl (by rw [← bls_ok h1 r]; exact h2)), q _ bl_val⟩
  · cases ho
/-! ### max, min, sum of a list of ints -/
def nums : List D → Option (List Int)
  | [] => some []
  | .int b :: r => (nums r).map (b :: ·)
  | _ => none
theorem nums_ok : ∀ {l : List D} {xs : List V} {bs : List Int}, nums l = some bs → RpL T G l xs → xs = bs.map V.int
  | [], xs, bs, h, r => by cases h; simp only [RpL] at r; exact r
  | d :: l, xs, bs, h, r => by
    cases d with
    | int b =>
      simp only [nums, Option.map_eq_some_iff] at h
      obtain ⟨bs', h1, rfl⟩ := h
      simp only [RpL, Rp] at r
      obtain ⟨x, r', rfl, rfl, r2⟩ := r
      rw [nums_ok h1 r2]; rfl
    | _ => simp only [nums] at h; cases h
def maxL : List Int → Option Int
  | [] => none
  | x :: r => some (r.foldl max x)
def minL : List Int → Option Int
  | [] => none
  | x :: r => some (r.foldl min x)
theorem foldl_max_ge : ∀ (r : List Int) (x : Int), x ≤ r.foldl max x ∧ (∀ y ∈ r, y ≤ r.foldl max x) ∧ (r.foldl max x = x ∨ r.foldl max x ∈ r)
  | [], x => ⟨Int.le_refl _, by simp, .inl rfl⟩
  | y :: r, x => by
    obtain ⟨h1, h2, h3⟩ := foldl_max_ge r (max x y)
    rw [List.foldl_cons]
    refine ⟨by omega, fun z hz => ?_, ?_⟩
    · rcases List.mem_cons.mp hz with rfl | hz
      · omega
      · exact h2 z hz
    · rcases h3 with h3 | h3
      · rw [h3]
        by_cases h : x ≤ y
        · rw [Int.max_eq_right h]; exact .inr List.mem_cons_self
        · rw [Int.max_eq_left (by omega)]; exact .inl rfl
      · exact .inr (List.mem_cons_of_mem _ h3)
theorem foldl_min_le : ∀ (r : List Int) (x : Int), r.foldl min x ≤ x ∧ (∀ y ∈ r, r.foldl min x ≤ y) ∧ (r.foldl min x = x ∨ r.foldl min x ∈ r)
  | [], x => ⟨Int.le_refl _, by simp, .inl rfl⟩
  | y :: r, x => by
    obtain ⟨h1, h2, h3⟩ := foldl_min_le r (min x y)
    rw [List.foldl_cons]
    refine ⟨by omega, fun z hz => ?_, ?_⟩
    · rcases List.mem_cons.mp hz with rfl | hz
      · omega
      · exact h2 z hz
    · rcases h3 with h3 | h3
      · rw [h3]
        by_cases h : x ≤ y
        · rw [Int.min_eq_left h]; exact .inl rfl
        · rw [Int.min_eq_right (by omega)]; exact .inr List.mem_cons_self
      · exact .inr (List.mem_cons_of_mem _ h3)
def oMaxL : List D → Option RV
  | [.lst l] => (nums l).bind fun bs => (maxL bs).map fun m => .at (.int m)
  | _ => none
def oMinL : List D → Option RV
  | [.lst l] => (nums l).bind fun bs => (minL bs).map fun m => .at (.int m)
  | _ => none
def oSum : List D → Option RV
  | [.lst l] => (nums l).map fun bs => .at (.int bs.sum)
  | _ => none
theorem d_maxL : CallD T (rMax T.K) oMaxL := by
  intro G H vs ds rv Q sub pk ho q
  unfold oMaxL at ho
  split at ho
  · simp only [Option.bind_eq_some_iff, Option.map_eq_some_iff] at ho
    obtain ⟨bs, h1, m, h3, rfl⟩ := ho
    obtain ⟨v, r, rfl, p1, rfl⟩ := pk
    obtain ⟨a, xs, rfl, h2, r⟩ := pk_lst sub p1
    cases bs with
    | nil => cases h3
    | cons x bs =>
      cases h3
      refine ⟨a, x :: bs, rfl, .inl (.inl (by rw [← nums_ok h1 r]; exact h2)), Nat.succ_pos _, fun m hm hall => ?_⟩
      obtain ⟨k1, k2, k3⟩ := foldl_max_ge bs x
      have e : m = bs.foldl max x := by
        have a1 : m ≤ bs.foldl max x := by
          rcases List.mem_cons.mp hm with rfl | hm
          · exact k1
          · exact k2 m hm
        have a2 : bs.foldl max x ≤ m := hall _ (k3.elim (fun z => by rw [z]; exact List.mem_cons_self) (fun z => List.mem_cons_of_mem _ z))
        omega
      rw [e]; exact q _ int_val
  · cases ho
theorem d_minL : CallD T (rMin T.K) oMinL := by
  intro G H vs ds rv Q sub pk ho q
  unfold oMinL at ho
  split at ho
  · simp only [Option.bind_eq_some_iff, Option.map_eq_some_iff] at ho
    obtain ⟨bs, h1, m, h3, rfl⟩ := ho
    obtain ⟨v, r, rfl, p1, rfl⟩ := pk
    obtain ⟨a, xs, rfl, h2, r⟩ := pk_lst sub p1
    cases bs with
    | nil => cases h3
    | cons x bs =>
      cases h3
      refine ⟨a, x :: bs, rfl, .inl (.inl (by rw [← nums_ok h1 r]; exact h2)), Nat.succ_pos _, fun m hm hall => ?_⟩
      obtain ⟨k1, k2, k3⟩ := foldl_min_le bs x
      have e : m = bs.foldl min x := by
        have a1 : bs.foldl min x ≤ m := by
          rcases List.mem_cons.mp hm with rfl | hm
          · exact k1
          · exact k2 m hm
        have a2 : m ≤ bs.foldl min x := hall _ (k3.elim (fun z => by rw [z]; exact List.mem_cons_self) (fun z => List.mem_cons_of_mem _ z))
        omega
      rw [e]; exact q _ int_val
  · cases ho
theorem d_sum : CallD T (rSum T.K) oSum := by
  intro G H vs ds rv Q sub pk ho q
  unfold oSum at ho
  split at ho
  · simp only [Option.map_eq_some_iff] at ho
    obtain ⟨bs, h1, rfl⟩ := ho
    obtain ⟨v, r, rfl, p1, rfl⟩ := pk
    obtain ⟨a, xs, rfl, h2, r⟩ := pk_lst sub p1
    exact ⟨a, bs, rfl, .inl (.inl (by rw [← nums_ok h1 r]; exact h2)), q _ int_val⟩
  · cases ho
/-! ### methods of lists -/
@[simp] def oApp : D → List D → Option (RV × D)
  | .lst l, [d] => if l.length < LIM then some (.at .non, .lst (l ++ [d])) else none
  | _, _ => none
theorem d_app : MtM T rAppend oApp := by
  intro G H p d vs ds rv d' Q sub hg hc r ho q
  unfold oApp at ho
  split at ho
  · split at ho
    · rename_i hl
      cases ho
      obtain ⟨xs, h1, h2⟩ := hc
      simp only [RpL] at r
      obtain ⟨v, r', rfl, rv, rfl⟩ := r
      refine ⟨p, xs, v, rfl, rfl, h1, by rw [RpL.length h2]; exact Nat.lt_of_lt_of_le hl lim_le, ?_⟩
      exact q _ ⟨_, upd_same, h2.append (RpL.cons rv RpL.nil)⟩ .non non_val
    · cases ho
  · cases ho
theorem seqIx_nn {i : Int} {n : Nat} (h : 0 ≤ i) (h2 : i.toNat < n) : seqIndex? i n = some i.toNat := by
  unfold seqIndex?
  have e : (if i < 0 then i + (n : Int) else i) = i := if_neg (by omega)
  simp only [e]
  rw [if_pos]
  simp only [Bool.and_eq_true, decide_eq_true_eq]; omega
@[simp] def oPopAt : D → List D → Option (RV × D)
  | .lst l, [.int i] => if 0 ≤ i then (match l[i.toNat]? with | some d => if l.length ≤ LIM then some (.at d, .lst (l.eraseIdx i.toNat)) else none | none => none) else none
  | _, _ => none
theorem RpL.erase : ∀ (n : Nat) {ds : List D} {xs : List V}, RpL T G ds xs → RpL T G (ds.eraseIdx n) (xs.eraseIdx n)
  | n, [], xs, h => by simp only [RpL] at h; subst h; exact RpL.nil
  | 0, d :: ds, xs, h => by simp only [RpL] at h; obtain ⟨x, r, rfl, h2, h3⟩ := h; exact h3
  | n + 1, d :: ds, xs, h => by
    simp only [RpL] at h
    obtain ⟨x, r, rfl, h2, h3⟩ := h
    exact RpL.cons h2 (RpL.erase n h3)
theorem d_popAt : MtM T rPopAt oPopAt := by
  intro G H p d vs ds rv d' Q sub hg hc r ho q
  unfold oPopAt at ho
  split at ho
  · split at ho
    · rename_i hi
      split at ho
      · rename_i d0 h0
        split at ho
        · rename_i hl
          cases ho
          obtain ⟨xs, h1, h2⟩ := hc
          simp only [RpL, Rp] at r
          obtain ⟨v, r', rfl, rfl, rfl⟩ := r
          obtain ⟨y, hy, ry⟩ := h2.get h0
          have hlt := (List.getElem?_eq_some_iff.mp hy).1
          have hxl := RpL.length h2
          have hL : LIM < 2 ^ 62 := by decide
          refine ⟨p, xs, _, _, y, rfl, rfl, h1, by omega, by omega, ?_, hy, ?_⟩
          · exact seqIx_nn hi hlt
          · exact q _ ⟨_, upd_same, h2.erase _⟩ y ry
        · cases ho
      · cases ho
    · cases ho
  · cases ho
@[simp] def oPop : D → List D → Option (RV × D)
  | .lst l, [] => match l[l.length - 1]? with | some d => some (.at d, .lst l.dropLast) | none => none
  | _, _ => none
theorem RpL.dropLast : ∀ {ds : List D} {xs : List V}, RpL T G ds xs → RpL T G ds.dropLast xs.dropLast := fun {ds xs} h => by
  rw [List.dropLast_eq_take, List.dropLast_eq_take, RpL.length h]
  exact h.take _
theorem d_pop : MtM T rPop oPop := by
  intro G H p d vs ds rv d' Q sub hg hc r ho q
  unfold oPop at ho
  split at ho
  · split at ho
    · rename_i d0 h0
      cases ho
      obtain ⟨xs, h1, h2⟩ := hc
      simp only [RpL] at r
      subst r
      obtain ⟨y, hy, ry⟩ := h2.get h0
      refine ⟨p, xs, y, rfl, rfl, h1, by rw [RpL.length h2]; exact hy, ?_⟩
      exact q _ ⟨_, upd_same, h2.dropLast⟩ y ry
    · cases ho
  · cases ho
@[simp] def oExt : D → List D → Option (RV × D)
  | .lst l, [.lst m] => if l.length + m.length ≤ LIM then some (.at .non, .lst (l ++ m)) else none
  | _, _ => none
theorem d_ext : MtM T rExtend oExt := by
  intro G H p d vs ds rv d' Q sub hg hc r ho q
  unfold oExt at ho
  split at ho
  · split at ho
    · rename_i hl
      cases ho
      obtain ⟨xs, h1, h2⟩ := hc
      simp only [RpL, Rp] at r
      obtain ⟨v, r', rfl, ⟨b, zs, rfl, h3, h4⟩, rfl⟩ := r
      refine ⟨p, b, xs, zs, rfl, rfl, h1, sub _ _ h3, by rw [RpL.length h2, RpL.length h4]; exact Nat.le_trans hl lim_le, ?_⟩
      exact q _ ⟨_, upd_same, h2.append h4⟩ .non non_val
    · cases ho
  · cases ho
@[simp] def oSetL : D → D → D → Option D
  | .lst l, .int i, d => if 0 ≤ i ∧ i < l.length then some (.lst (l.set i.toNat d)) else none
  | _, _, _ => none
theorem d_setL : StD T rSetL oSetL := by
  intro G H p d k v dk dv d' Q sub hg hc rk rv ho q
  unfold oSetL at ho
  split at ho
  · split at ho
    · rename_i hi
      cases ho
      obtain ⟨xs, h1, h2⟩ := hc
      simp only [Rp] at rk
      subst rk
      refine ⟨p, xs, _, _, rfl, rfl, h1, ?_, q _ ⟨_, upd_same, h2.set _ rv⟩⟩
      unfold ixN
      rw [if_pos hi.1, if_pos (by rw [RpL.length h2]; exact hi.2)]
    · cases ho
  · cases ho
end
end DL
set_option Elab.async false
set_option linter.all false
set_option maxRecDepth 100000
set_option maxHeartbeats 4000000
/-! own exception classes over any of the built-in bases -/
namespace DL
open PySem PySem.Spec PyProof.Rows L2

/-- what is known of the built-in base -/
structure XBase (B nw ini : String) (tl : List Value) : Prop where
  facts : ExcBaseFacts B nw ini tl
  passes : ∀ self, PySem.refuseLoop self "__setattr__" tl = pure ()
  object : tl.contains (.type "object") = true
abbrev tl_value : List Value := [.type "ValueError", .type "Exception", .type "BaseException", .type "object"]
theorem xb_value : XBase "ValueError" "ValueError.__new__" "ValueError.__init__" tl_value := ⟨PySem.F.excBase_ValueError, PySem.F.store_ValueError.passes, by decide +kernel⟩
abbrev tl_index : List Value := [.type "IndexError", .type "LookupError", .type "Exception", .type "BaseException", .type "object"]
theorem xb_index : XBase "IndexError" "IndexError.__new__" "IndexError.__init__" tl_index := ⟨PySem.F.excBase_IndexError, PySem.F.store_IndexError.passes, by decide +kernel⟩
abbrev tl_lookup : List Value := [.type "LookupError", .type "Exception", .type "BaseException", .type "object"]
theorem xb_lookup : XBase "LookupError" "LookupError.__new__" "LookupError.__init__" tl_lookup := ⟨PySem.F.excBase_LookupError, PySem.F.store_LookupError.passes, by decide +kernel⟩
abbrev tl_overflow : List Value := [.type "OverflowError", .type "ArithmeticError", .type "Exception", .type "BaseException", .type "object"]
theorem xb_overflow : XBase "OverflowError" "OverflowError.__new__" "OverflowError.__init__" tl_overflow := ⟨PySem.F.excBase_OverflowError, PySem.F.store_OverflowError.passes, by decide +kernel⟩
abbrev tl_runtime : List Value := [.type "RuntimeError", .type "Exception", .type "BaseException", .type "object"]
theorem xb_runtime : XBase "RuntimeError" "RuntimeError.__new__" "RuntimeError.__init__" tl_runtime := ⟨PySem.F.excBase_RuntimeError, PySem.F.store_RuntimeError.passes, by decide +kernel⟩
/-- own classes, then the base's line -/
def Line (tl l : List Value) : Prop := ∃ cs : List Addr, l = cs.map Value.ref ++ tl
theorem Line.has {tl l : List Value} (h : Line tl l) (Y : String) : l.contains (.type Y) = tl.contains (.type Y) := by
  obtain ⟨cs, rfl⟩ := h
  induction cs with
  | nil => rfl
  | cons c cs ih => rw [List.map_cons, List.cons_append, List.contains_cons, ih]; rfl
theorem Line.pass {B nw ini : String} {tl l : List Value} (b : XBase B nw ini tl) (h : Line tl l) (self : Value) : PySem.refuseLoop self "__setattr__" l = pure () := by
  obtain ⟨cs, rfl⟩ := h
  induction cs with
  | nil => exact b.passes self
  | cons c cs ih => rw [List.map_cons, List.cons_append, PySem.refuseLoop_ref]; exact ih
theorem Line.own {tl l : List Value} (h : Line tl l) (C : Addr) : Line tl (.ref C :: l) := by
  obtain ⟨cs, rfl⟩ := h
  exact ⟨C :: cs, rfl⟩
/-- what the written part says of such a class -/
structure XCls (K : PySem.W.Frag) (C : Addr) (B nw ini : String) (tl : List Value) : Prop where
  bs : XBase B nw ini tl
  here : ∃ nm q N bs bm sn sub ab col dd k0 k1 k2 k3 k5, K.lookup C = some (excClassObj nm q C N bs bm true sn sub ab col dd k0 k1 k2 k3 k5 nw) ∧ Line tl bm
  store : PySem.W.findIn K (.ref C) "__setattr__" = some (some (.builtin "object.__setattr__"))
  isE : PySem.W.subIn K (.ref C) (.type "BaseException") = some true
  ty : PySem.W.typeIn K (.ref C) = some (.type "type")
  keeps : PySem.W.keepIn K (.ref C) = true
end DL
namespace DLS
open PySem PySem.W PySem.Calls PyProof.Rows PySem.HandSPX Builtin Builtin.ObjectAttr
section
variable {prog : Program} {w : World} {A : Around} {E : Value → Shared → Prop} {R : Result → Shared → Prop} {hp : Heap} {g : Array GenState} {d : Drawn} {t : Nat} {os : OsState}
/-- the first field of an exception that has no dict yet -/
theorem store_first {K : W.Frag} {B nw ini : String} {tl : List Value} {name : Str} {tk : Tok} {v : Value} {x C : Addr} {fv : Array Value} {cd : ClassData} (b : DL.XBase B nw ini tl)
    (X : K.In hp) (hx : hp.get? x = some { cls := .ref C, data := .fields fv }) (hcd : W.clsIn K C = some cd) (hm : DL.Line tl cd.mro) (hh : cd.hasDict = true) (ha : W.findIn K (.ref C) name = some none)
    (back : ∀ h' tk' dx, (∀ c o, c ≠ x → hp.get? c = some o → h'.get? c = some o) → hp.objs.size ≤ dx → dx ≠ x → h'.get? x = some { cls := .ref C, dict := some dx, data := .fields fv } →
      h'.Ns1 dx (fun y => if y = name then some v else none) → R (.ok (.ret .none)) ⟨h', g, d, tk', os⟩) :
    codeAny (model prog w) A (.call (.builtin "object.__setattr__") ⟨[.ref x, .str name tk, v], []⟩) R ⟨hp, g, d, t, os⟩ := by
  have inst : W.InstAt hp x { cls := .ref C, data := .fields fv } C none := ⟨hx, rfl, rfl, trivial⟩
  have so := F.store_object
  have hob : cd.mro.contains (.type "object") = true := (hm.has "object").trans b.object
  have nonempty : cd.mro.isEmpty = false := by
    cases e : cd.mro with
    | nil => rw [e] at hob; cases hob
    | cons _ _ => rfl
  have apart : x ≠ hp.objs.size := Nat.ne_of_lt (Heap.lt_size hx)
  have isO : W.Looks (model prog w) hp (isInstance (.ref x) (.type "object")) true := inst.type.andThen (W.looks_mroIn X (by unfold W.mroIn; rw [hcd, Option.bind_some, if_neg (by rw [nonempty]; decide), hob]))
  refine codeAny_call_builtin so.slot.plain so.entry (@W.check_slot (model prog w) _ _ ⟨hp, g, d, t, os⟩ "object.__setattr__" "object" "__setattr__" (.ref x) [.str name tk, v] [] _ so.kind so.split isO (so.args (.ref x) (.str name tk) v) ?_)
  have line : W.Looks (model prog w) hp (mroOf (.ref C)) cd.mro := (W.looks_clsIn X hcd).andThen .now
  have nobody : W.Looks (model prog w) hp (storeTaker? none) none := .now
  have data : W.Looks (model prog w) hp (classData C) cd := W.looks_clsIn X hcd
  rw [W.osa_eq, refuse_eq]
  refine wpAny_bind (wpAny_bind (inst.type.at (wpAny_bind (line.at ?_))))
  rw [hm.pass b]
  refine wpAny_pure (wpAny_bind (inst.type.at (wpAny_bind ((W.looks_findIn X ha).at (wpAny_bind (nobody.at ?_))))))
  show wpAny _ _ (storeInOwnDict (.ref x) (.ref C) (.str name tk) name v false) _ _ _
  obtain ⟨nm, bs, mro, ns, qn, hd, sn, sb, ab, col, del⟩ := cd
  dsimp only at hh
  subst hh
  unfold storeInOwnDict ownDictForStores
  repeat (first | with_reducible refine store_in_new ?_ ?_ | with_reducible refine wpAny_loadPart_at hx ?_ | with_reducible refine data.at ?_ | wp_step)
  · exact ⟨_, #[], _, (Heap.get?_update_ne _ _ _ _ apart.symm).trans (Heap.get?_push_at rfl rfl), rfl, fun e he => absurd he (by simp), fun _ => rfl⟩
  · intro h' tk' ns' same
    have there : (hp.push { cls := .type "dict", data := .dict #[] }).get? x = some { cls := .ref C, data := .fields fv } := Heap.get?_push_of_some _ hx
    refine back h' tk' hp.objs.size (fun c o hc ho => ?_) (Nat.le_refl _) apart.symm ?_ ns'
    · exact (same.2 c (Nat.ne_of_lt (Heap.lt_size ho))).trans ((Heap.get?_update_ne _ _ _ _ hc).trans (Heap.get?_push_of_some _ ho))
    · exact (same.2 x apart).trans (Heap.get?_update_self _ there rfl)
end
end DLS
namespace DL
open PySem PySem.Spec PyProof.Rows L2
section
variable {X : Cx} {pins : List (Addr × Obj)} {σ : L2.St} {H : Hp} {s : Shared} {a C dx : Addr} {f : Str} {y : V} {u : Value} {A : Around} {B nw ini : String} {tl : List Value}
/-- self.f = y -/
theorem x_store {Q : Unit → Shared → Prop} {E : Value → Shared → Prop} (T : XCls X.K C B nw ini tl) (I : Inv X pins σ H s) (e : H a = some (exo a C none)) (no : PySem.W.findIn X.K (.ref C) f = some none) (ry : RelV y u)
    (h : ∀ dx s', H dx = none → dx ≠ a → Inv X pins σ (upd (upd H dx (exd dx [(f, y)])) a (exo a C (some dx))) s' → Q () s') : wpAny (model X.prog X.w) A (setAttr (.ref a) f u) Q E s := by
  obtain ⟨nm, q, N, bs, bm, sn, sub, ab, col, dd, k0, k1, k2, k3, k5, hC, hbm⟩ := T.here
  have hcl : PySem.W.clsIn X.K C = some { name := nm, bases := bs, mro := .ref C :: bm, ns := N, qualname := q, hasDict := true, slotNames := sn, subclasses := sub, abstract := ab, collection := col, hasDel := false } := by unfold PySem.W.clsIn; rw [hC] <;> rfl
  obtain ⟨t1, ho⟩ := exo_at I.hok e
  obtain ⟨hp, g, d, t, os⟩ := s
  refine PySem.W.set_plain I.kIn (ox := { cls := .ref C, dict := none, data := .fields #[.ref t1, .none, .none, .none, .bool false, .none] }) (od := none) ⟨ho, rfl, rfl, trivial⟩ T.store ?_
  refine DLS.store_first T.bs I.kIn ho hcl (hbm.own C) rfl no fun h' tk' dx k big ne hx hn => ?_
  have free : H dx = none := I.hok.fresh big
  have old : ∀ {b : Addr} {o : Obj}, hp.get? b = some o → b ≠ dx := fun {b o} q => Nat.ne_of_lt (Nat.lt_of_lt_of_le (Heap.lt_size q) big)
  have nota : ∀ {b : Addr}, H b = none → b ≠ a := fun {b} n z => by
    rw [z, e] at n
    cases n
  have un : Un X.fs [] H (upd (upd H dx (exd dx [(f, y)])) a (exo a C (some dx))) hp h' := {
    keep := fun b o q n _ _ => k b o (nota n) q
    slot := fun b o q n _ _ => ⟨o.slots, k b o (nota n) q⟩
    free := fun b o q n _ => by rw [upd_ne (nota n), upd_ne (old q)]; exact n
    there := fun b o q _ => by
      rcases Decidable.em (b = a) with same | other
      · exact ⟨_, by rw [same]; exact hx⟩
      · exact ⟨o, k b o other q⟩
    tups := fun b xs q => by rw [upd_ne (at_ne e q exo_tup), upd_ne (ne_of_none q free)]; exact q
    frzs := fun b o v q => by rw [upd_ne (at_ne e q exo_frz), upd_ne (ne_of_none q free)]; exact q
    tbls := fun b ps q => ⟨#[], by rw [upd_ne (at_ne e q exo_tbl), upd_ne (ne_of_none q free), q]; simp⟩ }
  refine h dx _ free ne (I.un (t' := tk') un fun b o q => ?_)
  rcases Decidable.em (b = a) with rfl | other
  · rw [upd_same] at q
    cases q
    exact exo_ok hx
  · rw [upd_ne other] at q
    rcases Decidable.em (b = dx) with rfl | far
    · rw [upd_same] at q
      cases q
      exact exd_ok hn (relO_put (fs := []) ry fun g => True.intro)
    · rw [upd_ne far] at q
      refine (I.hok b o q).stay (fun c v hc z => k c v ?_ z) (fun c hc => ?_) (fun c xs hc => ?_)
      · rcases hc with rfl | hc
        · exact other
        · exact at_ne e hc exo_own
      · rw [upd_ne (at_ne e hc exo_own), upd_ne (ne_of_none hc free)]; exact hc
      · rw [upd_ne (at_ne e hc exo_tup), upd_ne (ne_of_none hc free)]; exact hc
/-- B.__init__(self, ..) -/
theorem x_init {us : List Value} {Q : Value → Shared → Prop} {E : Value → Shared → Prop} (T : XCls X.K C B nw ini tl) (I : Inv X pins σ H s) (e : H a = some (exo a C none)) (few : us.length ≤ sizeLine) (h : ∀ s', Inv X pins σ H s' → Q .none s') :
    wpAny (model X.prog X.w) A (call (.builtin ini) (.ref a :: us)) Q E s := by
  obtain ⟨nm, q, N, bs, bm, sn, sub, ab, col, dd, k0, k1, k2, k3, k5, hC, hbm⟩ := T.here
  obtain ⟨t1, ho⟩ := exo_at I.hok e
  obtain ⟨hp, g, d, t, os⟩ := s
  refine wpAny_call (PySem.HandSPX.init_base T.bs.facts (fun Y => hbm.has Y) (I.kIn _ _ hC) ho few fun h' t2 k hx => ?_)
  have J := I.write (t' := t) (x := a) (e := a) (o := exo a C none) (by rw [e]; exact True.intro) (.inl rfl) k ⟨_, hx⟩ (exo_ok hx)
  have same : upd H a (exo a C none) = H := funext fun b => by
    rcases Decidable.em (b = a) with rfl | other
    · rw [upd_same, e]
    · rw [upd_ne other]
  rw [same] at J
  exact h _ J
end
/-- B.__init__(self, ..), B a built-in exception, or an own one without an __init__ -/
def tXI (C : Addr) (ta : TA) : TE := fun σ H Q => ta σ H fun vs H1 => ∃ (a : Addr) (ws : List V), vs = .ref a :: ws ∧ ws.length ≤ 1000 ∧ H1 a = some (exo a C none) ∧ Q .non H1
def tXS (C : Addr) (f : Str) (to te : TE) : TS := fun D σ H => te σ H fun y H1 => to σ H1 fun x H2 => ∃ a : Addr, x = .ref a ∧ H2 a = some (exo a C none) ∧ ∀ dx, H2 dx = none → dx ≠ a → D.nx σ (upd (upd H2 dx (exd dx [(f, y)])) a (exo a C (some dx)))
section
variable {X : Cx} {o e : Expr} {es : List Expr} {to te : TE} {ta : TA} {f x : Str} {p p' p1 p2 pos : Pos} {C : Addr} {B nw ini : String} {tl : List Value}
/-- how the name before the point is read -/
inductive InitOf (X : Cx) (x : Str) (ini : String) : Prop where
  | blt (B : String) (hm : X.mg x = none) (hv : bootBuiltins x = some (.type B)) (hx : x ≠ "__name__") (hs : Manifest.isStub B = false) (ht : typeOf (.type B) = pure (.type "type")) (fc : PySem.W.findCls X.K (.type B) (.type "type") "__init__" = some (.val (.builtin ini))) (hh : PySem.W.handedIn (.builtin ini) = true)
  | own (L : Addr) (hm : X.mg x = some (.ref L)) (sp : PySem.W.specialIn X.K (.ref L) "__getattribute__" = some (some (.builtin "type.__getattribute__"))) (rd : PySem.W.readsIn X.K L (.type "type") = true) (fc : PySem.W.findCls X.K (.ref L) (.type "type") "__init__" = some (.val (.builtin ini))) (hh : PySem.W.handedIn (.builtin ini) = true)
theorem pe_xinit {pl : Sem Bool} (T : XCls X.K C B nw ini tl) (hg : Gl X x) (how : InitOf X x ini) (ha : PA X (e :: es) ta) (hdb : (x == ("__debug__" : Str)) = false := by decide)
    (hc : eval (.Call (.Attribute (.Name x p1) "__init__" p2) (e :: es) [] pos) X.env = (do
      let ov ← eval (.Name x p1) X.env
      standAt p2.atName
      let (f, first) ← holding [ov] (getMethod ov "__init__" pl)
      callWith pos f first (backTo pos (starEach (e :: es) X.env)) (backToKw pos (keywordEach [] X.env))) := by rfl)
    (he : starEach (e :: es) X.env = (false, eval e X.env) :: starEach es X.env := by rfl) (hpl : (backTo pos (starEach es X.env)).any (·.1) = false := by rfl) :
    PE X (.Call (.Attribute (.Name x p1) "__init__" p2) (e :: es) [] pos) (tXI C ta) := by
  refine ⟨fun pins s σ H Q I h => ?_⟩
  have run : ∀ tk, wpAny (model X.prog X.w) X.A (callWith pos (Value.builtin ini) [] (backTo pos (starEach (e :: es) X.env)) []) (EP X pins σ Q) X.xe { s with toks := tk } := fun tk => by
    refine PyProof.Rows.callWith_method1 (thn (ha.run pos pins _ σ H _ (I.tok _) h) fun us s1 ⟨vs, H1, I1, r1, a, ws, ev, few, ea, q⟩ => ?_) he hpl
    subst ev
    cases r1 with
    | @cons _ u0 _ ur ra rw' =>
      obtain rfl : u0 = Value.ref a := ra
      have few2 : ur.length ≤ sizeLine := by
        rw [← Paired.length rw', sizeLine_eq]
        omega
      exact x_init T I1 ea few2 fun s' J => ⟨.non, H1, J, rfl, q⟩
  obtain ⟨m, fr⟩ := I.fr
  cases how with
  | blt B hm hv hx hs ht fc hh =>
    refine PySem.W.methodCall_KW (ld_blt I hg hm hv ?_ hx hdb) hc
    exact PySem.W.method_type fr I.ok.mod.kin ht hs fc hh (run _)
  | own L hm sp rd fc hh =>
    refine PySem.W.methodCall_KW (ld_glob I hg hm ?_ hdb) hc
    exact PySem.W.method_cls I.kIn sp (PySem.W.cls_value I.kIn rd fc hh (run _))
theorem ps_xstore (T : XCls X.K C B nw ini tl) (no : PySem.W.findIn X.K (.ref C) f = some none) (ho : PE X o to) (he : PE X e te) (hs : swapsWith e (some (.Attribute o f p')) pos.line X.env = pure false := by rfl) : PS X (.Assign [.Attribute o f p'] e pos) (tXS C f to te) := by
  refine ⟨fun pins s σ H D I h => ?_⟩
  refine plainObj_wpAny_Assign_Attribute (thn (he.run pins s σ H _ I h) fun v s1 ⟨y, H1, I1, r1, q1⟩ => thn (ho.run pins s1 σ H1 _ I1 q1) fun u s2 ⟨x, H2, I2, r2, a, ex, ea, q⟩ => ?_) hs
  subst ex
  obtain rfl : u = Value.ref a := r2
  exact x_store T I2 ea no r1 fun dx s' n ne J => ⟨σ, _, J, q dx n ne⟩
end
/-- what __init__(self, value) of such a class does -/
def spX (C : Addr) (f : Str) : Sp := fun vs H Q _ => ∃ (a : Addr) (v : V), vs = [.ref a, v] ∧ H a = some (exo a C none) ∧ ∀ dx, H dx = none → dx ≠ a → Q .non (upd (upd H dx (exd dx [(f, v)])) a (exo a C (some dx)))
section
variable {P : Program} {w : World} {K : PySem.W.Frag} {mg : Str → Option Value} {base : Heap} {C : Addr} {B nw ini : String} {tl : List Value}
/-- the __init__ of the text: B.__init__(self, 'text'); self.f = v -/
theorem x_def {qual f v : Str} {sd : Stmt} {fa : Addr} {fd : FuncData} {m : Str} (F : Fun K "__init__" qual sd fa fd) (S : FnScope ["self", v] ["self", v] (defScope sd))
    (hb : ∀ (cdv : Value) (A : Around) (outer : List PySem.Env) (s : Shared) (H : Hp) (E : XK), PSs (cxOf (L2.CX P w) P w K mg base ["self", v] qual (defScope sd) fa cdv A outer s H E) (defBody sd) (tSeq (tDrop (tXI C (tCons (tVar 0) (tCons (tC (.str m)) tNil)))) (tXS C f (tVar 0) (tVar 1)))) :
    FnOk P w K mg base (L2.CX P w) 1 fa fd ["self", v] (spX C f) := by
  refine Fun.okX F S (fun vs H Q E h => ?_) fun cdv A outer s H vs Q E hr h => ?_
  · obtain ⟨a, y, rfl, _⟩ := h
    rfl
  · obtain ⟨a, y, rfl, ea, q⟩ := h
    refine ⟨_, hb cdv A outer s H E, ?_⟩
    refine ⟨.ref a, rfl, a, [.str m], rfl, (by show 1 ≤ 1000; omega), ea, ?_⟩
    exact ⟨y, rfl, .ref a, rfl, a, rfl, ea, fun dx n ne => q dx n ne⟩
end
/-- C(e): the class with one field -/
def tXM (C : Addr) (f : Str) (ta : TE) : L2.St → Hp → XK → Prop := fun σ H Q => ta σ H fun v H1 => ∀ d, H1 d = none → Q (.ref C) (some d) (upd H1 d (.xd [(f, v)]))
section
variable {X : Cx} {e : Expr} {ta : TE} {f x : Str} {p pos : Pos} {C fI : Addr} {B nw ini : String} {tl : List Value} {fd : FuncData} {v : Str}
theorem pmk_x (T : XCls X.K C B nw ini tl) (iC : PySem.W.findIn X.K (.ref C) "__init__" = some (some (.ref fI))) (tI : PySem.W.typeIn X.K (.ref fI) = some (.type "function"))
    (F1 : FnOk X.prog X.w X.K X.mg X.base (L2.CX X.prog X.w) 1 fI fd ["self", v] (spX C f)) (hr : Room 2 X.A) (hb : Binds X.K fd ["self", v] []) (hg : Gl X x) (hm : X.mg x = some (.ref C)) (ha : PE X e ta)
    (hdb : (x == ("__debug__" : Str)) = false := by decide) (he : starEach [e] X.env = (false, eval e X.env) :: starEach [] X.env := by rfl) (hpl : (backTo pos (starEach [] X.env)).any (·.1) = false := by rfl) :
    PMk X (.Call (.Name x p) [e] [] pos) (tXM C f ta) := by
  intro pins s σ H Q I h
  obtain ⟨nm, q, N, bs, bm, sn, sub, ab, col, dd, k0, k1, k2, k3, k5, hC, hbm⟩ := T.here
  refine wpAny_Call_Name_kw (ld_glob I hg hm ?_ hdb)
  refine PySem.W.callWith_K (h₀ := X.base) I.ok.mod.kin T.keeps (thn ((pa_cons ha pa_nil he).run pos pins s σ H (fun vs H1 => ∃ y, vs = [y] ∧ ∀ d, H1 d = none → Q (.ref C) (some d) (upd H1 d (.xd [(f, y)]))) I (by
    show ta σ H _
    have key : (fun (x : V) H1 => tNil σ H1 fun xs H2 => (fun (vs : List V) (H1 : Hp) => ∃ y, vs = [y] ∧ ∀ d, H1 d = none → Q (.ref C) (some d) (upd H1 d (.xd [(f, y)]))) (x :: xs) H2) = (fun (v : V) H1 => ∃ y, [v] = [y] ∧ ∀ d, H1 d = none → Q (.ref C) (some d) (upd H1 d (.xd [(f, y)]))) := rfl
    rw [key]
    have key2 : (fun (v : V) (H1 : Hp) => ∃ y, [v] = [y] ∧ ∀ d, H1 d = none → Q (.ref C) (some d) (upd H1 d (.xd [(f, y)]))) = fun (v : V) (H1 : Hp) => ∀ d, H1 d = none → Q (.ref C) (some d) (upd H1 d (.xd [(f, v)])) := by
      funext v H1
      exact propext ⟨fun ⟨y, e1, z⟩ => by cases e1; exact z, fun z => ⟨v, rfl, z⟩⟩
    rw [key2]
    exact h)) fun us s1 ⟨vs, H1, I1, r1, y, ev, q1⟩ => ⟨I1.kIn, ?_⟩) he hpl
  subst ev
  show wpAny _ _ (call (.ref C) us) _ _ _
  obtain ⟨hp, g, dr, tk, os⟩ := s1
  have big : hp.objs.size ≤ hp.objs.size + 1 := Nat.le_succ _
  have free : H1 (hp.objs.size + 1) = none := I1.hok.fresh big
  have kept : ∀ b o, hp.get? b = some o → ((hp.push (PySem.W.kdv_tup us)).push (PySem.HandSPX.excO C hp.objs.size)).get? b = some o := fun b o z => Heap.get?_push_of_some _ (Heap.get?_push_of_some _ z)
  have there : ((hp.push (PySem.W.kdv_tup us)).push (PySem.HandSPX.excO C hp.objs.size)).get? (hp.objs.size + 1) = some (PySem.HandSPX.excO C hp.objs.size) := by heap_get
  have I2 : Inv X pins σ (upd H1 (hp.objs.size + 1) (exo (hp.objs.size + 1) C none)) ⟨(hp.push (PySem.W.kdv_tup us)).push (PySem.HandSPX.excO C hp.objs.size), g, dr, tk, os⟩ :=
    I1.laid (t' := tk) (a := hp.objs.size + 1) (o := exo (hp.objs.size + 1) C none) (h' := (hp.push (PySem.W.kdv_tup us)).push (PySem.HandSPX.excO C hp.objs.size)) kept big (exo_ok there)
  have r2 : Vals [V.ref (hp.objs.size + 1), y] (Value.ref (hp.objs.size + 1) :: us) := .cons rfl r1
  have few : us.length ≤ sizeLine := by
    rw [← Paired.length r1, sizeLine_eq]
    show 1 ≤ _
    omega
  have long : (Value.ref (hp.objs.size + 1) :: us ++ ([] : List Value)).length = (["self", v] : List Str).length := by
    rw [List.append_nil, ← Paired.length r2]; rfl
  have bind := hb _ (Value.ref (hp.objs.size + 1) :: us) I2.kIn long
  rw [List.append_nil] at bind
  have want : spX C f [V.ref (hp.objs.size + 1), y] (upd H1 (hp.objs.size + 1) (exo (hp.objs.size + 1) C none)) (fun r H2 => r = .non ∧ ∃ (d : Addr) (fs : List (Str × V)), H2 (hp.objs.size + 1) = some (exo (hp.objs.size + 1) C (some d)) ∧ H2 d = some (exd d fs) ∧ H1 d = none ∧ Q (.ref C) (some d) (upd (del H2 (hp.objs.size + 1)) d (.xd fs))) (fun _ _ _ => False) := by
    refine ⟨_, y, rfl, upd_same, fun dx n ne => ⟨rfl, dx, [(f, y)], upd_same, ?_, ?_, ?_⟩⟩
    · rw [upd_ne ne, upd_same]
    · rw [upd_ne ne] at n; exact n
    · have n1 : H1 dx = none := by rw [upd_ne ne] at n; exact n
      have same : upd (del (upd (upd (upd H1 (hp.objs.size + 1) (exo (hp.objs.size + 1) C none)) dx (exd dx [(f, y)])) (hp.objs.size + 1) (exo (hp.objs.size + 1) C (some dx))) (hp.objs.size + 1)) dx (.xd [(f, y)]) = upd H1 dx (.xd [(f, y)]) := funext fun b => by
        rcases Decidable.em (b = dx) with rfl | other
        · rw [upd_same, upd_same]
        · rw [upd_ne other, upd_ne other]
          rcases Decidable.em (b = hp.objs.size + 1) with rfl | far
          · rw [del_same, free]
          · rw [del_ne far, upd_ne far, upd_ne other, upd_ne far]
      rw [same]
      exact q1 dx n1
  refine wpAny_call (PySem.HandSPX.call_own T.bs.facts (fun Y => hbm.has Y) (I1.kIn _ _ hC) (PySem.W.looks_findIn I1.kIn iC) (fun self => PySem.W.bind_fn I1.kIn self tI) few
    (codeAny_mono (F1.run _ X.stack _ _ ⟨Value.ref (hp.objs.size + 1) :: us, []⟩ (Value.ref (hp.objs.size + 1) :: us) _ _ (fun _ _ _ => False) (hr.make C us []) (I2.env0.make C us []) bind r2 want) fun r s' z => ?_))
  cases r with
  | error er => exact passL pins σ _ _ er s' I2 z
  | ok fl =>
    cases fl with
    | next => exact z.elim
    | brk => exact z.elim
    | cont => exact z.elim
    | ret u =>
      obtain ⟨rv, H2, os2, bare2, un2, hok2, r, ev, d, fs, ea, ed, hd1, q2⟩ := z
      subst ev
      obtain ⟨h2, g2, d2, t2, os'⟩ := s'
      exact ⟨r, mk_end (raises_own T.isE T.ty) I1 big kept un2 hok2 os2 bare2 ea ed hd1 q2⟩
end
end DL
set_option Elab.async false
set_option linter.all false
set_option maxRecDepth 100000
set_option maxHeartbeats 4000000
/-! raise, try -/
namespace DL
open PySem PySem.Spec PyProof.Rows L2
/-! ### raise C(e) -/
def fRaise (c : Nat) (fe : FE) : FS := fun e => toS (fe e) fun (p, e1) => toS (settle e1 p) fun (d, e2) => .ex c d e2
section
variable {T : Tb} {W : WX} {X : Cx}
theorem ss_raise {x : Expr} {te : TE} {fe : FE} {c : Nat} {C : Addr} {f : Str} {y : Expr} {pos : Pos} (hc : X.calm = true) (tk : Takes X W) (hm : ∀ t, PE X y t → PMk X x (tXM C f t)) (he : SE T W X y te fe) (hC : T.cls c = (C, [f])) :
    SS T W X (.Raise (some x) none pos) (fun _ σ H => tXM C f te σ H fun cls d H' => W cls d σ H') (fRaise c fe) := by
  refine ⟨ps_raise hc tk (hm _ he.1), fun Pr A G H σ e D s h => ?_⟩
  refine he.2 Pr A G H σ e _ s (h.first fun p1 e1 v1 G1 H1 x1 s1 q1 h1 => ?_)
  dsimp only at h1
  intro dct free
  cases q2 : settle e1 p1 with
  | no => rw [q2] at h1; exact h1.elim
  | ex _ _ _ => exact absurd q2 settle_nx
  | ok a =>
    obtain ⟨d, e2⟩ := a
    rw [q2] at h1
    obtain ⟨G2, x2, s2, r2⟩ := settle_ok s1 q1 q2
    have h2 : WExS ⟨T, Pr, A⟩ W G1 c d e2 := h1
    have := h2 dct v1 f σ G2 (upd H1 dct (.xd [(f, v1)])) x2 (s2.grow (Sub.new free)) r2 (by rw [hC]) upd_same
    rw [hC] at this
    exact this
end
/-! ### the clauses of a try -/
abbrev Hd := Option Nat × Value × (Addr → Value → Option Addr → TS)
def Ends.un (D : Ends) (i : Nat) : Ends := { nx := fun σ H => D.nx (σ.set i none) H, rt := D.rt, bk := fun σ H => D.bk (σ.set i none) H, ct := fun σ H => D.ct (σ.set i none) H }
/-- a clause's suite, run for the exception at a -/
def runHd (D : Ends) (a : Addr) (cls : Value) (d : Option Addr) : Option Nat → (Addr → Value → Option Addr → TS) → L2.St → Hp → Prop
  | none, ts, σ, H => ts a cls d D σ H
  | some i, ts, σ, H => ts a cls d (Ends.un D i) (σ.set i (some (.ref a))) H
def wHds (K : PySem.W.Frag) (Wout : WX) (D : Ends) : List Hd → WX
  | [] => Wout
  | (o, c, ts) :: r => fun cls d σ H => ∃ b, PySem.W.exmOne K cls c = some b ∧ (b = true → ∀ a, H a = none → runHd D a cls d o ts σ H) ∧ (b = false → wHds K Wout D r cls d σ H)
inductive Hds (X : Cx) : List ExceptHandler → List Hd → Prop
  | nil : Hds X [] []
  | plain {x : Str} {c : Value} {ts : Addr → Value → Option Addr → TS} {b₀ : Stmt} {suite : List Stmt} {np pos' : Pos} {hds : List ExceptHandler} {l : List Hd} (hc : Names X x c)
      (hsu : ∀ (a : Addr) (oe : Obj) (cls : Value) (d : Option Addr) (pn : List (Addr × Obj)), Zc cls d oe → (∃ vs, oe.data = .fields vs) → PSs (X.suite a ((a, oe) :: pn)) (b₀ :: suite) (ts a cls d)) (r : Hds X hds l) :
      Hds X (.ExceptHandler (some (.Name x np)) none (b₀ :: suite) pos' :: hds) ((none, c, ts) :: l)
  | named {x n : Str} {i : Nat} {c : Value} {ts : Addr → Value → Option Addr → TS} {b₀ : Stmt} {suite : List Stmt} {np pos' : Pos} {hds : List ExceptHandler} {l : List Hd} (hi : X.N[i]? = some n) (hln : X.env.kindOf n = some .local) (hc : Names X x c)
      (hsu : ∀ (a : Addr) (oe : Obj) (cls : Value) (d : Option Addr) (pn : List (Addr × Obj)), Zc cls d oe → (∃ vs, oe.data = .fields vs) → PSs (X.suite a ((a, oe) :: pn)) (b₀ :: suite) (ts a cls d)) (r : Hds X hds l) :
      Hds X (.ExceptHandler (some (.Name x np)) (some n) (b₀ :: suite) pos' :: hds) ((some i, c, ts) :: l)
section
variable {X : Cx} {body : List Stmt} {h₀ : ExceptHandler} {hds : List ExceptHandler} {l : List Hd} {pos : Pos} {tb : WX → TS} {Wout : WX}
theorem ps_try (stk : X.stack = X.env :: X.outer) (frm : X.env.frame = some X.env.locals) (nd : X.N.Nodup) (tk : Takes X Wout)
    (runs : ∀ (W : WX) (pn : List (Addr × Obj)) (xe : Value → Shared → Prop), Takes (X.tr pn xe) W → PassesOwn (model X.prog X.w) X.A X.env xe → PSs (X.tr pn xe) body (tb W))
    (hh : Hds X (h₀ :: hds) l) : PS X (.Try body (h₀ :: hds) [] [] pos) (fun D σ H => (∃ (pn : List (Addr × Obj)) (xe : Value → Shared → Prop), Takes (X.tr pn xe) (wHds X.K Wout D l) ∧ PassesOwn (model X.prog X.w) X.A X.env xe) → tb (wHds X.K Wout D l) D σ H) := by
  refine ⟨fun pins s σ H D I want => ?_⟩
  have good := I.ok
  have frames : X.A.frames = some (X.env :: X.outer) := by rw [good.frames, stk]
  refine wpAny_Try_except ?_
  have takes : Takes (X.tr (X.pn ++ pins) (fun e s₁ => wpAny (model X.prog X.w) X.A (noteFrame e X.env) (fun _ s₂ => wpAny (model X.prog X.w) X.A (setFlight e none) (fun _ s₃ =>
      wpAny (model X.prog X.w) X.A (handleBy e X.env (h₀ :: hds)) (SP X pins D) X.xe s₃) X.xe s₂) X.xe s₁)) (wHds X.K Wout D l) := by
    intro u s' air
    obtain ⟨a, B, sI, pins', σ', H', cls, d, rfl, J', nb, up, sky, free, os, ag, w⟩ := air
    have J : Inv X pins σ' H' sI := J'.ofTry good
    have flies : Sky B (X.env :: X.outer) a (Zc cls d) X.env.locals s'.heap := by rw [← stk]; exact sky
    show wpAny (model X.prog X.w) X.A (noteFrame (.ref a) X.env) _ _ _
    refine Sky.land Zc.steady frames frm flies fun h3 fl3 up3 => ?_
    have J3 : Inv X pins σ' H' { s' with heap := h3 } := J.landed nb fl3.1 (up.trans up3) os ag
    obtain ⟨oe3, vs3, at3, zc3, fields3⟩ := fl3.there
    have noFrame : a ∉ frs (X.env :: X.outer) := fun hm => by
      obtain ⟨_, o', e', hnf⟩ := fl3.2.2.1.mem hm
      rw [at3] at e'; cases e'
      exact hnf _ fields3
    have notL : a ≠ X.env.locals := fun z => noFrame (List.mem_filterMap.mpr ⟨X.env, List.mem_cons_self, by rw [frm, z]⟩)
    have notF : a ∉ X.fs := fun hm => by
      obtain ⟨e, he, q⟩ := List.mem_filterMap.mp hm
      exact noFrame (List.mem_filterMap.mpr ⟨e, List.mem_cons_of_mem _ he, q⟩)
    have S3 := J3.suite at3 fields3 free notL notF
    have tests : ∀ {x : Str} {c : Value} {np : Pos} {Q : Value → Shared → Prop} {E : Value → Shared → Prop}, Names X x c → Q c { s' with heap := h3 } → wpAny (model X.prog X.w) (X.A.mark (some (.ref a))) (eval (.Name x np) X.env) Q E { s' with heap := h3 } := fun {x c np Q E} hc q => by
      obtain ⟨g, ndb, m | ⟨m, v, nn⟩⟩ := hc
      · exact ld_glob (X := X.suite a ((a, oe3) :: (X.pn ++ pins))) S3 g m q ndb
      · exact ld_blt (X := X.suite a ((a, oe3) :: (X.pn ++ pins))) S3 g m v q nn ndb
    have kind : PySem.W.Looks (model X.prog X.w) h3 (typeOf (.ref a)) cls := fun A Q E s k q => wpAny_typeOf_ref (k _ _ at3) (by rw [zc3.1]; exact q)
    have go : ∀ {hds' : List ExceptHandler} {l' : List Hd}, Hds X hds' l' → wHds X.K Wout D l' cls d σ' H' → wpAny (model X.prog X.w) X.A (handleBy (.ref a) X.env hds') (SP X pins D) X.xe { s' with heap := h3 } := by
      intro hds' l' hk
      induction hk with
      | nil =>
        intro w
        refine wpAny_handleBy_nil ?_
        obtain ⟨_, _, _, oe, vs, Tb, oT, ts', he, hz, hd, h1, hr⟩ := id fl3
        unfold PySem.passOn
        refine wpAny_bind (wpAny_field he hd h1 ?_)
        rw [if_neg (show ¬ ((Value.ref Tb == Value.none) = true) from by simp)]
        have onward : wpAny (model X.prog X.w) X.A (setFlight (.ref a) X.env.frame) (fun _ s4 => wpAny (model X.prog X.w) X.A (throw (.ref a) : Sem Flow) (SP X pins D) X.xe s4) X.xe { s' with heap := h3 } := by
          rw [frm]
          refine HandSPX.setFlight_upZ fl3 fun h4 hh4 up4 => wpAny_throw (tk _ _ ?_)
          exact ⟨a, B, sI, pins, σ', H', cls, d, rfl, J, nb, (up.trans up3).trans up4, .inr (.inr (by rw [stk]; exact hh4)), free, os, ag, w⟩
        first
          | exact wpAny_bind (wpAny_pure (wpAny_bind onward))
          | exact wpAny_bind onward
      | @plain x c ts b₀ suite np pos' hds2 l2 hc hsu r ih =>
        intro w
        obtain ⟨b, same, yes, no⟩ := w
        refine wpAny_handleBy_cons (codeAny_handlers_test ?_) (by intro q; cases q)
        refine tests hc ((PySem.W.exm_one (M := model X.prog X.w) J3.kIn kind same).here ?_)
        cases b with
        | false =>
          show wpAny _ X.A (handleBy (.ref a) X.env hds2) _ _ _
          exact ih (no rfl)
        | true =>
          refine codeAny_handlers_suite ?_
          refine HandSPX.lands_againZ fl3 fun h4 fl4 up4 => ?_
          have J4 : Inv X pins σ' H' { s' with heap := h4 } := J.landed nb fl4.1 ((up.trans up3).trans up4) os ag
          obtain ⟨oe4, vs4, at4, zc4, fields4⟩ := fl4.there
          have S4 := J4.suite at4 fields4 free notL notF
          refine wpAny_mono ((hsu a oe4 cls d (X.pn ++ pins) zc4 ⟨_, fields4⟩).run [] _ _ H' _ S4 (yes rfl a free)) (fun f s6 ended => ?_) (fun _ _ z => False.elim z)
          cases f with
          | next => obtain ⟨σ6, H6, S6, q6⟩ := ended; exact ⟨_, _, S6.unsuite good, q6⟩
          | brk => obtain ⟨σ6, H6, S6, q6⟩ := ended; exact ⟨_, _, S6.unsuite good, q6⟩
          | cont => obtain ⟨σ6, H6, S6, q6⟩ := ended; exact ⟨_, _, S6.unsuite good, q6⟩
          | ret u => obtain ⟨v6, σ6, H6, S6, r6, q6⟩ := ended; exact ⟨_, _, _, S6.unsuite good, r6, q6⟩
      | @named x n i c ts b₀ suite np pos' hds2 l2 hi hln hc hsu r ih =>
        intro w
        obtain ⟨b, same, yes, no⟩ := w
        refine wpAny_handleBy_cons (codeAny_handlers_test ?_) (by intro q; cases q)
        refine tests hc ((PySem.W.exm_one (M := model X.prog X.w) J3.kIn kind same).here ?_)
        cases b with
        | false =>
          show wpAny _ X.A (handleBy (.ref a) X.env hds2) _ _ _
          exact ih (no rfl)
        | true =>
          refine codeAny_handlers_suite_as ?_
          refine HandSPX.lands_againZ fl3 fun h4 fl4 up4 => ?_
          have J4 : Inv X pins σ' H' { s' with heap := h4 } := J.landed nb fl4.1 ((up.trans up3).trans up4) os ag
          obtain ⟨oe4, vs4, at4, zc4, fields4⟩ := fl4.there
          have S4 := J4.suite at4 fields4 free notL notF
          refine store_ok (X := X.suite a ((a, oe4) :: (X.pn ++ pins))) (v := .ref a) S4 nd hi (.inl hln) rfl (fun s5 S5 => ?_) (.inr hln)
          refine wpAny_mono ((hsu a oe4 cls d (X.pn ++ pins) zc4 ⟨_, fields4⟩).run [] s5 _ H' _ S5 (yes rfl a free)) (fun f s6 ended => ?_) (fun _ _ z => False.elim z)
          have leave : ∀ {σ6 : L2.St} {H6 : Hp} {Q : Shared → Prop}, Inv (X.suite a ((a, oe4) :: (X.pn ++ pins))) [] σ6 H6 s6 → (∀ s7, Inv X pins (σ6.set i none) H6 s7 → Q s7) →
              wpAny (model X.prog X.w) X.A (do bindName X.env n .none; unbindBehindTheSuite X.env n pos') (fun _ s7 => Q s7) X.xe s6 := fun {σ6 H6 Q} S6 hq => gone_ok (S6.unsuite good) nd hi hln hq
          cases f with
          | next => obtain ⟨σ6, H6, S6, q6⟩ := ended; exact leave S6 fun s7 J7 => ⟨_, _, J7, q6⟩
          | brk => obtain ⟨σ6, H6, S6, q6⟩ := ended; exact leave S6 fun s7 J7 => ⟨_, _, J7, q6⟩
          | cont => obtain ⟨σ6, H6, S6, q6⟩ := ended; exact leave S6 fun s7 J7 => ⟨_, _, J7, q6⟩
          | ret u => obtain ⟨v6, σ6, H6, S6, r6, q6⟩ := ended; exact leave S6 fun s7 J7 => ⟨_, _, _, J7, r6, q6⟩
    exact go hh w
  have passes : PassesOwn (model X.prog X.w) X.A X.env (fun e s₁ => wpAny (model X.prog X.w) X.A (noteFrame e X.env) (fun _ s₂ => wpAny (model X.prog X.w) X.A (setFlight e none) (fun _ s₃ =>
      wpAny (model X.prog X.w) X.A (handleBy e X.env (h₀ :: hds)) (SP X pins D) X.xe s₃) X.xe s₂) X.xe s₁) := PassesOwn.looking
  refine wpAny_mono ((runs (wHds X.K Wout D l) (X.pn ++ pins) _ takes passes).run [] s σ H D (I.toTry _) (want ⟨_, _, takes, passes⟩)) (fun f s1 ended => ?_) (fun e s1 he => he)
  · cases f with
    | next =>
      obtain ⟨σ', H', J', q⟩ := ended
      exact wpAny_execs_nil ⟨σ', H', J'.ofTry good, q⟩
    | brk => obtain ⟨σ', H', J', q⟩ := ended; exact ⟨σ', H', J'.ofTry good, q⟩
    | cont => obtain ⟨σ', H', J', q⟩ := ended; exact ⟨σ', H', J'.ofTry good, q⟩
    | ret u => obtain ⟨v, σ', H', J', r, q⟩ := ended; exact ⟨v, σ', H', J'.ofTry good, r, q⟩
end
/-! ### their mirrors -/
abbrev HM := (Nat → Option Bool) × (Nat → D → Env → Oc)
@[simp] def fHds : List HM → Nat → D → Env → Oc
  | [], c, d, e => .ex c d e
  | (mt, k) :: r, c, d, e => match mt c with
    | some true => k c d e
    | some false => fHds r c d e
    | none => .no
def fTry (fb : FS) (hs : List HM) : FS := fun e => match fb e with
  | .ex c d e1 => fHds hs c d e1
  | o => o
/-- a clause keeps to its mirror -/
structure HOk1 (T : Tb) (W : WX) (h : Hd) (m : HM) : Prop where
  same : ∀ c b, m.1 c = some b → PySem.W.exmOne T.K (.ref (T.cls c).1) h.2.1 = some b
  run : ∀ (Pr : Hp) (A : Nat → Option Addr) (G H : Hp) (σ : L2.St) (e : Env) (D : Ends) (c : Nat) (d : DL.D) (a dct : Addr) (v : V) (f : Str), SR ⟨T, Pr, A⟩ G H σ e → Rp T G d v → (T.cls c).2 = [f] → H dct = some (.xd [(f, v)]) → H a = none → m.1 c = some true →
    OkS ⟨T, Pr, A⟩ W G D (m.2 c d e) → runHd D a (.ref (T.cls c).1) (some dct) h.1 h.2.2 σ H
inductive HsOk (T : Tb) (W : WX) : List Hd → List HM → Prop
  | nil : HsOk T W [] []
  | cons {h m l r} (a : HOk1 T W h m) (b : HsOk T W l r) : HsOk T W (h :: l) (m :: r)
theorem hds_run {T : Tb} {W : WX} {l : List Hd} {ms : List HM} (h : HsOk T W l ms) {Pr : Hp} {A : Nat → Option Addr} {G H : Hp} {σ : L2.St} {e : Env} {D : Ends} {c : Nat} {d : DL.D} {dct : Addr} {v : V} {f : Str} (s : SR ⟨T, Pr, A⟩ G H σ e) (r : Rp T G d v)
    (nm : (T.cls c).2 = [f]) (hd : H dct = some (.xd [(f, v)])) (q : OkS ⟨T, Pr, A⟩ W G D (fHds ms c d e)) : wHds T.K W D l (.ref (T.cls c).1) (some dct) σ H := by
  induction h with
  | nil => exact q dct v f σ G H Ext.refl s r nm hd
  | @cons hd1 m l ms a b ih =>
    obtain ⟨o, cv, ts⟩ := hd1
    obtain ⟨mt, k⟩ := m
    unfold fHds at q
    split at q
    · rename_i hm
      exact ⟨true, a.same c true hm, fun _ x free => a.run Pr A G H σ e D c d x dct v f s r nm hd free hm q, fun z => absurd z.symm Bool.false_ne_true⟩
    · rename_i hm
      exact ⟨false, a.same c false hm, fun z => absurd z Bool.false_ne_true, fun _ => ih q⟩
    · exact q.elim
section
variable {T : Tb} {W : WX} {X : Cx} {body : List Stmt} {h₀ : ExceptHandler} {hds : List ExceptHandler} {l : List Hd} {ms : List HM} {pos : Pos} {tb : TS} {fb : FS}
theorem ss_try {tb : WX → TS} (stk : X.stack = X.env :: X.outer) (frm : X.env.frame = some X.env.locals) (nd : X.N.Nodup) (tk : Takes X W) (hK : X.K = T.K)
    (runs : ∀ (W : WX) (pn : List (Addr × Obj)) (xe : Value → Shared → Prop), Takes (X.tr pn xe) W → PassesOwn (model X.prog X.w) X.A X.env xe → SSs T W (X.tr pn xe) body (tb W) fb)
    (hh : Hds X (h₀ :: hds) l) (hm : HsOk T W l ms) : SS T W X (.Try body (h₀ :: hds) [] [] pos) (fun D σ H => (∃ (pn : List (Addr × Obj)) (xe : Value → Shared → Prop), Takes (X.tr pn xe) (wHds X.K W D l) ∧ PassesOwn (model X.prog X.w) X.A X.env xe) → tb (wHds X.K W D l) D σ H) (fTry fb ms) := by
  refine ⟨ps_try stk frm nd tk (fun W pn xe tk' ps => (runs W pn xe tk' ps).1) hh, fun Pr A G H σ e D s h => ?_⟩
  rintro ⟨pn, xe, tk', ps⟩
  refine (runs (wHds X.K W D l) pn xe tk' ps).2 Pr A G H σ e D s ?_
  rw [hK]
  unfold fTry at h
  revert h
  cases fb e with
  | ex c d e1 => exact fun h dct v f σ' G' H' x' s' r nm y => hds_run hm s' r nm y (h.ext x')
  | nx e1 => exact fun h => h
  | bk e1 => exact fun h => h
  | ct e1 => exact fun h => h
  | rt p e1 => exact fun h => h
  | no => exact fun h => h
end
/-! ### clauses -/
/-- a suite that raises nothing and does not look at the exception -/
@[simp] def kPlain (f : FS) : Nat → D → Env → Oc := fun _ _ e => match f e with
  | .ex _ _ _ => .no
  | o => o
theorem hok_plain {T : Tb} {W : WX} {cv : Value} {t : TS} {f : FS} {mt : Nat → Option Bool} (hs : ∀ c b, mt c = some b → PySem.W.exmOne T.K (.ref (T.cls c).1) cv = some b)
    (h : ∀ (Pr : Hp) (A : Nat → Option Addr) (G H : Hp) (σ : L2.St) (e : Env) (D : Ends), SR ⟨T, Pr, A⟩ G H σ e → OkS ⟨T, Pr, A⟩ W0 G D (f e) → t D σ H) : HOk1 T W (none, cv, fun _ _ _ => t) (mt, kPlain f) := by
  refine ⟨hs, fun Pr A G H σ e D c d a dct v f' s r nm y free _ q => ?_⟩
  refine h Pr A G H σ e D s ?_
  unfold kPlain at q
  dsimp only at q
  revert q
  cases f e with
  | ex c d e1 => exact fun q => q.elim
  | nx e1 => exact fun q => q
  | bk e1 => exact fun q => q
  | ct e1 => exact fun q => q
  | rt p e1 => exact fun q => q
  | no => exact fun q => q
theorem set_un {F : Fx} {G H : Hp} {σ : L2.St} {e : Env} {x : Option V} (s : SR F G H σ e) (i : Nat) : SR F G H (σ.set i x) (st e i .un) where
  prot := s.prot
  sub := s.sub
  len := by rw [st_len, List.length_set]; exact s.len
  va := fun j d h => by
    rw [gt_st] at h
    split at h
    · cases h
    · rename_i hn
      obtain ⟨v, h1, h2⟩ := s.va j d h
      by_cases hj : i = j
      · subst hj
        exact absurd ⟨rfl, gt_lt (by rw [h]; intro z; cases z)⟩ hn
      · exact ⟨v, by rw [List.getElem?_set_ne hj]; exact h1, h2⟩
  ce := fun j b d h => by
    rw [gt_st] at h
    split at h
    · cases h
    · rename_i hn
      obtain ⟨p, h1, h2⟩ := s.ce j b d h
      by_cases hj : i = j
      · subst hj
        exact absurd ⟨rfl, gt_lt (by rw [h]; intro z; cases z)⟩ hn
      · exact ⟨p, by rw [List.getElem?_set_ne hj]; exact h1, h2⟩
  dis := fun j k b d b' d' p h1 h2 y1 y2 => by
    rw [gt_st] at h1 h2
    split at h1
    · cases h1
    · rename_i hn
      split at h2
      · cases h2
      · rename_i hm
        have hj : i ≠ j := fun z => hn ⟨z.symm, by rw [z]; exact gt_lt (by rw [h1]; intro z; cases z)⟩
        have hk : i ≠ k := fun z => hm ⟨z.symm, by rw [z]; exact gt_lt (by rw [h2]; intro z; cases z)⟩
        rw [List.getElem?_set_ne hj] at y1
        rw [List.getElem?_set_ne hk] at y2
        exact s.dis j k b d b' d' p h1 h2 y1 y2
/-- what an expression of the exception in hand (slot i) gives -/
def AX (T : Tb) (Y : Cx) (i : Nat) (a : Addr) (cls : Value) (d : Option Addr) (c : Nat) (x : Expr) (t : TE) (g : Env → D → Option RV) : Prop :=
  (∀ (oe : Obj) (pn : List (Addr × Obj)), Zc cls d oe → (∃ vs, oe.data = .fields vs) → PE (Y.suite a ((a, oe) :: pn)) x t) ∧
  ∀ (Pr : Hp) (A : Nat → Option Addr) (G H : Hp) (σ : L2.St) (e0 : Env) (v : V) (f : Str) (dct : Addr) (d0 : D) (rv : RV) (Q : VK), SR ⟨T, Pr, A⟩ G H σ e0 → Sub G H → σ[i]? = some (some (.ref a)) → cls = .ref (T.cls c).1 → (T.cls c).2 = [f] → d = some dct → H dct = some (.xd [(f, v)]) → Rp T G d0 v → g e0 d0 = some rv → RVQ T G H Q rv → t σ H Q
def AXs (T : Tb) (Y : Cx) (i : Nat) (a : Addr) (cls : Value) (d : Option Addr) (c : Nat) (x : List Expr) (t : TA) (g : Env → D → Option (List D)) : Prop :=
  (∀ (oe : Obj) (pn : List (Addr × Obj)), Zc cls d oe → (∃ vs, oe.data = .fields vs) → PA (Y.suite a ((a, oe) :: pn)) x t) ∧
  ∀ (Pr : Hp) (A : Nat → Option Addr) (G H : Hp) (σ : L2.St) (e0 : Env) (v : V) (f : Str) (dct : Addr) (d0 : D) (ds : List D) (Q : List V → Hp → Prop), SR ⟨T, Pr, A⟩ G H σ e0 → Sub G H → σ[i]? = some (some (.ref a)) → cls = .ref (T.cls c).1 → (T.cls c).2 = [f] → d = some dct → H dct = some (.xd [(f, v)]) → Rp T G d0 v → g e0 d0 = some ds → (∀ vs, RpL T G ds vs → Q vs H) → t σ H Q
@[simp] def xC (d0 : D) : Env → D → Option RV := fun _ _ => some (.at d0)
@[simp] def xAt (g : Env → D → Option RV) : Env → D → Option D := fun e d => match g e d with
  | some (.at d1) => some d1
  | _ => none
@[simp] def xNil : Env → D → Option (List D) := fun _ _ => some []
@[simp] def xCons (g : Env → D → Option RV) (gs : Env → D → Option (List D)) : Env → D → Option (List D) := fun e d => match xAt g e d, gs e d with
  | some x, some r => some (x :: r)
  | _, _ => none
@[simp] def xLst (gs : Env → D → Option (List D)) : Env → D → Option RV := fun e d => match gs e d with
  | some l => if l.length ≤ LIM then some (.ls l) else none
  | none => none
@[simp] def xCall (op : List D → Option RV) (gs : Env → D → Option (List D)) : Env → D → Option RV := fun e d => match gs e d with
  | some l => op l
  | none => none
section
variable {T : Tb} {Y : Cx} {i : Nat} {a : Addr} {cls : Value} {d : Option Addr} {c : Nat} {x : Expr} {es : List Expr} {t : TE} {ts : TA} {g : Env → D → Option RV} {gs : Env → D → Option (List D)}
theorem ax_c {v : V} {d0 : D} (h : ∀ Z, PE Z x (tC v)) (r : ∀ G, Rp T G d0 v) : AX T Y i a cls d c x (tC v) (xC d0) := ⟨fun oe pn _ _ => h _, fun Pr A G H σ e0 w f dct d1 rv Q sr sub e1 e2 e3 e4 e5 e6 e7 q => by
  cases e7
  exact q v (r G)⟩
theorem xAt_ok {e : Env} {d d1 : D} (h : xAt g e d = some d1) : g e d = some (.at d1) := by
  unfold xAt at h
  split at h
  · rename_i z hz; cases h; exact hz
  · cases h
theorem axs_nil : AXs T Y i a cls d c [] tNil xNil := ⟨fun oe pn _ _ => pa_nil, fun Pr A G H σ e0 w f dct d1 ds Q sr sub e1 e2 e3 e4 e5 e6 e7 q => by
  cases e7
  exact q [] RpL.nil⟩
theorem axs_cons (h : AX T Y i a cls d c x t g) (k : AXs T Y i a cls d c es ts gs) (hs : starEach (x :: es) Y.env = (false, eval x Y.env) :: starEach es Y.env := by rfl) : AXs T Y i a cls d c (x :: es) (tCons t ts) (xCons g gs) := ⟨fun oe pn z1 z2 => pa_cons (h.1 oe pn z1 z2) (k.1 oe pn z1 z2) hs, fun Pr A G H σ e0 w f dct d1 ds Q sr sub e1 e2 e3 e4 e5 e6 e7 q => by
  unfold xCons at e7
  split at e7
  · rename_i d2 r h1 h2
    cases e7
    exact h.2 Pr A G H σ e0 w f dct d1 _ _ sr sub e1 e2 e3 e4 e5 e6 (xAt_ok h1) fun v1 r1 => k.2 Pr A G H σ e0 w f dct d1 r _ sr sub e1 e2 e3 e4 e5 e6 h2 fun vs rs => q (v1 :: vs) (RpL.cons r1 rs)
  · cases e7⟩
theorem ax_lst {pos : Pos} (k : AXs T Y i a cls d c es ts gs) : AX T Y i a cls d c (.List es pos) (tLst ts) (xLst gs) := ⟨fun oe pn z1 z2 => pe_lst (k.1 oe pn z1 z2), fun Pr A G H σ e0 w f dct d1 rv Q sr sub e1 e2 e3 e4 e5 e6 e7 q => by
  unfold xLst at e7
  split at e7
  · rename_i l hl
    split at e7
    · rename_i few
      cases e7
      exact k.2 Pr A G H σ e0 w f dct d1 l _ sr sub e1 e2 e3 e4 e5 e6 hl fun vs rs => ⟨by rw [RpL.length rs]; exact Nat.le_trans few lim_le, fun p hp => q p vs hp rs⟩
    · cases e7
  · cases e7⟩
theorem ax_call {r : List V → Hp → VK → Prop} {op : List D → Option RV} (hx : ∀ oe pn t, PA (Y.suite a ((a, oe) :: pn)) es t → PE (Y.suite a ((a, oe) :: pn)) x (tCB r t)) (hd : CallD T r op) (k : AXs T Y i a cls d c es ts gs) : AX T Y i a cls d c x (tCB r ts) (xCall op gs) :=
  ⟨fun oe pn z1 z2 => hx _ _ _ (k.1 oe pn z1 z2), fun Pr A G H σ e0 w f dct d1 rv Q sr sub e1 e2 e3 e4 e5 e6 e7 q => by
  unfold xCall at e7
  split at e7
  · rename_i l hl
    refine k.2 Pr A G H σ e0 w f dct d1 l _ sr sub e1 e2 e3 e4 e5 e6 hl fun vs rs => hd G H vs l rv Q sub ?_ e7 q
    clear e7 hl
    induction l generalizing vs with
    | nil => simp only [RpL] at rs; exact rs
    | cons d0 l ih =>
      simp only [RpL] at rs
      obtain ⟨v0, vs, rfl, r0, rs⟩ := rs
      exact ⟨v0, vs, rfl, .inl r0, ih vs rs⟩
  · cases e7⟩
end
/-- another name -/
@[simp] def xV (j : Nat) : Env → D → Option RV := fun e _ => match gt e j with
  | .va d => some (.at d)
  | _ => none
theorem ax_v {T : Tb} {Y : Cx} {i j : Nat} {a : Addr} {cls : Value} {d : Option Addr} {c : Nat} {x : Expr} (h : ∀ oe pn, PE (Y.suite a ((a, oe) :: pn)) x (tVar j)) : AX T Y i a cls d c x (tVar j) (xV j) := ⟨fun oe pn _ _ => h oe pn, fun Pr A G H σ e0 w f dct d1 rv Q sr sub e1 e2 e3 e4 e5 e6 e7 q => by
  unfold xV at e7
  split at e7
  · rename_i d2 h2
    cases e7
    obtain ⟨v, h3, h4⟩ := sr.va j d2 h2
    exact ⟨v, h3, q v h4⟩
  · cases e7⟩
/-- a comparison of data -/
@[simp] def xBin (op : D → D → Option RV) (g g' : Env → D → Option RV) : Env → D → Option RV := fun e d => match xAt g e d, xAt g' e d with
  | some x, some y => op x y
  | _, _ => none
theorem ax_bin {T : Tb} {Y : Cx} {i : Nat} {a : Addr} {cls : Value} {d : Option Addr} {c : Nat} {x y z : Expr} {t t' : TE} {r : R2} {op : D → D → Option RV} {g g' : Env → D → Option RV} (hz : ∀ oe pn, PE (Y.suite a ((a, oe) :: pn)) x t → PE (Y.suite a ((a, oe) :: pn)) y t' → PE (Y.suite a ((a, oe) :: pn)) z (tOp r t t')) (hd : OpD T r op)
    (h : AX T Y i a cls d c x t g) (h' : AX T Y i a cls d c y t' g') : AX T Y i a cls d c z (tOp r t t') (xBin op g g') := ⟨fun oe pn z1 z2 => hz oe pn (h.1 oe pn z1 z2) (h'.1 oe pn z1 z2), fun Pr A G H σ e0 w f dct d1 rv Q sr sub e1 e2 e3 e4 e5 e6 e7 q => by
  unfold xBin at e7
  split at e7
  · rename_i d2 d3 h1 h2
    exact h.2 Pr A G H σ e0 w f dct d1 _ _ sr sub e1 e2 e3 e4 e5 e6 (xAt_ok h1) fun v1 r1 => h'.2 Pr A G H σ e0 w f dct d1 _ _ sr sub e1 e2 e3 e4 e5 e6 (xAt_ok h2) fun v2 r2 => hd G H v1 v2 d2 d3 rv Q sub (.inl r1) (.inl r2) e7 q
  · cases e7⟩
theorem kit_blt {K : PySem.W.Frag} {C : Addr} {t : String} {b : Bool} (h : PySem.W.subIn K (.ref C) (.type t) = some b) (hm : PySem.W.kitMeta t = true := by decide +kernel) : PySem.W.kitOne K (.ref C) (.type t) = some b := by
  unfold PySem.W.kitOne
  rw [if_neg (show ¬ ((Value.ref C == Value.type t) = true) from by simp)]
  show (if PySem.W.kitMeta t = true then PySem.W.subIn K (.ref C) (.type t) else none) = some b
  rw [if_pos hm]; exact h
theorem kit_own {K : PySem.W.Frag} {C L : Addr} {b : Bool} (h : PySem.W.subIn K (.ref C) (.ref L) = some b) (hc : (PySem.W.clsIn K L).isSome = true) (ht : PySem.W.typeIn K (.ref L) = some (.type "type")) (hne : (Value.ref C == Value.ref L) = false) : PySem.W.kitOne K (.ref C) (.ref L) = some b := by
  unfold PySem.W.kitOne
  rw [if_neg (by rw [hne]; simp)]
  show (if ((PySem.W.clsIn K L).isSome && PySem.W.typeIn K (.ref L) == some (.type "type")) = true then PySem.W.subIn K (.ref C) (.ref L) else none) = some b
  rw [if_pos (by rw [hc, ht] <;> rfl)]; exact h
/-- e.f -/
@[simp] def xF : Env → D → Option RV := fun _ d => some (.at d)
theorem ax_f {T : Tb} {Y : Cx} {i : Nat} {a C : Addr} {cls : Value} {d : Option Addr} {c : Nat} {e : Expr} {pos : Pos} {f : Str} (XC : XfC Y.K C) (hno : PySem.W.findIn Y.K (.ref C) f = some none) (hC : T.cls c = (C, [f]))
    (he : ∀ oe pn, PE (Y.suite a ((a, oe) :: pn)) e (tVar i)) (hb : attributeBase e f Y.env (eval e Y.env) = eval e Y.env := by rfl) : AX T Y i a cls d c (.Attribute e f pos) (tXf a cls d C f (tVar i)) xF :=
  ⟨fun oe pn hz hf => pe_xf XC hno hz hf (he oe pn) hb, fun Pr A G H σ e0 w f' dct d0 rv Q sr sub e1 e2 e3 e4 e5 e6 e7 q => by
    cases e7
    rw [hC] at e3 e2
    cases e3
    refine ⟨.ref a, e1, rfl, e2, dct, _, w, e4, e5, ?_, q w e6⟩
    show List.lookup f [(f, w)] = _
    simp [List.lookup]⟩
/-- isinstance(e, K) -/
structure XIs (K : PySem.W.Frag) (C : Addr) : Prop where
  cls : (PySem.W.clsIn K C).isSome = true
  ga : PySem.W.findIn K (.ref C) "__getattribute__" = some (some (.builtin "BaseException.__getattribute__"))
  gg : PySem.W.findIn K (.ref C) "__getattr__" = some none
  isE : PySem.W.subIn K (.ref C) (.type "BaseException") = some true
  kl : PySem.W.findIn K (.ref C) "__class__" = some (some (.builtin "object.__class__"))
  gt : PySem.W.specialIn K (.builtin "object.__class__") "__get__" = some (some (.builtin "getset_descriptor.__get__"))
  tk : PySem.W.takesIn K (.builtin "object.__class__") = some true
  ob : PySem.W.mroIn K C (.type "object") = some true
def rIsX (K : PySem.W.Frag) (C a : Addr) (cls : Value) (d : Option Addr) : List V → Hp → VK → Prop := fun xs H Q => ∃ (k : V) (cv : Value) (b : Bool) (fs : List (Str × V)) (dct : Addr), cls = .ref C ∧ d = some dct ∧ xs = [.ref a, k] ∧ (∀ u, RelV k u → u = cv) ∧ PySem.W.kitOne K (.ref C) cv = some b ∧ H dct = some (.xd fs) ∧ Q (.bl b) H
theorem call_isX {Y : Cx} {a C : Addr} {cls : Value} {d : Option Addr} {oe : Obj} {pn : List (Addr × Obj)} (k : XIs Y.K C) (hz : Zc cls d oe) (hf : ∃ vs, oe.data = .fields vs) : CallR (Y.suite a ((a, oe) :: pn)) (.builtin "isinstance") (rIsX Y.K C a cls d) := by
  intro pins s σ H xs us Q I r h
  obtain ⟨c, cv, b, fs, dct, rfl, rfl, rfl, same, e, hd, q⟩ := h
  cases r with
  | cons rx rr =>
    cases rr with
    | cons rt rr =>
      cases rr
      cases rx
      obtain rfl := same _ rt
      obtain ⟨there, _⟩ := I.pin (a, oe) (List.mem_append.mpr (.inl List.mem_cons_self))
      obtain ⟨vs, hv⟩ := hf
      have hx : ObjOk Y.prog Y.w H s.heap dct (.xd fs) := I.hok dct _ hd
      obtain ⟨mA, hns, _⟩ := hx
      obtain ⟨od, ho, _⟩ := lookIn_ns hns
      have J : PySem.W.InstAt s.heap a oe C (some od) := ⟨there, hz.1, by unfold PySem.W.notCls; rw [hv] <;> rfl, by rw [hz.2]; exact ho⟩
      exact PySem.W.kia_one (PySem.W.kitx_exc k.cls k.ga k.gg k.isE k.kl k.gt k.tk k.ob) I.kIn J e (fun z => nomatch z) fun tk => ⟨.bl b, H, I.kept (t' := tk) fun _ _ z => z, rfl, q⟩
@[simp] def xB (b : Bool) : Env → D → Option RV := fun _ _ => some (.at (.bl b))
theorem ax_is {T : Tb} {Y : Cx} {i : Nat} {a C : Addr} {cls : Value} {d : Option Addr} {c : Nat} {x : Expr} {k : V} {cv : Value} {b : Bool} {fs : List Str} (xi : XIs Y.K C) (hC : T.cls c = (C, fs)) (same : ∀ u, RelV k u → u = cv) (e : PySem.W.kitOne Y.K (.ref C) cv = some b)
    (hx : ∀ oe pn (r : List V → Hp → VK → Prop), CallR (Y.suite a ((a, oe) :: pn)) (.builtin "isinstance") r → PE (Y.suite a ((a, oe) :: pn)) x (tCB r (tCons (tVar i) (tCons (tC k) tNil)))) :
    AX T Y i a cls d c x (tCB (rIsX Y.K C a cls d) (tCons (tVar i) (tCons (tC k) tNil))) (xB b) :=
  ⟨fun oe pn hz hf => hx _ _ _ (call_isX xi hz hf), fun Pr A G H σ e0 w f' dct d0 rv Q sr sub e1 e2 e3 e4 e5 e6 e7 q => by
    cases e7
    rw [hC] at e2
    exact ⟨.ref a, e1, k, cv, b, _, dct, e2, e4, rfl, same, e, e5, q _ (by simp only [Rp])⟩⟩
/-- except C as e: return .. -/
@[simp] def kRet (i : Nat) (g : Env → D → Option RV) : Nat → D → Env → Oc := fun _ d e => match g (st e i .un) d with
  | some rv => if i < e.length then .rt rv.pv (st e i .un) else .no
  | none => .no
/-- clauses and their mirrors -/
structure TryOk (T : Tb) (W : WX) (X : Cx) (hds : List ExceptHandler) (l : List Hd) (ms : List HM) : Prop where
  hs : Hds X hds l
  ms : HsOk T W l ms
section
variable {T : Tb} {W : WX} {X : Cx} {hds : List ExceptHandler} {l : List Hd} {ms : List HM} {mt : Nat → Option Bool} {x : Str} {cv : Value} {np pos' p1 : Pos}
theorem try_nil : TryOk T W X [] [] [] := ⟨.nil, .nil⟩
theorem try_named {n : Str} {i c0 : Nat} {y : Expr} {te : Addr → Value → Option Addr → TE} {g : Env → D → Option RV} (hi : X.N[i]? = some n) (hln : X.env.kindOf n = some .local) (hc : Names X x cv) (hs : ∀ c b, mt c = some b → PySem.W.exmOne T.K (.ref (T.cls c).1) cv = some b)
    (h1 : ∀ c, mt c = some true → c = c0) (hx : ∀ a cls d, AX T X i a cls d c0 y (te a cls d) g) (r : TryOk T W X hds l ms) :
    TryOk T W X (.ExceptHandler (some (.Name x np)) (some n) [.Return (some y) p1] pos' :: hds) ((some i, cv, fun a cls d => tRet (te a cls d)) :: l) ((mt, kRet i g) :: ms) := by
  refine ⟨.named hi hln hc (fun a oe cls d pn hz hf => pss_one (ps_ret ((hx a cls d).1 oe pn hz hf))) r.hs, .cons ⟨hs, fun Pr A G H σ e D c d a dct v f s r nm y free hm q => ?_⟩ r.ms⟩
  have := h1 c hm
  subst this
  unfold kRet at q
  dsimp only at q
  split at q
  · rename_i rv hg
    have s1 := un_slot s i
    by_cases hi : i < e.length
    · rw [if_pos hi] at q
      rw [s.len] at hi
      refine (hx a _ _).2 Pr A G H (σ.set i (some (.ref a))) (st e i .un) v f dct d rv _ (set_un s i) s.sub (List.getElem?_set_self hi) rfl nm rfl y r hg ?_
      refine rv_done (F := ⟨T, Pr, A⟩) (σ := σ) (W := fun _ _ _ _ => False) s1 ?_
      intro w G' H' x' s' r'
      exact q σ w G' H' x' s' r'
    · rw [if_neg hi] at q; exact q.elim
  · exact q.elim
theorem try_plain {b₀ : Stmt} {suite : List Stmt} {t : TS} {f : FS} (hc : Names X x cv) (hs : ∀ c b, mt c = some b → PySem.W.exmOne T.K (.ref (T.cls c).1) cv = some b)
    (hx : ∀ (a : Addr) (oe : Obj) (pn : List (Addr × Obj)), SSs T W0 (X.suite a ((a, oe) :: pn)) (b₀ :: suite) t f) (r : TryOk T W X hds l ms) :
    TryOk T W X (.ExceptHandler (some (.Name x np)) none (b₀ :: suite) pos' :: hds) ((none, cv, fun _ _ _ => t) :: l) ((mt, kPlain f) :: ms) :=
  ⟨.plain hc (fun a oe cls d pn hz hf => (hx a oe pn).1) r.hs, .cons (hok_plain hs (hx 0 ⟨.none, none, .fields #[], #[]⟩ []).2) r.ms⟩
theorem ss_try2 {body : List Stmt} {h₀ : ExceptHandler} {pos : Pos} {fb : FS} {tb : WX → TS} (stk : X.stack = X.env :: X.outer) (frm : X.env.frame = some X.env.locals) (nd : X.N.Nodup) (tk : Takes X W) (hK : X.K = T.K)
    (runs : ∀ (W : WX) (pn : List (Addr × Obj)) (xe : Value → Shared → Prop), Takes (X.tr pn xe) W → PassesOwn (model X.prog X.w) X.A X.env xe → SSs T W (X.tr pn xe) body (tb W) fb)
    (h : TryOk T W X (h₀ :: hds) l ms) : SS T W X (.Try body (h₀ :: hds) [] [] pos) (fun D σ H => (∃ (pn : List (Addr × Obj)) (xe : Value → Shared → Prop), Takes (X.tr pn xe) (wHds X.K W D l) ∧ PassesOwn (model X.prog X.w) X.A X.env xe) → tb (wHds X.K W D l) D σ H) (fTry fb ms) :=
  ss_try stk frm nd tk hK runs h.hs h.ms
end
end DL
set_option Elab.async false
set_option linter.all false
set_option maxRecDepth 100000
set_option maxHeartbeats 4000000
/-! more operations: texts, repr, isinstance, names of the module -/
namespace DL
open PySem PySem.Spec PyProof.Rows L2
section
variable {T : Tb} {X : Cx} {W : WX} {G H : Hp}
/-! ### join -/
def txts : List D → Option (List (List Nat))
  | [] => some []
  | .str l :: r => (txts r).map (l :: ·)
  | _ => none
theorem txts_ok : ∀ {l : List D} {xs : List V} {bs : List (List Nat)}, txts l = some bs → RpL T G l xs → xs = (bs.map S).map V.str
  | [], xs, bs, h, r => by cases h; simp only [RpL] at r; exact r
  | d :: l, xs, bs, h, r => by
    cases d with
    | str b =>
      simp only [txts, Option.map_eq_some_iff] at h
      obtain ⟨bs', h1, rfl⟩ := h
      simp only [RpL, Rp] at r
      obtain ⟨x, r', rfl, rfl, r2⟩ := r
      rw [txts_ok h1 r2]; rfl
    | _ => simp only [txts] at h; cases h
def joinN (sep : List Nat) : List (List Nat) → List Nat
  | [] => []
  | [x] => x
  | x :: r => x ++ sep ++ joinN sep r
theorem join_S (sep : List Nat) : ∀ ys : List (List Nat), Txt.join (S sep) (ys.map S) = S (joinN sep ys) := fun ys => by
  show Builtin.Str.glued (S sep) (ys.map S) = _
  rw [StrLaws.glued_eq_join]
  induction ys with
  | nil => rfl
  | cons x r ih =>
    cases r with
    | nil => rfl
    | cons y r =>
      show S x ++ S sep ++ Str.join (S sep) ((y :: r).map S) = S (x ++ sep ++ joinN sep (y :: r))
      rw [ih, S_app, S_app]
def joinB (sep : List Nat) (ys : List (List Nat)) : Bool := decide ((ys.map (·.length)).sum + ys.length * sep.length ≤ LIM)
@[simp] def oJoin : D → List D → Option RV
  | .str sep, [.lst l] => (txts l).bind fun ys => if joinB sep ys = true then some (.at (.str (joinN sep ys))) else none
  | _, _ => none
abbrev rJoin (K : PySem.W.Frag) : V → List V → Hp → VK → Prop := fun x xs H Q => ∃ a p, ∃ ys : List Str, x = .str a ∧ xs = [.ref p] ∧ (SqL K H p (ys.map V.str) ∨ SqT K H p (ys.map V.str)) ∧
    (ys.map (·.length)).sum + ys.length * a.length ≤ 16777216 ∧ Q (.str (Txt.join a ys)) H
theorem d_join : MtD T "str" (rJoin T.K) oJoin := by
  intro G H x dx vs ds rv Q sub px pv ho q
  unfold oJoin at ho
  split at ho
  · rename_i sep l
    simp only [Option.bind_eq_some_iff] at ho
    obtain ⟨ys, h1, h2⟩ := ho
    split at h2
    · rename_i hb
      cases h2
      obtain ⟨v, r, rfl, p1, rfl⟩ := pv
      obtain ⟨a, xs, rfl, h3, r⟩ := pk_lst sub p1
      have e := txts_ok h1 r
      subst e
      rw [pk_str px]
      refine ⟨S sep, a, ys.map S, rfl, rfl, .inl (.inl (.inl h3)), ?_, by rw [join_S]; exact q _ str_val⟩
      unfold joinB at hb
      rw [decide_eq_true_eq] at hb
      have e2 : ((ys.map S).map (·.length)) = ys.map (·.length) := by
        rw [List.map_map]
        exact List.map_congr_left fun x _ => S_len x
      rw [e2, List.length_map, S_len]
      have : LIM ≤ 16777216 := by decide
      omega
    · cases h2
  · cases ho
/-! ### lower, upper -/
def ascii (l : List Nat) : Bool := l.all (· < 128)
@[simp] def oLower : D → List D → Option RV
  | .str l, [] => if (ascii l && decide (l.length ≤ LIM)) = true then some (.at (.str (l.map lo1))) else none
  | _, _ => none
@[simp] def oUpper : D → List D → Option RV
  | .str l, [] => if (ascii l && decide (l.length ≤ LIM)) = true then some (.at (.str (l.map up1))) else none
  | _, _ => none
theorem ascii_S {l : List Nat} (h : ascii l = true) : ∀ c ∈ (S l).cps.toList, c < 128 := by
  rw [S_list]
  unfold ascii at h
  simpa using h
abbrev rLower : V → List V → Hp → VK → Prop := fun x xs H Q => ∃ a, x = .str a ∧ xs = [] ∧ a.length ≤ 5592405 ∧ Q (.str (Txt.lower a)) H
abbrev rUpper : V → List V → Hp → VK → Prop := fun x xs H Q => ∃ a, x = .str a ∧ xs = [] ∧ a.length ≤ 5592405 ∧ Q (.str (Txt.upper a)) H
theorem map_S (f : Nat → Nat) (l : List Nat) : (⟨(S l).cps.map f⟩ : Str) = S (l.map f) := by simp [S]
theorem d_lower : MtD T "str" rLower oLower := by
  intro G H x dx vs ds rv Q sub px pv ho q
  unfold oLower at ho
  split at ho
  · split at ho
    · rename_i hb
      cases ho
      simp only [Bool.and_eq_true, decide_eq_true_eq] at hb
      rw [pk_str px]
      have : LIM ≤ 5592405 := by decide
      refine ⟨_, rfl, pv, by rw [S_len]; omega, ?_⟩
      rw [lower_ascii (ascii_S hb.1), map_S]
      exact q _ str_val
    · cases ho
  · cases ho
theorem d_upper : MtD T "str" rUpper oUpper := by
  intro G H x dx vs ds rv Q sub px pv ho q
  unfold oUpper at ho
  split at ho
  · split at ho
    · rename_i hb
      cases ho
      simp only [Bool.and_eq_true, decide_eq_true_eq] at hb
      rw [pk_str px]
      have : LIM ≤ 5592405 := by decide
      refine ⟨_, rfl, pv, by rw [S_len]; omega, ?_⟩
      rw [upper_ascii (ascii_S hb.1), map_S]
      exact q _ str_val
    · cases ho
  · cases ho
/-! ### find, index -/
/-- the first place from n on at which c stands in l, whose first item stands at n -/
def seek (c : Nat) : List Nat → Nat → Option Nat
  | [], _ => none
  | x :: r, n => if x = c then some n else seek c r (n + 1)
def findN (l : List Nat) (c i : Nat) : Int := match seek c (l.drop i) i with
  | some k => k
  | none => -1
theorem seek_some {c : Nat} : ∀ {l : List Nat} {n k : Nat}, seek c l n = some k → n ≤ k ∧ l[k - n]? = some c ∧ ∀ j, j < k - n → l[j]? ≠ some c
  | [], n, k, h => by cases h
  | x :: r, n, k, h => by
    unfold seek at h
    split at h
    · rename_i e
      cases h
      subst e
      refine ⟨Nat.le_refl _, by simp, fun j hj => by omega⟩
    · rename_i e
      obtain ⟨h1, h2, h3⟩ := seek_some h
      obtain ⟨m, hm⟩ : ∃ m, k - n = m + 1 := ⟨k - n - 1, by omega⟩
      have hm2 : k - (n + 1) = m := by omega
      rw [hm2] at h2 h3
      rw [hm]
      refine ⟨by omega, by simpa using h2, fun j hj => ?_⟩
      cases j with
      | zero => simpa using e
      | succ j => simpa using h3 j (by omega)
theorem seek_none {c : Nat} : ∀ {l : List Nat} {n : Nat}, seek c l n = none → c ∉ l
  | [], n, h => by simp
  | x :: r, n, h => by
    unfold seek at h
    split at h
    · cases h
    · rename_i e
      have := seek_none h
      simp only [List.mem_cons, not_or]
      exact ⟨fun z => e z.symm, this⟩
theorem find_S (l : List Nat) (c i : Nat) : Txt.find3 (S l) ⟨#[c]⟩ (i : Int) = findN l c i := by
  have from_ : fromIndex (S l).length (i : Int) = i := by
    unfold fromIndex
    rw [if_neg (by omega)]
    omega
  have gd : ∀ v, v < (S l).length → ((S l).cps.getD v 0 = c ↔ l[v]? = some c) := fun v hv => by
    rw [S_len] at hv
    simp [S, Array.getD, hv, List.getElem?_eq_getElem]
  have at_ : ∀ m, (l.drop i)[m]? = l[i + m]? := fun m => by rw [List.getElem?_drop]
  unfold findN
  rcases StrLaws.find3_spec (S l) c i with ⟨h1, h2⟩ | ⟨k, h1, h2, h3, h4, h5⟩
  · rw [h1]
    cases hs : seek c (l.drop i) i with
    | none => rfl
    | some k =>
      obtain ⟨a, b, _⟩ := seek_some hs
      rw [at_] at b
      have hk : i + (k - i) = k := by omega
      rw [hk] at b
      have hlt : k < (S l).length := by rw [S_len]; exact (List.getElem?_eq_some_iff.mp b).1
      exact absurd ((gd k hlt).mpr b) (h2 k (by rw [from_]; exact a) hlt)
  · rw [h1]
    have hk := (gd k h3).mp h4
    rw [from_] at h2 h5
    cases hs : seek c (l.drop i) i with
    | none =>
      have := seek_none hs
      refine absurd ?_ this
      refine List.mem_of_getElem? (i := k - i) ?_
      rw [at_, show i + (k - i) = k by omega]
      exact hk
    | some m =>
      obtain ⟨a, b, c'⟩ := seek_some hs
      rw [at_, show i + (m - i) = m by omega] at b
      show (k : Int) = (m : Int)
      have hlt : m < (S l).length := by rw [S_len]; exact (List.getElem?_eq_some_iff.mp b).1
      have h6 : ¬ m < k := fun z => h5 m a z ((gd m hlt).mpr b)
      have h7 : ¬ k < m := fun z => c' (k - i) (by omega) (by rw [at_, show i + (k - i) = k by omega]; exact hk)
      omega
theorem S_one (c : Nat) : S [c] = ⟨#[c]⟩ := rfl
@[simp] def oFind : D → List D → Option RV
  | .str l, [.str [c]] => some (.at (.int (findN l c 0)))
  | _, _ => none
@[simp] def oFind2 : D → List D → Option RV
  | .str l, [.str [c], .int i] => if 0 ≤ i then some (.at (.int (findN l c i.toNat))) else none
  | _, _ => none
abbrev rFind1 : V → List V → Hp → VK → Prop := fun x xs H Q => ∃ a b, x = .str a ∧ xs = [.str b] ∧ Q (.int (Txt.find a b)) H
abbrev rFind3' : V → List V → Hp → VK → Prop := fun x xs H Q => ∃ (a b : Str) (i : Int), x = .str a ∧ xs = [.str b, .int i] ∧ Q (.int (Txt.find3 a b i)) H
theorem d_find : MtD T "str" rFind1 oFind := by
  intro G H x dx vs ds rv Q sub px pv ho q
  unfold oFind at ho
  split at ho
  · rename_i l c
    cases ho
    obtain ⟨v, r, rfl, p1, rfl⟩ := pv
    rw [pk_str px, pk_str p1]
    refine ⟨_, _, rfl, rfl, ?_⟩
    rw [find_is_find3, S_one, show (0 : Int) = ((0 : Nat) : Int) from rfl, find_S]
    exact q _ int_val
  · cases ho
theorem d_find2 : MtD T "str" rFind3' oFind2 := by
  intro G H x dx vs ds rv Q sub px pv ho q
  unfold oFind2 at ho
  split at ho
  · rename_i l c i
    split at ho
    · rename_i hi
      cases ho
      obtain ⟨v, r, rfl, p1, v2, r2, rfl, p2, rfl⟩ := pv
      rw [pk_str px, pk_str p1, pk_int p2]
      refine ⟨_, _, i, rfl, rfl, ?_⟩
      have := find_S l c i.toNat
      rw [Int.toNat_of_nonneg hi] at this
      rw [S_one, this]
      exact q _ int_val
    · cases ho
  · cases ho
@[simp] def oIndex : D → List D → Option RV
  | .str l, [.str [c]] => (seek c l 0).map fun k => RV.at (.int (Int.ofNat k))
  | _, _ => none
abbrev rIndex1 : V → List V → Hp → VK → Prop := fun x xs H Q => ∃ a b i rest, x = .str a ∧ xs = [.str b] ∧ Builtin.Str.occurrences a b 0 a.length 1 = i :: rest ∧ Q (.int (i : Nat)) H
theorem d_index : MtD T "str" rIndex1 oIndex := by
  intro G H x dx vs ds rv Q sub px pv ho q
  unfold oIndex at ho
  split at ho
  · rename_i l c
    simp only [Option.map_eq_some_iff] at ho
    obtain ⟨k, hk, rfl⟩ := ho
    obtain ⟨v, r, rfl, p1, rfl⟩ := pv
    rw [pk_str px, pk_str p1]
    have h1 : Txt.find (S l) (S [c]) = (k : Int) := by
      rw [find_is_find3, S_one, show (0 : Int) = ((0 : Nat) : Int) from rfl, find_S]
      unfold findN
      rw [List.drop_zero, hk]
    unfold Txt.find at h1
    split at h1
    · rename_i i rest ho
      refine ⟨_, _, i, rest, rfl, rfl, ho, ?_⟩
      rw [h1]
      exact q _ int_val
    · omega
  · cases ho
/-! ### repr -/
def shown (d : D) : Option (List Nat) := match d with
  | .dic [] [] => some (Str.cps "{}").toList
  | d => match toPy d with
    | some p => if p.showable = true ∧ p.shown.length ≤ LIM ∧ p.depth ≤ 60 then some p.shown.cps.toList else none
    | none => none
@[simp] def oRepr : List D → Option RV
  | [d] => (shown d).map fun l => .at (.str l)
  | _ => none
def rRepr (K : PySem.W.Frag) : List V → Hp → VK → Prop := fun xs H Q => (∃ v p, xs = [v] ∧ Dp K H v p ∧ p.showable = true ∧ p.shown.length ≤ LIM ∧ p.depth ≤ 60 ∧ Q (.str p.shown) H) ∨ (∃ a, xs = [.ref a] ∧ Rd H a (.dK []) ∧ Q (.str "{}") H)
theorem dp_nodict {K : PySem.W.Frag} {H : Hp} {v : V} {p : PyData} (h : Dp K H v p) : p.hasDict = false := by
  refine Dp.rec (motive_1 := fun v p _ => p.hasDict = false) (motive_2 := fun vs ps _ => PyData.hasDictAll ps = false) ?_ ?_ ?_ ?_ ?_ ?_ ?_ ?_ h
  · simp only [PyData.hasDict]
  · intro b; simp only [PyData.hasDict]
  · intro i; simp only [PyData.hasDict]
  · intro x; simp only [PyData.hasDict]
  · intro a xs ds _ _ ih; simp only [PyData.hasDict]; exact ih
  · intro a xs ds _ _ ih; simp only [PyData.hasDict]; exact ih
  · simp only [PyData.hasDictAll]
  · intro v vs d ds _ _ h1 h2; simp only [PyData.hasDictAll, h1, h2, Bool.or_false]
theorem call_repr (gd : X.A.guards = some []) (hu : X.A.units + 64 < cLine) : CallR X (.builtin "repr") (rRepr X.K) := by
  intro pins s σ H xs us Q I r h
  rcases h with ⟨v, p, rfl, dp, sh, few, deep, q⟩ | ⟨a, rfl, hd, q⟩
  · obtain ⟨u, rfl, ru⟩ := vals1 r
    obtain ⟨as, rd⟩ := Dp.reads I p v u dp ru
    have few' : p.shown.length ≤ sizeLine := Nat.le_trans few lim_le
    have nd := dp_nodict dp
    have byRef : ∀ a, u = .ref a → wpAny (model X.prog X.w) X.A (call (.builtin "repr") [u]) (EP X pins σ Q) X.xe s := fun a e => by
      subst e
      refine repr_of_reads' rd sh (fun z => by rw [nd] at z; cases z) gd (by omega) (fun _ _ z => z) (fun h' u tk k => ?_) few'
      exact ⟨.str p.shown, H, I.kept (t' := tk) k, ⟨_, rfl⟩, q⟩
    cases dp with
    | non => obtain rfl : u = Value.none := ru; exact PySem.P.repr_of_none ⟨.str _, H, I.tok _, ⟨_, rfl⟩, by simpa only [PyData.shown] using q⟩
    | bl b => obtain rfl : u = Value.bool b := ru; exact PySem.P.repr_of_bool ⟨.str _, H, I.tok _, ⟨_, rfl⟩, by simpa only [PyData.shown] using q⟩
    | int i =>
      obtain ⟨t, rfl⟩ := (show ∃ t, u = Value.int i t from ru)
      simp only [PyData.showable, decide_eq_true_eq] at sh
      exact PySem.P.repr_of_int sh ⟨.str _, H, I.tok _, ⟨_, rfl⟩, by simpa only [PyData.shown] using q⟩
    | str x =>
      obtain ⟨t, rfl⟩ := (show ∃ t, u = Value.str x t from ru)
      simp only [PyData.shown] at few' q
      exact PySem.P.repr_of_str ⟨.str _, H, I.tok _, ⟨_, rfl⟩, q⟩ few'
    | lst _ _ => exact byRef _ ru
    | tup _ _ => exact byRef _ ru
  · obtain ⟨u, rfl, ru⟩ := vals1 r
    cases ru
    obtain ⟨z, lo, vs, rel, dd⟩ := dk_rd I.hok hd
    have e0 : vs = [] := by
      have := rel.length
      exact List.length_eq_zero_iff.mp this.symm
    subst e0
    obtain ⟨o, es, ep, h1, h2, h3, h4, h5, h6⟩ := dd
    have e1 : es.toList = [] := by cases e : es.toList with
      | nil => rfl
      | cons x r => rw [e] at h5; cases h5
    have rd : Reads s.heap (.ref a) (.dict []) (a :: [] ++ []) := .dict h1 h2.1 h3 (by rw [e1]; exact .nil) (by rw [e1]; exact .nil)
    refine repr_of_reads' rd rfl (fun _ hm => ?_) gd (by show X.A.units + ((PyData.dict []).depth + 1) < cLine; simp only [PyData.depth, PyData.depthKv]; omega) (fun _ _ z => z) (fun h' u tk k => ?_) (by decide +kernel)
    · simp only [List.append_nil, List.mem_cons, List.not_mem_nil, or_false] at hm
      rw [← hm] at lo
      simp at lo
    · exact ⟨.str "{}", H, I.kept (t' := tk) k, ⟨_, rfl⟩, q⟩
theorem d_repr : CallD T (rRepr T.K) oRepr := by
  intro G H vs ds rv Q sub pk ho q
  unfold oRepr at ho
  split at ho
  · rename_i d
    simp only [Option.map_eq_some_iff] at ho
    obtain ⟨l, hl, rfl⟩ := ho
    obtain ⟨v, r, rfl, p1, rfl⟩ := pk
    unfold shown at hl
    split at hl
    · cases hl
      refine .inr ?_
      rcases p1 with p1 | ⟨p, rfl, kvs, h1, h2, h3⟩
      · simp only [Rp] at p1
        obtain ⟨a, kvs, rfl, h1, h2, h3⟩ := p1
        have : kvs = [] := List.map_eq_nil_iff.mp h2.symm
        subst this
        exact ⟨a, rfl, .inl (sub _ _ h1), q _ str_val⟩
      · have : kvs = [] := List.map_eq_nil_iff.mp h2.symm
        subst this
        exact ⟨p, rfl, .inl h1, q _ str_val⟩
    · split at hl
      · rename_i p hp
        split at hl
        · rename_i hc
          cases hl
          refine .inl ⟨v, p, rfl, pk_dp sub hp p1, hc.1, hc.2.1, hc.2.2, q _ ?_⟩
          simp only [Rp, S, Array.toArray_toList]
        · cases hl
      · cases hl
  · cases ho
/-! ### isinstance -/
inductive Ty where | str | list | tuple | int | bool | dict
def Ty.nm : Ty → String
  | .str => "str" | .list => "list" | .tuple => "tuple" | .int => "int" | .bool => "bool" | .dict => "dict"
@[simp] def isD : Ty → D → Option Bool
  | t, .str _ => some (match t with | .str => true | _ => false)
  | t, .lst _ => some (match t with | .list => true | _ => false)
  | t, .tup _ => some (match t with | .tuple => true | _ => false)
  | t, .int _ => some (match t with | .int => true | _ => false)
  | t, .bl _ => some (match t with | .int => true | .bool => true | _ => false)
  | t, .dic _ _ => some (match t with | .dict => true | _ => false)
  | t, .non => some false
  | _, _ => none
def tyD : D → Option String
  | .str _ => some "str" | .lst _ => some "list" | .tup _ => some "tuple" | .int _ => some "int" | .bl _ => some "bool" | .dic _ _ => some "dict" | .non => some "NoneType"
  | _ => none
theorem kit_is {K : PySem.W.Frag} {t : Ty} {d : D} {n : String} {b : Bool} (h : isD t d = some b) (hn : tyD d = some n) : PySem.W.kitOne K (.type n) (.type t.nm) = some b := by
  refine kit_ty ?_
  cases d <;> simp only [tyD] at hn <;> cases hn <;> simp only [isD, Option.some.injEq] at h <;> subst h <;> cases t <;> decide +kernel
theorem ty_of {K : PySem.W.Frag} {v : V} {d : D} {n : String} (sub : Sub G H) (h : Pk T G H v d) (hn : tyD d = some n) : TyX K H v (.type n) := by
  cases d with
  | str l => cases hn; rw [pk_str h]; exact .base (.str _)
  | int i => cases hn; rw [pk_int h]; exact .base (.int _)
  | bl b => cases hn; rw [pk_bl h]; exact .base (.bl _)
  | non =>
    cases hn
    rcases h with h | ⟨p, _, h⟩
    · simp only [Rp] at h; subst h; exact .base .non
    · exact h.elim
  | lst l => cases hn; obtain ⟨a, xs, rfl, h1, _⟩ := pk_lst sub h; exact .base (.lst h1)
  | tup l => cases hn; obtain ⟨a, xs, rfl, h1, _⟩ := pk_tup sub h; exact .base (.tup h1)
  | dic ks vs =>
    cases hn
    rcases h with h | ⟨p, rfl, kvs, h, _⟩
    · simp only [Rp] at h
      obtain ⟨q, kvs, rfl, h2, _⟩ := h
      exact .base (.dK (sub _ _ h2))
    · exact .base (.dK h)
  | obj c vs => cases hn
  | fro l => cases hn
  | cls l => cases hn
def fIs (t : Ty) (fa : FE) : FE := fun e => do
  let (p, e1) ← fa e
  let d ← R.of (look e1 p)
  let b ← R.of (isD t d)
  .ok (.d (.bl b), e1)
theorem tyD_of {t : Ty} {d : D} {b : Bool} (h : isD t d = some b) : ∃ n, tyD d = some n := by
  cases d with
  | obj c vs => cases h
  | fro l => cases h
  | cls l => cases h
  | _ => exact ⟨_, rfl⟩
theorem se_is {x : Expr} {a : Expr} {ta : TE} {fa : FE} {t : Ty} (hx : ∀ te, PE X a te → PE X x (tCB (rIsi T.K) (tCons te (tCons (tC (.ty t.nm)) tNil)))) (ha : SE T W X a ta fa) : SE T W X x (tCB (rIsi T.K) (tCons ta (tCons (tC (.ty t.nm)) tNil))) (fIs t fa) := by
  refine ⟨hx _ ha.1, fun Pr A G H σ e Q s h => ?_⟩
  refine ha.2 Pr A G H σ e _ s (h.first fun p1 e1 v1 G1 H1 x1 s1 q1 h1 => ?_)
  obtain ⟨d, l1, h2⟩ := of_ok h1
  obtain ⟨b, l2, h3⟩ := of_ok h2
  obtain ⟨n, hn⟩ := tyD_of l2
  have rb : rPV ⟨T, Pr, A⟩ σ G1 H1 e1 (.d (.bl b)) (.bl b) := by show Rp _ _ _ _; simp only [Rp]
  exact (show rIsi T.K [v1, .ty t.nm] H1 Q from ⟨v1, .ty t.nm, _, _, b, rfl, .ty _, ty_of s1.sub (look_ok s1 q1 l1) hn, kit_is l2 hn, h3 (.bl b) G1 H1 Ext.refl s1 rb⟩)
/-! ### names of the module -/
theorem se_gl {x : Str} {v : V} {d : D} {u : Value} {pos : Pos} (hg : Gl X x) (hm : X.mg x = some u) (r : RelV v u) (hv : ∀ G, Rp T G d v) (hd : (x == ("__debug__" : Str)) = false := by decide) : SE T W X (.Name x pos) (tC v) (fC d) :=
  ⟨pe_glob hg hm r hd, fun Pr A G H σ e Q s h => h v G H Ext.refl s (hv G)⟩
/-- {} -/
def fDic0 : FE := fun e => .ok (.nw (.dic [] []), e)
theorem se_dic0 {pos : Pos} : SE T W X (.Dict [] [] pos) tDNewK fDic0 := ⟨pe_dnewK, fun Pr A G H σ e Q s h => fun p hp => by
  obtain ⟨f1, f2, f3⟩ := s.fresh hp
  exact h (.ref p) G _ Ext.refl (s.grow (Sub.new hp)) ⟨p, rfl, f1, f2, f3, [], upd_same, rfl, RpL.nil⟩⟩
/-! ### a, b = e, constant -/
def fParC (i j : Nat) (fa : FE) (d : D) : FS := fun e => toS (fa e) fun (p, e1) => match put e1 i p with
  | some e2 => match put e2 j (.d d) with
    | some e3 => .nx e3
    | none => .no
  | none => .no
theorem ss_parC {x : Stmt} {a b : Expr} {ta : TE} {fa : FE} {i j : Nat} {v : V} {d : D} (hx : ∀ t, PA X [a, b] t → PS X x (tPar i j t)) (ha : SE T W X a ta fa) (hb : PE X b (tC v)) (hv : ∀ G, Rp T G d v)
    (hs1 : starEach [a, b] X.env = (false, eval a X.env) :: starEach [b] X.env := by rfl) (hs2 : starEach [b] X.env = (false, eval b X.env) :: starEach [] X.env := by rfl) :
    SS T W X x (tPar i j (tCons ta (tCons (tC v) tNil))) (fParC i j fa d) := by
  refine ⟨hx _ (pa_cons ha.1 (pa_cons hb pa_nil hs2) hs1), fun Pr A G H σ e D s h => ?_⟩
  refine ha.2 Pr A G H σ e _ s (h.first fun p1 e1 v1 G1 H1 x1 s1 q1 h1 => ?_)
  dsimp only at h1
  split at h1
  · rename_i e2 h2
    obtain ⟨G2, x2, s2⟩ := put_ok s1 q1 h2
    split at h1
    · rename_i e3 h3
      obtain ⟨G3, x3, s3⟩ := put_ok (pv := .d d) (v := v) s2 (hv _) h3
      exact ⟨v1, v, rfl, h1 _ G3 H1 (x2.trans x3) s3⟩
    · exact h1.elim
  · exact h1.elim
/-- a, b = x, y: both as data -/
def fPar (i j : Nat) (fa : FA) : FS := fun e => toS (fa e) fun (ps, e1) => toS (settleL e1 ps) fun (ds, e2) => match ds with
  | [a, b] => if free e2 i && free e2 j then .nx (st (st e2 i (.va a)) j (.va b)) else .no
  | _ => .no
theorem ss_par {x : Stmt} {es : List Expr} {ta : TA} {fa : FA} {i j : Nat} (hx : ∀ t, PA X es t → PS X x (tPar i j t)) (ha : SA T W X es ta fa) : SS T W X x (tPar i j ta) (fPar i j fa) := by
  refine ⟨hx _ ha.1, fun Pr A G H σ e D s h => ?_⟩
  refine ha.2 Pr A G H σ e _ s (h.first fun ps e1 vs G1 H1 x1 s1 q1 h1 => ?_)
  dsimp only at h1
  cases l1 : settleL e1 ps with
  | no => rw [l1] at h1; exact h1.elim
  | ex _ _ _ => exact absurd l1 settleL_nx
  | ok z =>
    obtain ⟨ds, e2⟩ := z
    rw [l1] at h1
    obtain ⟨G2, x2, s2, q2⟩ := settleL_ok s1 q1 l1
    simp only [toS_ok] at h1
    split at h1
    · rename_i a b
      split at h1
      · simp only [RpL] at q2
        obtain ⟨v, r, rfl, r1, w, r', rfl, r2, rfl⟩ := q2
        exact ⟨v, w, rfl, h1 _ G2 H1 x2 (set_va (set_va s2 r1) r2)⟩
      · exact h1.elim
    · exact h1.elim
end
end DL
set_option Elab.async false
set_option linter.all false
set_option maxRecDepth 100000
set_option maxHeartbeats 4000000
/-! rules in the text's form; the law's own def -/
namespace DL
open PySem PySem.Spec PyProof.Rows L2
section
variable {T : Tb} {W : WX} {X : Cx} {a b : Expr} {ta tb : TE} {fa fb : FE} {pos : Pos}
theorem units65 {k : Nat} {A : Around} (r : Room k A) : A.units + 65 < cLine := by have := r.un; omega
theorem se_op {op : Operator} {r : R2} {od : D → D → Option RV} (ho : OpR X (binaryOp op) r) (hd : OpD T r od) (ha : SE T W X a ta fa) (hb : SE T W X b tb fb) : SE T W X (.BinOp a op b pos) (tOp r ta tb) (fBin od fa fb) :=
  se_bin (fun _ _ h1 h2 => pe_op ho h1 h2) hd ha hb
theorem se_cmp {op : CmpOp} {r : R2} {od : D → D → Option RV} (ho : OpR X (compareOp op) r) (hd : OpD T r od) (ha : SE T W X a ta fa) (hb : SE T W X b tb fb) (hm : behindInMarks op b = false := by first | exact nobehind _ (by decide) (by decide) | rfl) :
    SE T W X (.Compare a [op] [b] pos) (tOp r ta tb) (fBin od fa fb) := se_bin (fun _ _ h1 h2 => pe_cmpR ho h1 h2 hm) hd ha hb
theorem st_cmp {op : CmpOp} {r : R2} {od : D → D → Option RV} (ho : OpR X (compareOp op) r) (hd : OpD T r od) (ha : SE T W X a ta fa) (hb : SE T W X b tb fb) (hm : behindInMarks op b = false := by first | exact nobehind _ (by decide) (by decide) | rfl) :
    ST T W X (.Compare a [op] [b] pos) (tB (tOp r ta tb)) (fTst (fBin od fa fb)) := by
  have S := se_cmp (pos := pos) ho hd ha hb hm
  refine ⟨pt_cmpR ho ha.1 hb.1 hm, fun Pr A G H σ e Q s h => ?_⟩
  refine S.2 Pr A G H σ e _ s (h.first fun p1 e1 v1 G1 H1 x1 s1 q1 h1 => ?_)
  dsimp only at h1
  split at h1
  · rename_i k hk
    exact ⟨k, bl_of s1 q1 hk, h1 k G1 H1 Ext.refl s1 rfl⟩
  · exact h1.elim
theorem se_un1 {op : UnaryOp} {r : V → Hp → VK → Prop} {od : D → Option RV} (ho : UnR X (unaryOp op) r) (hd : UnD T r od) (ha : SE T W X a ta fa) : SE T W X (.UnaryOp op a pos) (tUn r ta) (fUn od fa) :=
  se_un (fun _ h => pe_un ho h) hd ha
theorem se_ix (hK : X.K = T.K) (ha : SE T W X a ta fa) (hb : SE T W X b tb fb) (hs : PlainIx b := by intro _ _; rfl) : SE T W X (.Subscript a b pos) (tOp (rIx T.K) ta tb) (fBin oIx fa fb) :=
  se_bin (fun _ _ h1 h2 => pe_ix (hK ▸ ix_seq) h1 h2 hs) d_ix ha hb
theorem se_sl (hK : X.K = T.K) {lo hi : Option Expr} {tl th : TO} {fl fh} {p2 : Pos} (ha : SE T W X a ta fa) (hl : SO T W X lo tl fl) (hh : SO T W X hi th fh) : SE T W X (.Subscript a (.Slice lo hi none p2) pos) (tSl (rSlA' T.K) ta tl th) (fSl oSl fa fl fh) :=
  se_slice (hK ▸ sl_A) d_sl ha hl hh
/-- built-ins by name -/
theorem se_blt {id : String} {x : Str} {p : Pos} {es : List Expr} {r : List V → Hp → VK → Prop} {op : List D → Option RV} {te : TA} {fs : FA} (hc : CallR X (.builtin id) r) (hd : CallD T r op) (hg : Gl X x) (hm : X.mg x = none) (hv : bootBuiltins x = some (.builtin id)) (ha : SA T W X (a :: es) te fs) (hn : x ≠ "__name__" := by decide) (hdb : (x == ("__debug__" : Str)) = false := by decide)
    (he : starEach (a :: es) X.env = (false, eval a X.env) :: starEach es X.env := by rfl) (hpl : (backTo pos (starEach es X.env)).any (·.1) = false := by rfl) : SE T W X (.Call (.Name x p) (a :: es) [] pos) (tCB r te) (fCB op fs) :=
  se_cb (fun _ h => pe_callB hc hg hm hv h hn hdb he hpl) hd ha
theorem se_typ {id : String} {x : Str} {p : Pos} {es : List Expr} {r : List V → Hp → VK → Prop} {op : List D → Option RV} {te : TA} {fs : FA} (hc : CallR X (.type id) r) (hd : CallD T r op) (hg : Gl X x) (hm : X.mg x = none) (hv : bootBuiltins x = some (.type id)) (ha : SA T W X (a :: es) te fs) (hn : x ≠ "__name__" := by decide) (hdb : (x == ("__debug__" : Str)) = false := by decide)
    (he : starEach (a :: es) X.env = (false, eval a X.env) :: starEach es X.env := by rfl) (hpl : (backTo pos (starEach es X.env)).any (·.1) = false := by rfl) : SE T W X (.Call (.Name x p) (a :: es) [] pos) (tCB r te) (fCB op fs) :=
  se_cb (fun _ h => pe_callTy hc hg hm hv h hn hdb he hpl) hd ha
theorem se_isn {t : Ty} {p q : Pos} {y : Str} (hK : X.K = T.K) (hg : Gl X "isinstance") (hm : X.mg "isinstance" = none) (hg2 : Gl X y) (hm2 : X.mg y = none) (hv : bootBuiltins y = some (.type t.nm)) (ha : SE T W X a ta fa) (hn : y ≠ "__name__" := by decide) (hdb : (y == ("__debug__" : Str)) = false := by decide)
    (he : starEach (a :: [.Name y q]) X.env = (false, eval a X.env) :: starEach [.Name y q] X.env := by rfl) (he2 : starEach (.Name y q :: []) X.env = (false, eval (.Name y q) X.env) :: starEach [] X.env := by rfl) (hpl : (backTo pos (starEach [.Name y q] X.env)).any (·.1) = false := by rfl) :
    SE T W X (.Call (.Name "isinstance" p) [a, .Name y q] [] pos) (tCB (rIsi T.K) (tCons ta (tCons (tC (.ty t.nm)) tNil))) (fIs t fa) :=
  se_is (fun te h => pe_callB (hK ▸ call_isi) hg hm PyProof.Rows.Boot.«isinstance» (pa_cons h (pa_cons (pe_bltn hg2 hm2 hv rfl hn hdb) pa_nil he2) he) (by decide) (by decide) he hpl) ha
/-- a target -/
def fTgt (g : D → Env → Option Env) (fe : FE) : FS := fun e => toS (fe e) fun (p, e1) => toS (settle e1 p) fun (d, e2) => match g d e2 with
  | some e3 => .nx e3
  | none => .no
theorem ss_tgt {tg y : Expr} {te : TE} {fe : FE} {g : TG} {is : List Nat} {gm} (hg : STg T X tg g is gm) (he : SE T W X y te fe) (hs : swapsWithSole [tg] y pos.line X.env = pure false := by rfl) (hw : swappedStores [tg] y X.env = pure none := by rfl)
    (h1 : (assignEach [tg] X.env).map (·.2) = [assign tg X.env] := by rfl) : SS T W X (.Assign [tg] y pos) (tAsg te g) (fTgt gm fe) := by
  refine ⟨ps_asg he.1 hg.1 hs hw h1, fun Pr A G H σ e D s h => ?_⟩
  refine he.2 Pr A G H σ e _ s (h.first fun p1 e1 v1 G1 H1 x1 s1 q1 h1 => ?_)
  dsimp only at h1
  cases l1 : settle e1 p1 with
  | no => rw [l1] at h1; exact h1.elim
  | ex _ _ _ => exact absurd l1 settle_nx
  | ok z =>
    obtain ⟨d, e2⟩ := z
    rw [l1] at h1
    obtain ⟨G2, x2, s2, r2⟩ := settle_ok s1 q1 l1
    simp only [toS_ok] at h1
    split at h1
    · rename_i e3 h3
      exact hg.2 Pr A G2 H1 σ e2 e3 d v1 _ s2 r2 h3 fun σ' s' _ _ => h1 σ' G2 H1 x2 s'
    · exact h1.elim
/-- o[k] = e, o a name's own list -/
theorem ss_stl {i : Nat} {k y : Expr} {tk te : TE} {fk fe : FE} {n : Str} {p p2 : Pos} (ho : PE X (.Name n p) (tVar i)) (hk : SE T W X k tk fk) (he : SE T W X y te fe)
    (hs : swapsWithSole [.Subscript (.Name n p) k p2] y pos.line X.env = pure false := by rfl) (hw : swappedStores [.Subscript (.Name n p) k p2] y X.env = pure none := by rfl) (h1 : (assignEach [.Subscript (.Name n p) k p2] X.env).map (·.2) = [assign (.Subscript (.Name n p) k p2) X.env] := by rfl)
    (h2 : ∀ v, assign (.Subscript (.Name n p) k p2) X.env v = (do
      let ov ← holding [v] (eval (.Name n p) X.env)
      let iv ← holding [v, ov] (eval k X.env)
      standAt p2
      holding [v, ov, iv] (setItem ov iv v)
      release [v, ov, iv] []) := by intro _; rfl) : SS T W X (.Assign [.Subscript (.Name n p) k p2] y pos) (tAsg te (gSub (tVar i) tk rSetL)) (fSti i oSetL fk fe) :=
  ss_sti (fun t u h h' => ps_asg h (pg_sub ho h' set_list h2) hs hw h1) d_setL hk he
/-! ### what is walked: a list or a text -/
def fItA (fe : FE) : Env → R (List D × Env) := fun e => match fe e with
  | .ok (p, e1) => match look e1 p with
    | some (.str _) => fItS fe e
    | _ => fItL fe e
  | .ex c d e1 => .ex c d e1
  | .no => .no
theorem si_seq {tg x : Expr} {te : TE} {fe : FE} (hK : X.K = T.K) (he : SE T W X x te fe) : SI T W X tg x (fun σ H R => iList T.K te σ H R ∨ iStr te σ H R) (fItA fe) := by
  obtain ⟨p1, r1⟩ := si_list (tg := tg) hK he
  obtain ⟨p2, r2⟩ := si_str (tg := tg) he
  refine ⟨⟨fun pins s σ H Q I h => ?_⟩, fun Pr A G H σ e Q s h => ?_⟩
  · rcases h with h | h
    · exact p1.run pins s σ H Q I h
    · exact p2.run pins s σ H Q I h
  · unfold fItA at h
    cases q0 : fe e with
    | no => rw [q0] at h; exact h.elim
    | ex c d e1 =>
      rw [q0] at h
      refine .inl (r1 Pr A G H σ e Q s ?_)
      unfold fItL
      rw [q0]
      exact h
    | ok a =>
      obtain ⟨p, e1⟩ := a
      rw [q0] at h
      dsimp only at h
      split at h
      · exact .inr (r2 Pr A G H σ e Q s h)
      · exact .inl (r1 Pr A G H σ e Q s h)
end
/-! ### arguments by name -/
@[simp] def permL {α : Type} (p : List Nat) (l : List α) : List α := p.filterMap fun j => l[j]?
theorem vals_perm {xs : List V} {us : List Value} (r : Vals xs us) : ∀ p : List Nat, Vals (permL p xs) (permL p us)
  | [] => .nil
  | j :: p => by
    have ih := vals_perm r p
    unfold permL at ih ⊢
    rw [List.filterMap_cons, List.filterMap_cons]
    cases e : xs[j]? with
    | none =>
      have : us[j]? = none := by rw [List.getElem?_eq_none_iff] at e ⊢; rw [← r.length]; exact e
      rw [this]; exact ih
    | some x =>
      obtain ⟨u, hu, ru⟩ := r.get e
      rw [hu]
      exact .cons ru ih
theorem rpl_perm {T : Tb} {G : Hp} {ds : List D} {xs : List V} (r : RpL T G ds xs) : ∀ p : List Nat, (∀ j ∈ p, j < ds.length) → RpL T G (permL p ds) (permL p xs) ∧ (permL p ds).length = p.length
  | [], _ => ⟨RpL.nil, rfl⟩
  | j :: p, h => by
    obtain ⟨ih, il⟩ := rpl_perm r p fun i hi => h i (List.mem_cons_of_mem _ hi)
    have hj := h j List.mem_cons_self
    have e : ds[j]? = some ds[j] := List.getElem?_eq_getElem hj
    obtain ⟨x, hx, rx⟩ := r.get e
    unfold permL at ih il ⊢
    rw [List.filterMap_cons, List.filterMap_cons, e, hx]
    exact ⟨RpL.cons rx ih, by rw [List.length_cons, il]; rfl⟩
theorem Bd.kw {K : PySem.W.Frag} {x qual : Str} {sd : Stmt} {f : Addr} {fd : FuncData} (F : Fun K x qual sd f fd) {ps ks : List Str} {p : List Nat}
    (h : ∀ (kV doc pm : Value) (an : Option Addr) (cdv ct : Value) (ws : List Value), ws.length = ks.length → bindArgs (PySem.W.fnOf x qual (defArgs sd) (defBody sd) (defScope sd) .none kV doc pm an cdv ct) ⟨[], ks.zip ws⟩ = pure (ps.zip (permL p ws))) : Bd K fd ps ks 0 (permL p) (permL p) where
  to := fun sh us ws _ l1 l2 => by
    obtain ⟨oc, od, kV, doc, pm, an, cdv, ct, osl, rfl, lk, hcode⟩ := F.ex
    have : us = [] := List.length_eq_zero_iff.mp l1
    subst this
    exact .of_eq (h kV doc pm an cdv ct ws l2)
  rel := fun r => vals_perm r p
/-! ### the law -/
/-- what the law's def is to do: true at every script -/
def spLaw (n : Nat) (K : PySem.W.Frag) : Sp := fun vs H Q _ => ∃ (a : Addr) (ns : List Int), vs = [.ref a] ∧ SqL K H a (ns.map V.int) ∧ ns.length ≤ n ∧ ∀ H', Q (.bl true) H'
def LawOk (n : Nat) (m : FM) : Prop := ∀ ns : List Int, ns.length ≤ n → ∃ s', m [.va (.fro (ns.map D.int))] = .ok (.d (.bl true), s')
theorem ints_rp {T : Tb} {G : Hp} : ∀ ns : List Int, RpL T G (ns.map D.int) (ns.map V.int)
  | [] => RpL.nil
  | n :: ns => RpL.cons int_val (ints_rp ns)
theorem law_fng {P : Program} {w : World} {K : PySem.W.Frag} {mg : Str → Option Value} {base : Heap} {k n : Nat} {f : Addr} {fd : FuncData} {x : Str} {T : Tb} {m : FM} (F : FnG P w K mg base k f fd [x] (spD T 1 m)) (hK : T.K = K) (h : LawOk n m) :
    FnG P w K mg base k f fd [x] (spLaw n K) := by
  refine ⟨fun xs H Q E z => ?_, fun A below sh H as us xs Q E room gd e0 bound vals want => F.go A below sh H as us xs Q E room gd e0 bound vals ?_⟩
  · obtain ⟨a, ns, rfl, _⟩ := z; rfl
  · obtain ⟨a, ns, rfl, hs, hl, q⟩ := want
    obtain ⟨s', hm⟩ := h ns hl
    have r : Rp T H (.fro (ns.map D.int)) (.ref a) := by
      simp only [Rp]
      exact ⟨a, ns.map V.int, rfl, by rw [hK]; exact hs, ints_rp ns⟩
    refine ⟨rfl, H, [.va (.fro (ns.map D.int))], Sub.refl, rfl, ⟨fun i d z => ?_, fun i b d z => ?_, fun i j b d b2 d2 p z _ _ _ => ?_⟩, ?_⟩
    · cases i with
      | zero => cases z; exact ⟨.ref a, rfl, r⟩
      | succ i => cases i <;> cases z
    · cases i with
      | zero => cases z
      | succ i => cases i <;> cases z
    · cases i with
      | zero => cases z
      | succ i => cases i <;> cases z
    · rw [hm]
      intro v G' H' _ hv
      simp only [PVC, Rp] at hv
      subst hv
      exact q H'
end DL
set_option Elab.async false
set_option linter.all false
set_option maxRecDepth 100000
/-! the mirrors at an environment -/
namespace DL
open PySem PySem.Spec PyProof.Rows L2
@[simp] theorem fV_ev (i : Nat) (e : Env) : fV i e = (match gt e i with
  | .va d => .ok (.d d, e)
  | .ce _ _ => .ok (.sl i, e)
  | .un => .no) := rfl
@[simp] theorem fC_ev (d : D) (e : Env) : fC d e = (.ok (.d d, e)) := rfl
@[simp] theorem fBin_ev (op : D → D → Option RV) (fa fb : FE) (e : Env) : fBin op fa fb e = (do
  let (pa, e1) ← fa e
  let (pb, e2) ← fb e1
  let da ← R.of (look e2 (hold pa))
  let db ← R.of (look e2 pb)
  let rv ← R.of (op da db)
  .ok (rv.pv, e2)) := rfl
@[simp] theorem fUn_ev (op : D → Option RV) (fa : FE) (e : Env) : fUn op fa e = (do
  let (pa, e1) ← fa e
  let da ← R.of (look e1 pa)
  let rv ← R.of (op da)
  .ok (rv.pv, e1)) := rfl
@[simp] theorem fCB_ev (op : List D → Option RV) (fa : FA) (e : Env) : fCB op fa e = (do
  let (ps, e1) ← fa e
  let ds ← R.of (lookL e1 ps)
  let rv ← R.of (op ds)
  .ok (rv.pv, e1)) := rfl
@[simp] theorem fNil_ev  (e : Env) : fNil  e = (.ok ([], e)) := rfl
@[simp] theorem fCons_ev (fa : FE) (fr : FA) (e : Env) : fCons fa fr e = (do
  let (p, e1) ← fa e
  let (ps, e2) ← fr e1
  .ok (hold p :: ps, e2)) := rfl
@[simp] theorem fLst_ev (fa : FA) (e : Env) : fLst fa e = (do
  let (ps, e1) ← fa e
  let (ds, e2) ← settleL e1 ps
  if ds.length ≤ LIM then .ok (.nw (.lst ds), e2) else .no) := rfl
@[simp] theorem fTup_ev (fa : FA) (e : Env) : fTup fa e = (do
  let (ps, e1) ← fa e
  let (ds, e2) ← settleL e1 ps
  if ds.length ≤ LIM then .ok (.d (.tup ds), e2) else .no) := rfl
@[simp] theorem fTst_ev (fa : FE) (e : Env) : fTst fa e = (do
  let (p, e1) ← fa e
  match look e1 p with
  | some (.bl b) => .ok (b, e1)
  | _ => .no) := rfl
@[simp] theorem fAnd_ev (fa fb : FT) (e : Env) : fAnd fa fb e = (do
  let (b, e1) ← fa e
  if b = true then fb e1 else .ok (false, e1)) := rfl
@[simp] theorem fOr_ev (fa fb : FT) (e : Env) : fOr fa fb e = (do
  let (b, e1) ← fa e
  if b = true then .ok (true, e1) else fb e1) := rfl
@[simp] theorem fNot_ev (fa : FT) (e : Env) : fNot fa e = (do
  let (b, e1) ← fa e
  .ok (!b, e1)) := rfl
@[simp] theorem fAndV_ev (fa fb : FE) (e : Env) : fAndV fa fb e = (do
  let (p, e1) ← fa e
  match look e1 p with
  | some (.bl b) => if b = true then fb e1 else .ok (.d (.bl false), e1)
  | _ => .no) := rfl
@[simp] theorem fOrV_ev (fa fb : FE) (e : Env) : fOrV fa fb e = (do
  let (p, e1) ← fa e
  match look e1 p with
  | some (.bl b) => if b = true then .ok (.d (.bl true), e1) else fb e1
  | _ => .no) := rfl
@[simp] theorem fNotV_ev (fa : FE) (e : Env) : fNotV fa e = (do
  let (p, e1) ← fa e
  match look e1 p with
  | some (.bl b) => .ok (.d (.bl (!b)), e1)
  | _ => .no) := rfl
@[simp] theorem fIfE_ev (ft : FT) (fa fb : FE) (e : Env) : fIfE ft fa fb e = (do
  let (b, e1) ← ft e
  if b = true then fa e1 else fb e1) := rfl
@[simp] theorem fNoPart_ev  (e : Env) : fNoPart  e = (.ok (none, e)) := rfl
@[simp] theorem fPart_ev (fa : FE) (e : Env) : fPart fa e = (do
  let (p, e1) ← fa e
  match look e1 p with
  | some (.int i) => .ok (some i, e1)
  | _ => .no) := rfl
@[simp] theorem fSl_ev (op : D → Option Int → Option Int → Option RV) (fa : FE) (fl fh : Env → R (Option Int × Env)) (e : Env) : fSl op fa fl fh e = (do
  let (pa, e1) ← fa e
  let (lo, e2) ← fl e1
  let (hi, e3) ← fh e2
  let da ← R.of (look e3 (hold pa))
  let rv ← R.of (op da lo hi)
  .ok (rv.pv, e3)) := rfl
@[simp] theorem fMt0_ev (ty : String) (op : D → List D → Option RV) (fa : FE) (e : Env) : fMt0 ty op fa e = (do
  let (pa, e1) ← fa e
  let da ← R.of (look e1 pa)
  let _ ← R.of (if isTy ty da then some () else none)
  let rv ← R.of (op da [])
  .ok (rv.pv, e1)) := rfl
@[simp] theorem fMt_ev (ty : String) (op : D → List D → Option RV) (fa : FE) (fs : FA) (e : Env) : fMt ty op fa fs e = (do
  let (pa, e1) ← fa e
  let d0 ← R.of (look e1 (hold pa))
  let _ ← R.of (if isTy ty d0 then some () else none)
  let (ps, e2) ← fs e1
  let da ← R.of (look e2 (hold pa))
  let ds ← R.of (lookL e2 ps)
  let rv ← R.of (op da ds)
  .ok (rv.pv, e2)) := rfl
@[simp] theorem fSkip_ev  (e : Env) : fSkip  e = (.nx e) := rfl
@[simp] theorem fSeq_ev (f g : FS) (e : Env) : fSeq f g e = (match f e with
  | .nx e1 => g e1
  | .bk e1 => .bk e1
  | .ct e1 => .ct e1
  | .rt p e1 => .rt p e1
  | .ex c d e1 => .ex c d e1
  | .no => .no) := rfl
@[simp] theorem fBrk_ev  (e : Env) : fBrk  e = (.bk e) := rfl
@[simp] theorem fCnt_ev  (e : Env) : fCnt  e = (.ct e) := rfl
@[simp] theorem fPass_ev  (e : Env) : fPass  e = (.nx e) := rfl
@[simp] theorem fNever_ev  (e : Env) : fNever  e = (.no) := rfl
@[simp] theorem fDrop_ev (fe : FE) (e : Env) : fDrop fe e = (toS (fe e) fun (_, e1) => .nx e1) := rfl
@[simp] theorem fIf_ev (ft : FT) (fa fb : FS) (e : Env) : fIf ft fa fb e = (toS (ft e) fun (b, e1) => if b = true then fa e1 else fb e1) := rfl
@[simp] theorem fRet_ev (fe : FE) (e : Env) : fRet fe e = (toS (fe e) fun (p, e1) => retP e1 p) := rfl
@[simp] theorem fRetN_ev  (e : Env) : fRetN  e = (.rt (.d .non) e) := rfl
@[simp] theorem fSet_ev (i : Nat) (fe : FE) (e : Env) : fSet i fe e = (toS (fe e) fun (p, e1) => putO e1 i p) := rfl
@[simp] theorem fAug_ev (i : Nat) (op : D → D → Option RV) (fe : FE) (e : Env) : fAug i op fe e = (match gt e i with
  | .va d0 => toS (fe e) fun (p, e1) => match look e1 p with
    | some d1 => match op d0 d1 with
      | some rv => putO e1 i rv.pv
      | none => .no
    | none => .no
  | _ => .no) := rfl
@[simp] theorem fMu_ev (i : Nat) (ty : String) (op : D → List D → Option (RV × D)) (fs : FA) (e : Env) : fMu i ty op fs e = (match gt e i with
  | .ce _ d0 => if isTy ty d0 = true then (do
      let (ps, e1) ← fs e
      let (ds, e2) ← settleL e1 ps
      match gt e2 i with
      | .ce b d => match op d ds with
        | some (rv, d') => .ok (rv.pv, st e2 i (.ce b d'))
        | none => .no
      | _ => .no) else .no
  | _ => .no) := rfl
@[simp] theorem fMu0_ev (i : Nat) (ty : String) (op : D → List D → Option (RV × D)) (e : Env) : fMu0 i ty op e = (match gt e i with
  | .ce b d => if isTy ty d = true then (match op d [] with
      | some (rv, d') => .ok (rv.pv, st e i (.ce b d'))
      | none => .no) else .no
  | _ => .no) := rfl
@[simp] theorem fSti_ev (i : Nat) (op : D → D → D → Option D) (fk fe : FE) (e : Env) : fSti i op fk fe e = (toS (fe e) fun (p, e1) => toS (settle e1 p) fun (dv, e2) => match gt e2 i with
  | .ce _ _ => toS (fk e2) fun (pk, e3) => toS (settle e3 pk) fun (dk, e4) => match gt e4 i with
    | .ce b d => match op d dk dv with
      | some d' => .nx (st e4 i (.ce b d'))
      | none => .no
    | _ => .no
  | _ => .no) := rfl
@[simp] theorem fItL_ev (fe : FE) (e : Env) : fItL fe e = (do
  let (p, e1) ← fe e
  let (d, e2) ← settle e1 p
  match d with
  | .lst l => .ok (l, e2)
  | .fro l => .ok (l, e2)
  | _ => .no) := rfl
@[simp] theorem fItS_ev (fe : FE) (e : Env) : fItS fe e = (do
  let (p, e1) ← fe e
  match look e1 p with
  | some (.str l) => .ok (chrs l, e1)
  | _ => .no) := rfl
@[simp] theorem fRg1_ev (fa : FA) (e : Env) : fRg1 fa e = (do
  let (ps, e1) ← fa e
  match lookL e1 ps with
  | some [.int j] => if RB j then .ok (rngs 0 j.toNat, e1) else .no
  | _ => .no) := rfl
@[simp] theorem fRg2_ev (fa : FA) (e : Env) : fRg2 fa e = (do
  let (ps, e1) ← fa e
  match lookL e1 ps with
  | some [.int i, .int j] => if RB i && RB j then .ok (rngs i (j - i).toNat, e1) else .no
  | _ => .no) := rfl
@[simp] theorem fFor_ev (g : D → Env → Option Env) (fi : Env → R (List D × Env)) (b : FS) (e : Env) : fFor g fi b e = (toS (fi e) fun (items, e1) => loop g b items e1) := rfl
@[simp] theorem fYes_ev  (e : Env) : fYes  e = (.ok (true, e)) := rfl
@[simp] theorem fLc_ev (vs : List Nat) (g : D → Env → Option Env) (fi : Env → R (List D × Env)) (ft : FT) (fe : FE) (e : Env) : fLc vs g fi ft fe e = (do
  let (items, e1) ← fi e
  let (acc, e2) ← cloop vs g ft fe items [] e1
  .ok (.nw (.lst acc), back e1 vs e2)) := rfl
@[simp] theorem fCall_ev (m : FM) (ms : List Bool) (dfl : List D) (fa : FA) (e : Env) : fCall m ms dfl fa e = (do
  let (ps, e1) ← fa e
  let (ps', e2) ← pass1 e1 ms ps
  let sls ← R.of (if nodupB (refs ps') then toSl e2 ps' else none)
  match m (sls ++ dfl.map Sl.va) with
  | .ok (p, s') => .ok (p, upds e2 ps' s')
  | .ex c d s' => .ex c d (upds e2 ps' s')
  | .no => .no) := rfl
@[simp] theorem fCallK_ev (m : FM) (perm : List D → List D) (fa : FA) (e : Env) : fCallK m perm fa e = (do
  let (ps, e1) ← fa e
  let (ds, e2) ← settleL e1 ps
  match m ((perm ds).map Sl.va) with
  | .ok (p, _) => .ok (p, e2)
  | .ex c d _ => .ex c d e2
  | .no => .no) := rfl
@[simp] theorem fIs_ev (t : Ty) (fa : FE) (e : Env) : fIs t fa e = (do
  let (p, e1) ← fa e
  let d ← R.of (look e1 p)
  let b ← R.of (isD t d)
  .ok (.d (.bl b), e1)) := rfl
@[simp] theorem fDic0_ev  (e : Env) : fDic0  e = (.ok (.nw (.dic [] []), e)) := rfl
@[simp] theorem fParC_ev (i j : Nat) (fa : FE) (d : D) (e : Env) : fParC i j fa d e = (toS (fa e) fun (p, e1) => match put e1 i p with
  | some e2 => match put e2 j (.d d) with
    | some e3 => .nx e3
    | none => .no
  | none => .no) := rfl
@[simp] theorem fPar_ev (i j : Nat) (fa : FA) (e : Env) : fPar i j fa e = (toS (fa e) fun (ps, e1) => toS (settleL e1 ps) fun (ds, e2) => match ds with
  | [a, b] => if free e2 i && free e2 j then .nx (st (st e2 i (.va a)) j (.va b)) else .no
  | _ => .no) := rfl
@[simp] theorem fTgt_ev (g : D → Env → Option Env) (fe : FE) (e : Env) : fTgt g fe e = (toS (fe e) fun (p, e1) => toS (settle e1 p) fun (d, e2) => match g d e2 with
  | some e3 => .nx e3
  | none => .no) := rfl
@[simp] theorem fItA_ev (fe : FE) (e : Env) : fItA fe e = (match fe e with
  | .ok (p, e1) => match look e1 p with
    | some (.str _) => fItS fe e
    | _ => fItL fe e
  | .ex c d e1 => .ex c d e1
  | .no => .no) := rfl
@[simp] theorem fRaise_ev (c : Nat) (fe : FE) (e : Env) : fRaise c fe e = (toS (fe e) fun (p, e1) => toS (settle e1 p) fun (d, e2) => .ex c d e2) := rfl
@[simp] theorem fTry_ev (fb : FS) (hs : List HM) (e : Env) : fTry fb hs e = (match fb e with
  | .ex c d e1 => fHds hs c d e1
  | o => o) := rfl
@[simp] theorem loop_nil (g b e) : loop g b [] e = .nx e := rfl
end DL
set_option Elab.async false
set_option linter.all false
set_option maxRecDepth 100000
set_option maxHeartbeats 4000000
/-! plain facts on the mirrors -/
namespace DL
open PySem PySem.Spec PyProof.Rows L2
theorem LIM_eq : LIM = 1000000 := rfl
theorem cloop_pure {v : Nat} {g : D → Env → Option Env} {fe : FE} {w : Env} {f : D → D} : ∀ (items acc : List D) (e : Env), (∀ d ∈ items, ∃ e2, g d w = some e2 ∧ ∃ p e3 e4, fe e2 = .ok (p, e3) ∧ settle e3 p = .ok (f d, e4) ∧ st e4 v .un = w) → st e v .un = w → acc.length + items.length ≤ LIM →
    ∃ e', cloop [v] g fYes fe items acc e = .ok (acc ++ items.map f, e') ∧ st e' v .un = w
  | [], acc, e, _, hw, _ => ⟨e, by simp [cloop], hw⟩
  | d :: r, acc, e, h, hw, hl => by
    obtain ⟨e2, h1, p, e3, e4, h2, h3, h4⟩ := h d List.mem_cons_self
    rw [List.length_cons] at hl
    obtain ⟨e', k1, k2⟩ := cloop_pure (v := v) (g := g) (fe := fe) (w := w) (f := f) r (acc ++ [f d]) e4 (fun d hd => h d (List.mem_cons_of_mem _ hd)) h4 (by simp; omega)
    refine ⟨e', ?_, k2⟩
    have hlt : acc.length < LIM := by omega
    show (do
      let e1 ← R.of (g d (st e v .un))
      let (b, e2) ← noex (fYes e1)
      if b = true then do
        let (p, e3) ← noex (fe e2)
        let (y, e4) ← settle e3 p
        if acc.length < LIM then cloop [v] g fYes fe r (acc ++ [y]) e4 else .no
      else cloop [v] g fYes fe r acc e2) = _
    rw [hw, h1]
    simp only [R.of, R.bind_ok, fYes_ev, noex_ok, h2, h3, if_pos hlt, if_true]
    rw [k1]
    simp
theorem lc_pure {v : Nat} {g : D → Env → Option Env} {fi : Env → R (List D × Env)} {fe : FE} {e e1 w : Env} {items : List D} {f : D → D} (hi : fi e = .ok (items, e1)) (hw : st e1 v .un = w) (hl : items.length ≤ LIM)
    (step : ∀ d ∈ items, ∃ e2, g d w = some e2 ∧ ∃ p e3 e4, fe e2 = .ok (p, e3) ∧ settle e3 p = .ok (f d, e4) ∧ st e4 v .un = w) :
    fLc [v] g fi fYes fe e = .ok (.nw (.lst (items.map f)), st w v (match gt e1 v with | .va d => .va d | _ => .un)) := by
  obtain ⟨e', h1, h2⟩ := cloop_pure (v := v) (g := g) (fe := fe) (w := w) (f := f) items [] e1 step hw (by simpa using hl)
  have e3 : ∀ x, st e' v x = st w v x := fun x => by rw [← h2, st_st]
  have e4 : back e1 [v] e' = st w v (match gt e1 v with | .va d => .va d | _ => .un) := by
    cases q : gt e1 v <;> simp only [back, q, e3]
  rw [fLc_ev, hi]
  simp only [R.bind_ok, h1, List.nil_append, e4]
theorem bls_map {l : List Nat} {f : Nat → Bool} : bls ((l.map fun c => D.str [c]).map fun d => match d with | .str [c] => .bl (f c) | _ => .non) = some (l.map f) := by
  induction l with
  | nil => rfl
  | cons c l ih => simp only [List.map_cons, bls, ih, Option.map_some]
theorem bls_bl {α : Type} (l : List α) (f : α → Bool) : bls (l.map fun c => D.bl (f c)) = some (l.map f) := by
  induction l with
  | nil => rfl
  | cons c l ih => simp only [List.map_cons, bls, ih, Option.map_some]
/-- a list of what is told of each sign of a text -/
theorem lc_signs {v : Nat} {g : D → Env → Option Env} {fi : Env → R (List D × Env)} {fe : FE} {e e1 w : Env} {l : List Nat} {f : Nat → D} (hi : fi e = .ok (chrs l, e1)) (hw : st e1 v .un = w) (hl : l.length ≤ LIM)
    (step : ∀ c ∈ l, ∃ e2, g (.str [c]) w = some e2 ∧ ∃ p e3 e4, fe e2 = .ok (p, e3) ∧ settle e3 p = .ok (f c, e4) ∧ st e4 v .un = w) :
    fLc [v] g fi fYes fe e = .ok (.nw (.lst (l.map f)), st w v (match gt e1 v with | .va d => .va d | _ => .un)) := by
  have h := lc_pure (f := fun d => match d with | .str [c] => f c | _ => .non) hi hw (by simpa using hl) fun d hd => by
    obtain ⟨c, hc, rfl⟩ := List.mem_map.mp hd
    exact step c hc
  rw [h]
  simp [List.map_map, Function.comp_def]
theorem chrs_len (l : List Nat) : (chrs l).length = l.length := by
  induction l with
  | nil => rfl
  | cons c l ih => simp [chrs] at ih ⊢
theorem fIf_ok {ft : FT} {fa fb : FS} {e e1 : Env} {b : Bool} (h : ft e = .ok (b, e1)) : fIf ft fa fb e = if b = true then fa e1 else fb e1 := by rw [fIf_ev, h]; rfl
theorem fSeq_nx {f g : FS} {e e1 : Env} (h : f e = .nx e1) : fSeq f g e = g e1 := by rw [fSeq_ev, h]
theorem fSeq_rt {f g : FS} {e e1 : Env} {p : PV} (h : f e = .rt p e1) : fSeq f g e = .rt p e1 := by rw [fSeq_ev, h]
theorem fSeq_ex {f g : FS} {e e1 : Env} {c : Nat} {d : D} (h : f e = .ex c d e1) : fSeq f g e = .ex c d e1 := by rw [fSeq_ev, h]
theorem fSet_ok {i : Nat} {fe : FE} {e e1 e2 : Env} {p : PV} (h : fe e = .ok (p, e1)) (h2 : put e1 i p = some e2) : fSet i fe e = .nx e2 := by rw [fSet_ev, h]; simp only [toS_ok, putO, h2]
theorem fFor_ok {g : D → Env → Option Env} {fi : Env → R (List D × Env)} {b : FS} {e e1 : Env} {items : List D} (h : fi e = .ok (items, e1)) : fFor g fi b e = loop g b items e1 := by rw [fFor_ev, h]; rfl
theorem loop_nx {g : D → Env → Option Env} {b : FS} {d : D} {r : List D} {e e1 e2 : Env} (h1 : g d e = some e1) (h2 : b e1 = .nx e2) : loop g b (d :: r) e = loop g b r e2 := by rw [loop, h1]; simp only [h2]
theorem loop_rt {g : D → Env → Option Env} {b : FS} {d : D} {r : List D} {e e1 e2 : Env} {p : PV} (h1 : g d e = some e1) (h2 : b e1 = .rt p e2) : loop g b (d :: r) e = .rt p e2 := by rw [loop, h1]; simp only [h2]
theorem fCB_ok {op : List D → Option RV} {fa : FA} {e e1 : Env} {ps : List PV} {ds : List D} {rv : RV} (h : fa e = .ok (ps, e1)) (h2 : lookL e1 ps = some ds) (h3 : op ds = some rv) : fCB op fa e = .ok (rv.pv, e1) := by
  rw [fCB_ev, h]; simp only [R.bind_ok, h2, h3, R.of]
theorem fBin_ok {op : D → D → Option RV} {fa fb : FE} {e e1 e2 : Env} {pa pb : PV} {da db : D} {rv : RV} (h : fa e = .ok (pa, e1)) (h2 : fb e1 = .ok (pb, e2)) (h3 : look e2 (hold pa) = some da) (h4 : look e2 pb = some db) (h5 : op da db = some rv) : fBin op fa fb e = .ok (rv.pv, e2) := by
  rw [fBin_ev, h]; simp only [R.bind_ok, h2, h3, h4, h5, R.of]
theorem fTst_ok {fa : FE} {e e1 : Env} {b : Bool} (h : fa e = .ok (.d (.bl b), e1)) : fTst fa e = .ok (b, e1) := by rw [fTst_ev, h]; rfl
theorem fRet_d {fa : FE} {e e1 : Env} {d : D} (h : fa e = .ok (.d d, e1)) : fRet fa e = .rt (.d d) e1 := by rw [fRet_ev, h]; rfl
theorem fRet_nw {fa : FE} {e e1 : Env} {d : D} (h : fa e = .ok (.nw d, e1)) : fRet fa e = .rt (.nw d) e1 := by rw [fRet_ev, h]; rfl
theorem mDef_d {n : Nat} {fb : FS} {sls s' : List Sl} {d : D} {e : Env} (h : fb (sls ++ List.replicate (n - sls.length) .un) = .rt (.d d) e) (hf : fin sls e = some s') : mDef n fb sls = .ok (.d d, s') := by
  unfold mDef; rw [h]; simp only [hf]
theorem mDef_nw {n : Nat} {fb : FS} {sls s' : List Sl} {d : D} {e : Env} (h : fb (sls ++ List.replicate (n - sls.length) .un) = .rt (.nw d) e) (hf : fin sls e = some s') : mDef n fb sls = .ok (.nw d, s') := by
  unfold mDef; rw [h]; simp only [hf]
theorem mDef_nx {n : Nat} {fb : FS} {sls s' : List Sl} {e : Env} (h : fb (sls ++ List.replicate (n - sls.length) .un) = .nx e) (hf : fin sls e = some s') : mDef n fb sls = .ok (.d .non, s') := by
  unfold mDef; rw [h]; simp only [hf]
theorem mDef_ex {n c : Nat} {fb : FS} {sls s' : List Sl} {d : D} {e : Env} (h : fb (sls ++ List.replicate (n - sls.length) .un) = .ex c d e) (hf : fin sls e = some s') : mDef n fb sls = .ex c d s' := by
  unfold mDef; rw [h]; simp only [hf]
end DL
set_option Elab.async false
set_option linter.all false
set_option maxRecDepth 100000
set_option maxHeartbeats 4000000
/-! enumerate, zip of lists, chains, or on texts -/
namespace DL
open PySem PySem.Spec PyProof.Rows L2
section
variable {T : Tb} {W : WX} {X : Cx}
def enumD : Nat → List D → List D
  | _, [] => []
  | n, d :: r => .tup [.int n, d] :: enumD (n + 1) r
theorem enumD_get : ∀ (l : List D) (n i : Nat), (enumD n l)[i]? = (l[i]?).map fun d => .tup [.int ((n + i : Nat) : Int), d]
  | [], n, i => by simp [enumD]
  | d :: r, n, 0 => by simp [enumD]
  | d :: r, n, i + 1 => by
    simp only [enumD, List.getElem?_cons_succ]
    rw [enumD_get r (n + 1) i, show n + 1 + i = n + (i + 1) by omega]
theorem enumD_len (l : List D) (n : Nat) : (enumD n l).length = l.length := by
  induction l generalizing n with
  | nil => rfl
  | cons d l ih => simp [enumD, ih]
def fItE (fa : FA) : Env → R (List D × Env) := fun e => do
  let (ps, e1) ← fa e
  let (ds, e2) ← settleL e1 ps
  match ds with
  | [.lst l] => .ok (enumD 0 l, e2)
  | _ => .no
theorem si_enum {e : Expr} {ta : TA} {fa : FA} {p pos tpos : Pos} {elts : List Expr} {kk : Nat} (hK : X.K = T.K) (hg : Gl X "enumerate") (hm : X.mg "enumerate" = none) (ha : SA T W X [e] ta fa) (hs : starEach [e] X.env = [(false, eval e X.env)] := by rfl) :
    SI T W X (.Tuple elts kk tpos) (.Call (.Name "enumerate" p) [e] [] pos) (iEnum T.K ta) (fItE fa) := by
  refine ⟨hK ▸ pi_enum hg hm ha.1 hs, fun Pr A G H σ e Q s h => ?_⟩
  refine ha.2 Pr A G H σ e _ s (h.first fun ps e1 vs G1 H1 x1 s1 q1 h1 => ?_)
  obtain ⟨⟨ds, e2⟩, l1, h2⟩ := no_of (fun _ _ _ => settleL_nx) h1
  obtain ⟨G2, x2, s2, q2⟩ := settleL_ok s1 q1 l1
  dsimp only at h2
  split at h2
  · rename_i l
    simp only [RpL, Rp] at q2
    obtain ⟨v, r, rfl, ⟨a, xs, rfl, y1, y2⟩, rfl⟩ := q2
    refine ⟨a, xs, rfl, .inl (.inl (s2.sub _ _ y1)), h2 _ G2 H1 x2 s2 ?_⟩
    intro G3 H3 i z1 z2
    have here : SqL T.K H3 a xs := .inl (.inl (z2 _ _ (z1 _ _ y1)))
    refine ⟨fun d hd => ?_, fun hl => ⟨xs, here, by rw [RpL.length y2]; rw [enumD_len] at hl; exact hl⟩⟩
    rw [enumD_get, Option.map_eq_some_iff] at hd
    obtain ⟨d0, hd0, rfl⟩ := hd
    obtain ⟨x, hx, rx⟩ := y2.get hd0
    refine ⟨⟨xs, x, here, hx⟩, fun w H4 ⟨p, x', e1, e2, e3, e4⟩ => .inr ⟨p, _, _, e2, e3, e1, rfl, ?_⟩⟩
    have := e4 xs here
    rw [hx] at this; cases this
    have rx' := Rp.mono z1 _ _ rx
    rw [Nat.zero_add]
    exact RpL.cons (by simp only [Rp]) (RpL.cons rx' RpL.nil)
  · exact h2.elim
/-! ### zip of two lists -/
def zipD : List D → List D → List D
  | a :: r, b :: s => .tup [a, b] :: zipD r s
  | _, _ => []
theorem zipD_get : ∀ (l m : List D) (i : Nat), (zipD l m)[i]? = match l[i]?, m[i]? with | some a, some b => some (.tup [a, b]) | _, _ => none
  | [], m, i => by simp [zipD]
  | a :: r, [], i => by
    rw [show ([] : List D)[i]? = none by simp]
    cases (a :: r)[i]? <;> simp [zipD]
  | a :: r, b :: s, 0 => by simp [zipD]
  | a :: r, b :: s, i + 1 => by simp only [zipD, List.getElem?_cons_succ]; exact zipD_get r s i
theorem zipD_len (l m : List D) : (zipD l m).length = min l.length m.length := by
  induction l generalizing m with
  | nil => simp [zipD]
  | cons a l ih =>
    cases m with
    | nil => simp [zipD]
    | cons b m => simp [zipD, ih]
def fItZ (fa : FA) : Env → R (List D × Env) := fun e => do
  let (ps, e1) ← fa e
  let (ds, e2) ← settleL e1 ps
  match ds with
  | [.lst l, .lst m] => .ok (zipD l m, e2)
  | _ => .no
theorem si_zip {e e' : Expr} {ta : TA} {fa : FA} {p pos tpos : Pos} {elts : List Expr} {kk : Nat} (hK : X.K = T.K) (hg : Gl X "zip") (hm : X.mg "zip" = none) (ha : SA T W X [e, e'] ta fa) (hs : starEach [e, e'] X.env = (false, eval e X.env) :: starEach [e'] X.env := by rfl) (hpl : (backTo pos (starEach [e'] X.env)).any (·.1) = false := by rfl) :
    SI T W X (.Tuple elts kk tpos) (.Call (.Name "zip" p) [e, e'] [] pos) (iZip T.K ta) (fItZ fa) := by
  refine ⟨hK ▸ pi_zip hg hm ha.1 hs hpl, fun Pr A G H σ e Q s h => ?_⟩
  refine ha.2 Pr A G H σ e _ s (h.first fun ps e1 vs G1 H1 x1 s1 q1 h1 => ?_)
  obtain ⟨⟨ds, e2⟩, l1, h2⟩ := no_of (fun _ _ _ => settleL_nx) h1
  obtain ⟨G2, x2, s2, q2⟩ := settleL_ok s1 q1 l1
  dsimp only at h2
  split at h2
  · rename_i l m
    simp only [RpL, Rp] at q2
    obtain ⟨v, r, rfl, ⟨a, xs, rfl, y1, y2⟩, v', r', rfl, ⟨b, ys, rfl, y3, y4⟩, rfl⟩ := q2
    refine ⟨a, b, xs, ys, rfl, .inl (.inl (s2.sub _ _ y1)), .inl (.inl (s2.sub _ _ y3)), h2 _ G2 H1 x2 s2 ?_⟩
    intro G3 H3 i z1 z2
    have here : SqL T.K H3 a xs := .inl (.inl (z2 _ _ (z1 _ _ y1)))
    have there : SqL T.K H3 b ys := .inl (.inl (z2 _ _ (z1 _ _ y3)))
    refine ⟨fun d hd => ?_, fun hl => ⟨xs, ys, here, there, by rw [RpL.length y2, RpL.length y4]; rw [zipD_len] at hl; omega⟩⟩
    rw [zipD_get] at hd
    split at hd
    · rename_i d0 d1 g0 g1
      cases hd
      obtain ⟨x, hx, rx⟩ := y2.get g0
      obtain ⟨y, hy, ry⟩ := y4.get g1
      refine ⟨⟨xs, ys, x, y, here, there, hx, hy⟩, fun w H4 ⟨p, x', y', e1, e2, e3, e4, e5⟩ => .inr ⟨p, _, _, e2, e3, e1, rfl, ?_⟩⟩
      have := e4 xs here
      rw [hx] at this; cases this
      have := e5 ys there
      rw [hy] at this; cases this
      exact RpL.cons (Rp.mono z1 _ _ rx) (RpL.cons (Rp.mono z1 _ _ ry) RpL.nil)
    · cases hd
  · exact h2.elim
/-! ### a op b op' c -/
def fChain (op op' : D → D → Option RV) (fa fb fc : FE) : FE := fun e => do
  let (pa, e1) ← fa e
  let (pb, e2) ← fb e1
  let da ← R.of (look e2 (hold pa))
  let db ← R.of (look e2 (hold pb))
  match op da db with
  | some (.at (.bl true)) => do
    let (pc, e3) ← fc e2
    let db' ← R.of (look e3 (hold pb))
    let dc ← R.of (look e3 pc)
    match op' db' dc with
    | some rv => .ok (rv.pv, e3)
    | none => .no
  | some (.at (.bl false)) => .ok (.d (.bl false), e2)
  | _ => .no
theorem se_chain {a b c : Expr} {op op' : CmpOp} {r r' : R2} {od od' : D → D → Option RV} {ta tb tc : TE} {fa fb fc : FE} {pos : Pos} (ho : OpR X (compareOp op) r) (hd : OpD T r od) (ho' : OpR X (compareOp op') r') (hd' : OpD T r' od') (ha : SE T W X a ta fa) (hb : SE T W X b tb fb) (hc : SE T W X c tc fc)
    (hm : lastMarks [op, op'] [b, c] = false := by with_unfolding_all rfl) : SE T W X (.Compare a [op, op'] [b, c] pos) (tChain r r' ta tb tc) (fChain od od' fa fb fc) := by
  refine ⟨pe_chain ho ho' ha.1 hb.1 hc.1 hm, fun Pr A G H σ e Q s h => ?_⟩
  refine ha.2 Pr A G H σ e _ s (h.first fun pa e1 v1 G1 H1 x1 s1 q1 h1 => ?_)
  obtain ⟨G1', x1', s1', q1'⟩ := hold_ok s1 q1
  refine hb.2 Pr A G1' H1 σ e1 _ s1' ((h1.ext x1').first fun pb e2 v2 G2 H2 x2 s2 q2 h2 => ?_)
  obtain ⟨G2', x2', s2', q2'⟩ := hold_ok s2 q2
  obtain ⟨da, l1, h3⟩ := of_ok (h2.ext x2')
  obtain ⟨db, l2, h4⟩ := of_ok h3
  have pka := look_ok s2' (q1'.stay (x2.trans x2').1) l1
  have pkb := look_ok s2' q2' l2
  split at h4
  · rename_i hop
    refine hd G2' H2 v1 v2 da db _ _ s2'.sub pka pkb hop fun z hz => ?_
    simp only [Rp] at hz
    subst hz
    refine ⟨true, rfl, ?_⟩
    rw [if_pos rfl]
    refine hc.2 Pr A G2' H2 σ e2 _ s2' (h4.first fun pc e3 v3 G3 H3 x3 s3 q3 h5 => ?_)
    obtain ⟨db', l3, h6⟩ := of_ok h5
    obtain ⟨dc, l4, h7⟩ := of_ok h6
    split at h7
    · rename_i rv hop'
      exact hd' G3 H3 v2 v3 db' dc rv _ s3.sub (look_ok s3 (q2'.stay x3.1) l3) (look_ok s3 q3 l4) hop' (rv_done s3 h7)
    · exact h7.elim
  · rename_i hop
    refine hd G2' H2 v1 v2 da db _ _ s2'.sub pka pkb hop fun z hz => ?_
    simp only [Rp] at hz
    subst hz
    refine ⟨false, rfl, ?_⟩
    rw [if_neg Bool.false_ne_true]
    exact h4 (.bl false) G2' H2 Ext.refl s2' (by show Rp _ _ _ _; simp only [Rp])
  · exact h4.elim
end
end DL
set_option Elab.async false
set_option linter.all false
set_option maxRecDepth 100000
set_option maxHeartbeats 4000000
/-! sorted of a text, of a list of numbers -/
namespace DL
open PySem PySem.Spec PyProof.Rows L2
section
variable {T : Tb} {W : WX} {X : Cx}
abbrev one1 (c : Nat) : Str := ⟨#[c]⟩
def insI {α : Type} (le : α → α → Bool) (x : α) : List α → List α
  | [] => [x]
  | y :: r => if le x y = true then x :: y :: r else y :: insI le x r
def sortI {α : Type} (le : α → α → Bool) : List α → List α
  | [] => []
  | x :: r => insI le x (sortI le r)
theorem insI_perm {α : Type} (le : α → α → Bool) (x : α) : ∀ l, (insI le x l).Perm (x :: l)
  | [] => List.Perm.refl _
  | y :: r => by
    unfold insI
    split
    · exact List.Perm.refl _
    · exact ((insI_perm le x r).cons y).trans (List.Perm.swap x y r)
theorem sortI_perm {α : Type} (le : α → α → Bool) : ∀ l, (sortI le l).Perm l
  | [] => List.Perm.refl _
  | x :: r => (insI_perm le x _).trans ((sortI_perm le r).cons x)
theorem insI_sorted {α : Type} {le : α → α → Bool} (ht : ∀ a b, le a b = true ∨ le b a = true) (tr : ∀ a b c, le a b = true → le b c = true → le a c = true) (x : α) : ∀ l, l.Pairwise (fun a b => le a b = true) → (insI le x l).Pairwise (fun a b => le a b = true)
  | [], _ => List.pairwise_singleton _ _
  | y :: r, h => by
    unfold insI
    have h' := List.pairwise_cons.mp h
    split
    · rename_i hx
      refine List.pairwise_cons.mpr ⟨fun z hz => ?_, h⟩
      rcases List.mem_cons.mp hz with e | hz
      · subst e; exact hx
      · exact tr _ _ _ hx (h'.1 z hz)
    · rename_i hx
      refine List.pairwise_cons.mpr ⟨fun z hz => ?_, insI_sorted ht tr x r h'.2⟩
      rcases List.mem_cons.mp ((insI_perm le x r).mem_iff.mp hz) with e | hz
      · subst e; exact (ht z y).resolve_left hx
      · exact h'.1 z hz
theorem sortI_sorted {α : Type} {le : α → α → Bool} (ht : ∀ a b, le a b = true ∨ le b a = true) (tr : ∀ a b c, le a b = true → le b c = true → le a c = true) : ∀ l, (sortI le l).Pairwise (fun a b => le a b = true)
  | [] => List.Pairwise.nil
  | x :: r => insI_sorted ht tr x _ (sortI_sorted ht tr r)
def sortN (l : List Nat) : List Nat := sortI (fun a b => decide (a ≤ b)) l
def sortZ (l : List Int) : List Int := sortI (fun a b => decide (a ≤ b)) l
theorem sortN_uniq {a l : List Nat} (hp : a.Perm l) (ha : a.Pairwise (· ≤ ·)) : a = sortN l := by
  have h1 := sortI_sorted (le := fun a b : Nat => decide (a ≤ b)) (by intro a b; simp; omega) (by intro a b c; simp; omega) l
  refine List.Perm.eq_of_pairwise (le := (· ≤ ·)) (fun x y _ _ h1 h2 => Nat.le_antisymm h1 h2) ha (h1.imp fun h => of_decide_eq_true h) (hp.trans (sortI_perm _ l).symm)
theorem sortZ_uniq {a l : List Int} (hp : a.Perm l) (ha : a.Pairwise (· ≤ ·)) : a = sortZ l := by
  have h1 := sortI_sorted (le := fun a b : Int => decide (a ≤ b)) (by intro a b; simp; omega) (by intro a b c; simp; omega) l
  refine List.Perm.eq_of_pairwise (le := (· ≤ ·)) (fun x y _ _ h1 h2 => Int.le_antisymm h1 h2) ha (h1.imp fun h => of_decide_eq_true h) (hp.trans (sortI_perm _ l).symm)
/-! ### from texts of one sign to signs -/
theorem rising_le : ∀ (l : List Nat) (p : Nat), risingS (one1 p) (l.map one1) = true → (p :: l).Pairwise (· ≤ ·)
  | [], p, _ => List.pairwise_singleton _ _
  | x :: r, p, h => by
    simp only [List.map_cons, risingS, Bool.and_eq_true, Bool.not_eq_true'] at h
    obtain ⟨h1, h2⟩ := h
    have ih := rising_le r x h2
    have hpx : p ≤ x := by
      rw [ltCps_eq] at h1
      have h3 : ¬ ([x] < [p]) := of_decide_eq_false h1
      by_cases hq : p ≤ x
      · exact hq
      · exact absurd (List.Lex.rel (by omega)) h3
    refine List.pairwise_cons.mpr ⟨fun z hz => ?_, ih⟩
    rcases List.mem_cons.mp hz with e | hz
    · subst e; exact hpx
    · exact Nat.le_trans hpx ((List.pairwise_cons.mp ih).1 z hz)
theorem singles {ys : List Str} {l : List Nat} (hp : ys.Perm (l.map one1)) (hs : sortedS ys = true) : ys = (sortN l).map one1 := by
  have hall : ∀ z ∈ ys, ∃ c, z = one1 c := fun z hz => by
    obtain ⟨c, _, e⟩ := List.mem_map.mp (hp.mem_iff.mp hz)
    exact ⟨c, e.symm⟩
  have key : ∀ ys : List Str, (∀ z ∈ ys, ∃ c, z = one1 c) → ys = (ys.map fun z => z.cps.toList.headD 0).map one1 := by
    intro ys
    induction ys with
    | nil => intro _; rfl
    | cons z r ih =>
      intro h
      obtain ⟨c, rfl⟩ := h z List.mem_cons_self
      rw [List.map_cons, List.map_cons, ← ih fun z hz => h z (List.mem_cons_of_mem _ hz)]
      rfl
  have e := key ys hall
  generalize hcs : (ys.map fun z : Str => z.cps.toList.headD 0) = cs at e
  have hp2 : cs.Perm l := by
    rw [← hcs]
    have := hp.map fun z : Str => z.cps.toList.headD 0
    rw [List.map_map] at this
    have e2 : (l.map ((fun z : Str => z.cps.toList.headD 0) ∘ one1)) = l := by
      rw [show ((fun z : Str => z.cps.toList.headD 0) ∘ one1) = id from rfl, List.map_id]
    rw [e2] at this
    exact this
  have hs2 : cs.Pairwise (· ≤ ·) := by
    rw [e] at hs
    cases cs with
    | nil => exact List.Pairwise.nil
    | cons c r => exact rising_le r c hs
  rw [e, sortN_uniq hp2 hs2]
abbrev rSortT : List V → Hp → VK → Prop := fun xs H Q => ∃ z : Str, xs = [.str z] ∧ z.length < 64 ∧ ∀ p, H p = none → Q (.ref p) (upd H p (.lst ((sortN z.cps.toList).map fun c => V.str (one1 c))))
theorem call_sortedT (hcalm : X.calm = true) : CallR X (.builtin "sorted") rSortT := by
  intro pins s σ H xs us Q I r q
  obtain ⟨z, ex, h64, q⟩ := q
  subst ex
  cases r with
  | cons r1 r2 =>
  cases r2
  obtain ⟨t, rfl⟩ := r1
  have hz : z.cps.size < 64 := h64
  refine Calls.call_function_entry PyProof.Rows.kind_sorted PyProof.Rows.plain_sorted PyProof.Rows.entry_sorted (PyProof.Rows.args_sorted1 _) ?_
  unfold Builtin.«sorted»
  refine wpAny_bind (m := checkCount "sorted" 1 1 _) (wpAny_pure ?_)
  refine wpAny_bind (wpAny_collect_str (A := X.A.in1) (I.ok.hd hcalm) z t (fun s' acc hheap hgens hdrawn hos hacc => ?_) (by rw [sizeLine_eq]; omega))
  have es : s' = { s with heap := s'.heap, toks := s'.toks } := by
    cases s; cases s'; cases hgens; cases hdrawn; cases hos; rfl
  have hal : acc.toList.length = (z.cps.toList.map one1).length := by rw [Array.length_toList, hacc.1, List.length_map, Array.length_toList]
  have hS : StrsAre acc.toList (z.cps.toList.map one1) := L2.strs_at hal fun j v e => by
    obtain ⟨c, u, e1, e2⟩ := hacc.2 j v (by rw [← Array.getElem?_toList]; exact e)
    exact ⟨one1 c, u, by rw [List.getElem?_map, Array.getElem?_toList, e1]; rfl, e2⟩
  generalize s'.heap = h' at es hheap
  generalize s'.toks = tk at es
  subst es
  have hl64 : acc.toList.length < 64 := by rw [Array.length_toList, hacc.1]; exact hz
  have I1 : Inv X pins σ H { s with heap := h', toks := tk } := I.kept hheap
  refine wpAny_bind (wpAny_newList ?_ (by rw [sizeLine_eq]; omega))
  have hoL : (h'.push (seqObj "list" acc.toList.toArray 0)).get? h'.objs.size = some (seqObj "list" acc.toList.toArray 0) := Heap.get?_push_size _ rfl
  show wpAny _ _ _ _ _ { s with heap := h'.push (seqObj "list" acc.toList.toArray 0), toks := tk }
  refine wpAny_bind (wpAny_holding (wpAny_call_entry PyProof.Rows.slot_list_sort ⟨_, hoL, rfl⟩ PyProof.Rows.entry_list_sort
    (list_sort_treeK strKind_oneLt (s := { s with heap := h'.push (seqObj "list" acc.toList.toArray 0), toks := tk }) hoL hS.keysOf (fun v₁ v₂ rest e => keyKind_strs (by rw [← e]; exact hS)) hl64 fun st' hp hs => ⟨_, rfl, ?_⟩)
    (PyProof.Rows.args_list_sort _)))
  obtain ⟨ys, g1, g2, g3⟩ := sorted_out_str hS hp hs
  obtain ⟨e', he'⟩ := PyProof.Rows.sortedHeap_at (vs := acc.toList) (out := (arrOf st').map (·.2)) hoL
  have hys := singles g2 g3
  have hlen : (ys.map V.str).length ≤ sizeLine := by
    rw [List.length_map, g2.length_eq, ← hal]
    exact Nat.le_trans (Nat.le_of_lt hl64) (by decide)
  have hmap : ys.map V.str = (sortN z.cps.toList).map fun c => V.str (one1 c) := by rw [hys, List.map_map]; rfl
  refine wpAny_pure ⟨_, rfl, .ref h'.objs.size, upd H h'.objs.size (.lst (ys.map V.str)), I1.laid (t' := tk) (fun b u e => ?_) (Nat.le_refl _)
    (show ObjOk X.prog X.w _ _ _ (.lst (ys.map V.str)) from ⟨hlen, ((arrOf st').map (·.2)).toList, e', vals_of_strs g1, by rw [Array.toArray_toList]; exact he'⟩), rfl, by rw [hmap]; exact q _ (I1.hok.fresh (Nat.le_refl _))⟩
  have hb : b < h'.objs.size := Heap.lt_size e
  rw [PyProof.Rows.sortedHeap_old (Nat.ne_of_lt hb) (by rw [size_push']; exact Nat.lt_succ_of_lt hb)]
  exact Heap.get?_push_of_some _ e
/-! ### the mirror -/
@[simp] def oSorted : List D → Option RV
  | [.str l] => if l.length < 64 then some (.ls (chrs (sortN l))) else none
  | _ => none
theorem d_sorted : CallD T rSortT oSorted := by
  intro G H vs ds rv Q sub pk ho q
  unfold oSorted at ho
  split at ho
  · split at ho
    · rename_i hl
      cases ho
      obtain ⟨v, r, rfl, p1, rfl⟩ := pk
      rw [pk_str p1]
      refine ⟨S _, rfl, by rw [S_len]; exact hl, fun p hp => q p _ hp ?_⟩
      rw [S_list]
      exact chrs_rp _
    · cases ho
  · cases ho
/-! ### truth of other values; or, and that hand out an operand -/
@[simp] def truD : D → Option Bool
  | .non => some false
  | .bl b => some b
  | .int i => some (i != 0)
  | .str l => if l.length ≤ LIM then some (!l.isEmpty) else none
  | .lst l => some (!l.isEmpty)
  | _ => none
theorem tru_d {G H : Hp} {v : V} {d : D} {k : Bool} (sub : Sub G H) (p : Pk T G H v d) (h : truD d = some k) : TruV T.K v H k := by
  unfold truD at h
  split at h
  · cases h; rw [pk_non p]; rfl
  · cases h; rw [pk_bl p]; rfl
  · cases h; rw [pk_int p]; rfl
  · rename_i l
    split at h
    · rename_i hl
      cases h
      rw [pk_str p]
      refine ⟨by rw [S_len]; exact Nat.le_trans hl lim_le, ?_⟩
      rw [S_len]
      cases l with
      | nil => rfl
      | cons c r =>
        rw [List.isEmpty_cons, List.length_cons]
        symm
        rw [Bool.not_false, bne_iff_ne]
        omega
    · cases h
  · rename_i l
    cases h
    obtain ⟨a, xs, rfl, h2, r⟩ := pk_lst sub p
    refine .inl ⟨xs, .inl (.inl h2), ?_⟩
    have := RpL.length r
    cases l <;> cases xs <;> simp_all
  · cases h
def fOrT (fa fb : FE) : FE := fun e => do
  let (p, e1) ← fa e
  match (look e1 p).bind truD with
  | some true => .ok (p, e1)
  | some false => fb e1
  | none => .no
def fAndT (fa fb : FE) : FE := fun e => do
  let (p, e1) ← fa e
  match (look e1 p).bind truD with
  | some false => .ok (p, e1)
  | some true => fb e1
  | none => .no
section
variable {a b : Expr} {rest : List Expr} {ta tb : TE} {ga gb : FE} {pos : Pos}
theorem se_orT (hK : X.K = T.K) (ha : SE T W X a ta ga) (hb : SE T W X (.BoolOp .Or (b :: rest) pos) tb gb) : SE T W X (.BoolOp .Or (a :: b :: rest) pos) (tOrT T.K ta tb) (fOrT ga gb) := by
  obtain ⟨p, r⟩ := ha
  obtain ⟨p2, r2⟩ := hb
  refine ⟨hK ▸ pe_orT p p2, fun Pr A G H σ e Q s h => ?_⟩
  refine r Pr A G H σ e _ s (h.first fun p1 e1 v1 G1 H1 x1 s1 q1 h1 => ?_)
  dsimp only at h1
  split at h1
  · rename_i hk
    obtain ⟨d, hd, hk⟩ := Option.bind_eq_some_iff.mp hk
    refine ⟨true, tru_d s1.sub (look_ok s1 q1 hd) hk, ?_⟩
    rw [if_pos rfl]
    exact h1 _ G1 H1 Ext.refl s1 q1
  · rename_i hk
    obtain ⟨d, hd, hk⟩ := Option.bind_eq_some_iff.mp hk
    refine ⟨false, tru_d s1.sub (look_ok s1 q1 hd) hk, ?_⟩
    rw [if_neg Bool.false_ne_true]
    exact r2 Pr A G1 H1 σ e1 Q s1 h1
  · exact h1.elim
theorem se_andT (hK : X.K = T.K) (ha : SE T W X a ta ga) (hb : SE T W X (.BoolOp .And (b :: rest) pos) tb gb) : SE T W X (.BoolOp .And (a :: b :: rest) pos) (tAndT T.K ta tb) (fAndT ga gb) := by
  obtain ⟨p, r⟩ := ha
  obtain ⟨p2, r2⟩ := hb
  refine ⟨hK ▸ pe_andT p p2, fun Pr A G H σ e Q s h => ?_⟩
  refine r Pr A G H σ e _ s (h.first fun p1 e1 v1 G1 H1 x1 s1 q1 h1 => ?_)
  dsimp only at h1
  split at h1
  · rename_i hk
    obtain ⟨d, hd, hk⟩ := Option.bind_eq_some_iff.mp hk
    refine ⟨false, tru_d s1.sub (look_ok s1 q1 hd) hk, ?_⟩
    rw [if_neg Bool.false_ne_true]
    exact h1 _ G1 H1 Ext.refl s1 q1
  · rename_i hk
    obtain ⟨d, hd, hk⟩ := Option.bind_eq_some_iff.mp hk
    refine ⟨true, tru_d s1.sub (look_ok s1 q1 hd) hk, ?_⟩
    rw [if_pos rfl]
    exact r2 Pr A G1 H1 σ e1 Q s1 h1
  · exact h1.elim
end
theorem st_chain {a b c : Expr} {op op' : CmpOp} {r r' : R2} {od od' : D → D → Option RV} {ta tb tc : TE} {fa fb fc : FE} {pos : Pos} (ho : OpR X (compareOp op) r) (hd : OpD T r od) (ho' : OpR X (compareOp op') r') (hd' : OpD T r' od') (ha : SE T W X a ta fa) (hb : SE T W X b tb fb) (hc : SE T W X c tc fc)
    (hm : lastMarks [op, op'] [b, c] = false := by with_unfolding_all rfl) : ST T W X (.Compare a [op, op'] [b, c] pos) (tTest (tChain r r' ta tb tc)) (fTst (fChain od od' fa fb fc)) := by
  refine ⟨pt_chain ho ho' ha.1 hb.1 hc.1 hm, fun Pr A G H σ e Q s h => ?_⟩
  refine (se_chain (pos := pos) ho hd ho' hd' ha hb hc hm).2 Pr A G H σ e _ s (h.first fun b1 e1 v1 G1 H1 x1 s1 q1 h1 => ?_)
  dsimp only at h1
  split at h1
  · rename_i b hb
    exact ⟨b, bl_of s1 q1 hb, h1 b G1 H1 Ext.refl s1 rfl⟩
  · exact h1.elim
/-! ### l[::-1] -/
theorem RpL.reverse {G : Hp} : ∀ {ds : List D} {xs : List V}, RpL T G ds xs → RpL T G ds.reverse xs.reverse
  | [], xs, h => by
    simp only [RpL] at h
    subst h
    exact RpL.nil
  | d :: ds, xs, h => by
    simp only [RpL] at h
    obtain ⟨v, r, rfl, h1, h2⟩ := h
    rw [List.reverse_cons, List.reverse_cons]
    exact RpL.append (RpL.reverse h2) (RpL.cons h1 RpL.nil)
@[simp] def oRev : D → Option RV
  | .lst l => some (.ls l.reverse)
  | _ => none
abbrev rRev (K : PySem.W.Frag) : V → Hp → VK → Prop := fun x H1 Q => ∃ a xs, x = .ref a ∧ SqL K H1 a xs ∧ ∀ p, H1 p = none → Q (.ref p) (upd H1 p (.lst xs.reverse))
theorem d_rev : UnD T (rRev T.K) oRev := by
  intro G H v d rv Q sub p ho q
  unfold oRev at ho
  split at ho
  · cases ho
    obtain ⟨a, xs, rfl, h2, r⟩ := pk_lst sub p
    exact ⟨a, xs, rfl, .inl (.inl h2), fun p hp => q p _ hp (RpL.reverse r)⟩
  · cases ho
theorem se_revL {a : Expr} {ta : TE} {fa : FE} {k : Nat} {p1 p2 p3 pos : Pos} (hK : X.K = T.K) (ha : SE T W X a ta fa) : SE T W X (.Subscript a (.Slice none none (some (.UnaryOp .USub (.Constant (.int 1) k p1) p2)) p3) pos) (tUn (rRev T.K) ta) (fUn oRev fa) :=
  se_un (fun _ h => hK ▸ pe_revL h) d_rev ha
theorem op_isB' : OpR X (compareOp .Is) (rIsB' id) := by
  have e : rIsB' id = rIsB := by
    funext x y H Q
    simp only [rIsB', rIsB, id, eq_iff_iff]
    constructor <;> rintro ⟨a, b, h1, h2, q⟩ <;> refine ⟨a, b, h1, h2, ?_⟩ <;> cases a <;> cases b <;> exact q
  rw [e]; exact op_isBl
theorem op_notB' : OpR X (compareOp .IsNot) (rIsB' not) := by
  have e : rIsB' not = rNotB := by
    funext x y H Q
    simp only [rIsB', rNotB, eq_iff_iff]
    constructor <;> rintro ⟨a, b, h1, h2, q⟩ <;> refine ⟨a, b, h1, h2, ?_⟩ <;> cases a <;> cases b <;> exact q
  rw [e]; exact op_notBl
def FUEL : Nat := 100000
end
end DL
set_option Elab.async false
set_option linter.all false
set_option maxRecDepth 100000
set_option maxHeartbeats 4000000
/-! weakest preconditions of mirrors -/
namespace DL
open PySem PySem.Spec PyProof.Rows L2
abbrev XP := Nat → D → Env → Prop
structure Bx (p : Prop) : Prop where
  out : p
def WPE {α : Type} (r : R (α × Env)) (Q : α → Env → Prop) (X : XP) : Prop := Bx (match r with
  | .ok a => Q a.1 a.2
  | .ex c d e => X c d e
  | .no => False)
def WPS (o : Oc) (N : Env → Prop) (Rt : PV → Env → Prop) (B C : Env → Prop) (X : XP) : Prop := Bx (match o with
  | .nx e => N e
  | .bk e => B e
  | .ct e => C e
  | .rt p e => Rt p e
  | .ex c d e => X c d e
  | .no => False)
abbrev XF : XP := fun _ _ _ => False
/-- a truth value decides -/
def WI (b : Bool) (P Q : Prop) : Prop := (b = true → P) ∧ (b = false → Q)
def WO {α : Type} (o : Option α) (K : α → Prop) : Prop := ∃ a, o = some a ∧ K a
/-- an operation's result -/
def WR (o : Option RV) (Q : PV → Env → Prop) (e : Env) : Prop := ∃ rv, o = some rv ∧ Q rv.pv e
def WT (o : Option D) (K : Bool → Prop) : Prop := ∃ b, o = some (.bl b) ∧ K b
def WSti (i : Nat) (op : D → D → D → Option D) (dk dv : D) (e : Env) (N : Env → Prop) : Prop := ∃ b d d', gt e i = .ce b d ∧ op d dk dv = some d' ∧ N (st e i (.ce b d'))
def WMu (i : Nat) (op : D → List D → Option (RV × D)) (ds : List D) (e : Env) (Q : PV → Env → Prop) : Prop := ∃ b d1 rv d', gt e i = .ce b d1 ∧ op d1 ds = some (rv, d') ∧ Q rv.pv (st e i (.ce b d'))
def WRg1 (ds : List D) (e : Env) (Q : List D → Env → Prop) : Prop := ∃ j, ds = [.int j] ∧ RB j = true ∧ Q (rngs 0 j.toNat) e
def WRg2 (ds : List D) (e : Env) (Q : List D → Env → Prop) : Prop := ∃ i j, ds = [.int i, .int j] ∧ RB i = true ∧ RB j = true ∧ Q (rngs i (j - i).toNat) e
def WItE (ds : List D) (e : Env) (Q : List D → Env → Prop) : Prop := ∃ l, ds = [.lst l] ∧ Q (enumD 0 l) e
def WItZ (ds : List D) (e : Env) (Q : List D → Env → Prop) : Prop := ∃ l m, ds = [.lst l, .lst m] ∧ Q (zipD l m) e
def WPar (ds : List D) (i j : Nat) (e : Env) (N : Env → Prop) : Prop := ∃ a b, ds = [a, b] ∧ (free e i && free e j) = true ∧ N (st (st e i (.va a)) j (.va b))
def WCe (e : Env) (i : Nat) : Prop := ∃ b d, gt e i = .ce b d
def WPt (d : D) (e : Env) (Q : Option Int → Env → Prop) : Prop := ∃ i, d = .int i ∧ Q (some i) e
/-- the state, to be written out -/
def WN (e : Env) (N : Env → Prop) : Prop := N e
def WN2 (p : PV) (e : Env) (Q : PV → Env → Prop) : Prop := Q p e
section
variable {α β : Type} {Q Q' : α → Env → Prop} {X X' : XP} {e e1 e2 e' : Env} {d d1 d2 da db dc : D} {p p1 p2 pa pb : PV} {ps : List PV} {N N' B B' C C' : Env → Prop} {Rt Rt' : PV → Env → Prop} {fa fb fc fe fk : FE} {ft ft' : FT} {gs fr : FA} {f g : FS}
theorem wn (h : e = e') (k : N e') : WN e N := by subst h; exact k
theorem wn2 {Q : PV → Env → Prop} (h : e = e') (k : Q p e') : WN2 p e Q := by subst h; exact k
theorem WPE.mono {r : R (α × Env)} (h : WPE r Q X) (hq : ∀ a e, Q a e → Q' a e) (hx : ∀ c d e, X c d e → X' c d e) : WPE r Q' X' := by
  cases r with
  | ok a => exact ⟨hq _ _ h.out⟩
  | ex c d e => exact ⟨hx _ _ _ h.out⟩
  | no => exact h.out.elim
theorem WPE.bind {r : R (β × Env)} {k : β × Env → R (α × Env)} (h : WPE r (fun b e => WPE (k (b, e)) Q X) X) : WPE (r >>= k) Q X := by
  cases r with
  | ok a => exact h.out
  | ex c d e => exact h
  | no => exact h
theorem WPE.of {o : Option β} {k : β → R (α × Env)} (h : WO o fun b => WPE (k b) Q X) : WPE (R.of o >>= k) Q X := by
  obtain ⟨b, rfl, h⟩ := h; exact h
theorem WPE.eq {r : R (α × Env)} (h : WPE r Q XF) : ∃ a e, r = .ok (a, e) ∧ Q a e := by
  cases r with
  | ok a => exact ⟨a.1, a.2, rfl, h.out⟩
  | ex c d e => exact h.out.elim
  | no => exact h.out.elim
theorem WPS.mono {o : Oc} (h : WPS o N Rt B C X) (hn : ∀ e, N e → N' e) (hr : ∀ p e, Rt p e → Rt' p e) (hb : ∀ e, B e → B' e) (hc : ∀ e, C e → C' e) (hx : ∀ c d e, X c d e → X' c d e) : WPS o N' Rt' B' C' X' := by
  cases o with
  | nx e => exact ⟨hn _ h.out⟩
  | bk e => exact ⟨hb _ h.out⟩
  | ct e => exact ⟨hc _ h.out⟩
  | rt p e => exact ⟨hr _ _ h.out⟩
  | ex c d e => exact ⟨hx _ _ _ h.out⟩
  | no => exact h.out.elim
theorem ws_to {r : R (α × Env)} {k : α × Env → Oc} (h : WPE r (fun a e => WPS (k (a, e)) N Rt B C X) X) : WPS (toS r k) N Rt B C X := by
  cases r with
  | ok a => exact h.out
  | ex c d e => exact h
  | no => exact h
theorem we_ok {a : α} (h : Q a e) : WPE (.ok (a, e)) Q X := ⟨h⟩
theorem we_eq {r : R (α × Env)} {a : α} (h : r = .ok (a, e)) (k : Q a e) : WPE r Q X := by rw [h]; exact ⟨k⟩
theorem we_ex {r : R (α × Env)} {c : Nat} (h : r = .ex c d e) (k : X c d e) : WPE r Q X := by rw [h]; exact ⟨k⟩
theorem wo {o : Option α} {a : α} {K : α → Prop} (h : o = some a) (k : K a) : WO o K := ⟨a, h, k⟩
theorem wr_at {o : Option RV} {Q : PV → Env → Prop} (h : o = some (.at d)) (k : Q (.d d) e) : WR o Q e := ⟨_, h, k⟩
theorem wr_ls {o : Option RV} {Q : PV → Env → Prop} {l : List D} (h : o = some (.ls l)) (k : Q (.nw (.lst l)) e) : WR o Q e := ⟨_, h, k⟩
theorem wr_tu {o : Option RV} {Q : PV → Env → Prop} {l : List D} (h : o = some (.tu l)) (k : Q (.d (.tup l)) e) : WR o Q e := ⟨_, h, k⟩
theorem wr_di {o : Option RV} {Q : PV → Env → Prop} {l m : List D} (h : o = some (.di l m)) (k : Q (.nw (.dic l m)) e) : WR o Q e := ⟨_, h, k⟩
theorem wt {o : Option D} {b : Bool} {K : Bool → Prop} (h : o = some (.bl b)) (k : K b) : WT o K := ⟨_, h, k⟩
theorem wi_t {P Q : Prop} (h : P) : WI true P Q := ⟨fun _ => h, fun z => (by cases z)⟩
theorem wi_f {P Q : Prop} (h : Q) : WI false P Q := ⟨fun z => (by cases z), fun _ => h⟩
theorem wi_nt {P Q : Prop} (h : Q) : WI (!true) P Q := ⟨fun z => (by cases z), fun _ => h⟩
theorem wi_nf {P Q : Prop} (h : P) : WI (!false) P Q := ⟨fun _ => h, fun z => (by cases z)⟩
theorem wi_not {b : Bool} {P Q : Prop} (h : WI b Q P) : WI (!b) P Q := by cases b with | true => exact wi_f (h.1 rfl) | false => exact wi_t (h.2 rfl)
theorem wi_and {a b : Bool} {P Q : Prop} (h1 : a = true → b = true → P) (h2 : ¬ (a = true ∧ b = true) → Q) : WI (a && b) P Q := by
  cases a with
  | true => cases b with
    | true => exact wi_t (h1 rfl rfl)
    | false => exact wi_f (h2 (by simp))
  | false => exact wi_f (h2 (by simp))
theorem wi_dec {p : Prop} {_ : Decidable p} {P Q : Prop} (h1 : p → P) (h2 : ¬ p → Q) : WI (decide p) P Q := ⟨fun h => h1 (of_decide_eq_true h), fun h => h2 (of_decide_eq_false h)⟩
theorem wi_dect {p : Prop} {_ : Decidable p} {P Q : Prop} (h : p) (h1 : P) : WI (decide p) P Q := ⟨fun _ => h1, fun z => absurd h (of_decide_eq_false z)⟩
theorem wi_decf {p : Prop} {_ : Decidable p} {P Q : Prop} (h : ¬ p) (h1 : Q) : WI (decide p) P Q := ⟨fun z => absurd (of_decide_eq_true z) h, fun _ => h1⟩
theorem wi_gen {b : Bool} {P Q : Prop} (h1 : b = true → P) (h2 : b = false → Q) : WI b P Q := ⟨h1, h2⟩
theorem wi_eqt {b : Bool} {P Q : Prop} (h : b = true) (k : P) : WI b P Q := by subst h; exact wi_t k
theorem wi_eqf {b : Bool} {P Q : Prop} (h : b = false) (k : Q) : WI b P Q := by subst h; exact wi_f k
/-! ### pure expressions: the state stays -/
def EP (fe : FE) (e : Env) (p : PV) : Prop := fe e = .ok (p, e)
def ED (fe : FE) (e : Env) (d : D) : Prop := ∃ p, fe e = .ok (p, e) ∧ look e p = some d ∧ look e (hold p) = some d
def ET (ft : FT) (e : Env) (b : Bool) : Prop := ft e = .ok (b, e)
def EL (fa : FA) (e : Env) (ds : List D) : Prop := ∃ ps, fa e = .ok (ps, e) ∧ lookL e ps = some ds
def EPa (fp : Env → R (Option Int × Env)) (e : Env) (i : Option Int) : Prop := fp e = .ok (i, e)
theorem ed_V {i : Nat} (h : gt e i = .va d) : ED (fV i) e d := ⟨.d d, by simp only [fV_ev, h], rfl, rfl⟩
theorem ed_S {i : Nat} {b : Bool} (h : gt e i = .ce b d) : ED (fV i) e d := ⟨.sl i, by simp only [fV_ev, h], by simp only [look, h], by simp only [look, hold, h]⟩
theorem ed_C : ED (fC d) e d := ⟨.d d, rfl, rfl, rfl⟩
theorem look_hold {e : Env} {p : PV} {d : D} (h : look e p = some d) : look e (hold p) = some d := by cases p <;> exact h
theorem ed_rv {rv : RV} (d : D) (h : look e rv.pv = some d) : look e rv.pv = some d ∧ look e (hold rv.pv) = some d := ⟨h, look_hold h⟩
/-- a result as data -/
@[simp] def RV.dat : RV → D
  | .at d => d
  | .ls l => .lst l
  | .tu l => .tup l
  | .di k v => .dic k v
theorem look_rv (e : Env) (rv : RV) : look e rv.pv = some rv.dat := by cases rv <;> rfl
theorem ed_bin {op : D → D → Option RV} {rv : RV} (ha : ED fa e da) (hb : ED fb e db) (ho : op da db = some rv) : ED (fBin op fa fb) e rv.dat := by
  obtain ⟨pa, a1, a2, a3⟩ := ha
  obtain ⟨pb, b1, b2, b3⟩ := hb
  refine ⟨rv.pv, ?_, look_rv e rv, look_hold (look_rv e rv)⟩
  simp only [fBin_ev, a1, b1, R.bind_ok, a3, b2, R.of, ho]
theorem ed_un {op : D → Option RV} {rv : RV} (ha : ED fa e da) (ho : op da = some rv) : ED (fUn op fa) e rv.dat := by
  obtain ⟨pa, a1, a2, a3⟩ := ha
  refine ⟨rv.pv, ?_, look_rv e rv, look_hold (look_rv e rv)⟩
  simp only [fUn_ev, a1, R.bind_ok, a2, R.of, ho]
theorem el_nil : EL fNil e [] := ⟨[], rfl, rfl⟩
theorem lookL_cons {e : Env} {p : PV} {ps : List PV} {d : D} {ds : List D} (h : look e p = some d) (h2 : lookL e ps = some ds) : lookL e (p :: ps) = some (d :: ds) := by simp only [lookL, h, h2]
theorem el_cons {ds : List D} (ha : ED fa e da) (hr : EL gs e ds) : EL (fCons fa gs) e (da :: ds) := by
  obtain ⟨pa, a1, a2, a3⟩ := ha
  obtain ⟨ps, b1, b2⟩ := hr
  exact ⟨hold pa :: ps, by simp only [fCons_ev, a1, b1, R.bind_ok], lookL_cons a3 b2⟩
theorem ed_cb {op : List D → Option RV} {ds : List D} {rv : RV} (ha : EL gs e ds) (ho : op ds = some rv) : ED (fCB op gs) e rv.dat := by
  obtain ⟨ps, a1, a2⟩ := ha
  refine ⟨rv.pv, ?_, look_rv e rv, look_hold (look_rv e rv)⟩
  simp only [fCB_ev, a1, R.bind_ok, a2, R.of, ho]
theorem epa_no : EPa fNoPart e none := rfl
theorem epa_pt {i : Int} (ha : ED fa e (.int i)) : EPa (fPart fa) e (some i) := by
  obtain ⟨pa, a1, a2, a3⟩ := ha
  show fPart fa e = _
  simp only [fPart_ev, a1, R.bind_ok, a2]
theorem ed_sl {op : D → Option Int → Option Int → Option RV} {fl fh : Env → R (Option Int × Env)} {lo hi : Option Int} {rv : RV} (ha : ED fa e da) (hl : EPa fl e lo) (hh : EPa fh e hi) (ho : op da lo hi = some rv) : ED (fSl op fa fl fh) e rv.dat := by
  obtain ⟨pa, a1, a2, a3⟩ := ha
  have hl : fl e = _ := hl
  have hh : fh e = _ := hh
  refine ⟨rv.pv, ?_, look_rv e rv, look_hold (look_rv e rv)⟩
  simp only [fSl_ev, a1, R.bind_ok, hl, hh, a3, R.of, ho]
theorem ed_mt0 {ty : String} {op : D → List D → Option RV} {rv : RV} (ha : ED fa e da) (ht : isTy ty da = true) (ho : op da [] = some rv) : ED (fMt0 ty op fa) e rv.dat := by
  obtain ⟨pa, a1, a2, a3⟩ := ha
  refine ⟨rv.pv, ?_, look_rv e rv, look_hold (look_rv e rv)⟩
  simp only [fMt0_ev, a1, R.bind_ok, a2, R.of, ht, if_true, ho]
theorem ed_mt {ty : String} {op : D → List D → Option RV} {ds : List D} {rv : RV} (ha : ED fa e da) (ht : isTy ty da = true) (hs : EL gs e ds) (ho : op da ds = some rv) : ED (fMt ty op fa gs) e rv.dat := by
  obtain ⟨pa, a1, a2, a3⟩ := ha
  obtain ⟨ps, b1, b2⟩ := hs
  refine ⟨rv.pv, ?_, look_rv e rv, look_hold (look_rv e rv)⟩
  simp only [fMt_ev, a1, R.bind_ok, a3, R.of, ht, if_true, b1, b2, ho]
theorem ed_is {t : Ty} {b : Bool} (ha : ED fa e da) (h : isD t da = some b) : ED (fIs t fa) e (.bl b) := by
  obtain ⟨pa, a1, a2, a3⟩ := ha
  refine ⟨.d (.bl b), ?_, rfl, rfl⟩
  unfold fIs
  simp only [a1, R.bind_ok, a2, R.of, h]
theorem et_tst {b : Bool} (ha : ED fa e (.bl b)) : ET (fTst fa) e b := by
  obtain ⟨pa, a1, a2, a3⟩ := ha
  show fTst fa e = _
  simp only [fTst_ev, a1, R.bind_ok, a2]
theorem et_not {b : Bool} (h : ET ft e b) : ET (fNot ft) e (!b) := by
  have h : ft e = _ := h
  show fNot ft e = _
  simp only [fNot_ev, h, R.bind_ok]
theorem et_and {a b : Bool} (h : ET ft e a) (h2 : a = true → ET ft' e b) : ET (fAnd ft ft') e (a && b) := by
  have h : ft e = _ := h
  show fAnd ft ft' e = _
  simp only [fAnd_ev, h, R.bind_ok]
  cases a with
  | true => exact h2 rfl
  | false => rfl
theorem et_or {a b : Bool} (h : ET ft e a) (h2 : a = false → ET ft' e b) : ET (fOr ft ft') e (a || b) := by
  have h : ft e = _ := h
  show fOr ft ft' e = _
  simp only [fOr_ev, h, R.bind_ok]
  cases a with
  | true => rfl
  | false => exact h2 rfl
theorem ed_notV {b : Bool} (ha : ED fa e (.bl b)) : ED (fNotV fa) e (.bl (!b)) := by
  obtain ⟨pa, a1, a2, a3⟩ := ha
  refine ⟨.d (.bl (!b)), ?_, rfl, rfl⟩
  simp only [fNotV_ev, a1, R.bind_ok, a2]
theorem ed_andV {a b : Bool} (h : ED fa e (.bl a)) (h2 : a = true → ED fb e (.bl b)) : ED (fAndV fa fb) e (.bl (a && b)) := by
  obtain ⟨pa, a1, a2, a3⟩ := h
  cases a with
  | true =>
    obtain ⟨pb, b1, b2, b3⟩ := h2 rfl
    refine ⟨pb, ?_, b2, b3⟩
    simp only [fAndV_ev, a1, R.bind_ok, a2, if_true, b1]
  | false =>
    refine ⟨.d (.bl false), ?_, rfl, rfl⟩
    simp only [fAndV_ev, a1, R.bind_ok, a2]; rfl
theorem ed_orV {a b : Bool} (h : ED fa e (.bl a)) (h2 : a = false → ED fb e (.bl b)) : ED (fOrV fa fb) e (.bl (a || b)) := by
  obtain ⟨pa, a1, a2, a3⟩ := h
  cases a with
  | false =>
    obtain ⟨pb, b1, b2, b3⟩ := h2 rfl
    refine ⟨pb, ?_, b2, b3⟩
    simp only [fOrV_ev, a1, R.bind_ok, a2]; exact b1
  | true =>
    refine ⟨.d (.bl true), ?_, rfl, rfl⟩
    simp only [fOrV_ev, a1, R.bind_ok, a2, if_true]
theorem ed_ifE {b : Bool} {x y : D} (h : ET ft e b) (ha : b = true → ED fa e x) (hb : b = false → ED fb e y) : ED (fIfE ft fa fb) e (if b = true then x else y) := by
  have h : ft e = _ := h
  cases b with
  | true =>
    obtain ⟨pa, a1, a2, a3⟩ := ha rfl
    exact ⟨pa, by simp only [fIfE_ev, h, R.bind_ok, if_true, a1], a2, a3⟩
  | false =>
    obtain ⟨pa, a1, a2, a3⟩ := hb rfl
    exact ⟨pa, by simp only [fIfE_ev, h, R.bind_ok]; exact a1, a2, a3⟩
theorem ed_dic0 : ED fDic0 e (.dic [] []) := ⟨_, rfl, rfl, rfl⟩
theorem ed_orT {b : Bool} (h : ED fa e da) (ht : truD da = some b) (h2 : b = false → ED fb e db) : ED (fOrT fa fb) e (if b = true then da else db) := by
  obtain ⟨pa, a1, a2, a3⟩ := h
  cases b with
  | true => exact ⟨pa, by simp only [fOrT, a1, R.bind_ok, a2, Option.bind_some, ht], a2, a3⟩
  | false =>
    obtain ⟨pb, b1, b2, b3⟩ := h2 rfl
    exact ⟨pb, by simp only [fOrT, a1, R.bind_ok, a2, Option.bind_some, ht, b1], b2, b3⟩
/-! ### expressions -/
theorem we_Vd {i : Nat} {Q : PV → Env → Prop} (h : gt e i = .va d) (k : Q (.d d) e) : WPE (fV i e) Q X := by
  simp only [fV_ev, h]; exact ⟨k⟩
theorem we_Vs {i : Nat} {b : Bool} {Q : PV → Env → Prop} (h : gt e i = .ce b d) (k : Q (.sl i) e) : WPE (fV i e) Q X := by
  simp only [fV_ev, h]; exact ⟨k⟩
theorem we_C {Q : PV → Env → Prop} (k : Q (.d d) e) : WPE (fC d e) Q X := ⟨k⟩
theorem we_bin {op : D → D → Option RV} {Q : PV → Env → Prop} (h : WPE (fa e) (fun pa e1 => WPE (fb e1) (fun pb e2 => WO (look e2 (hold pa)) fun da => WO (look e2 pb) fun db => WR (op da db) Q e2) X) X) : WPE (fBin op fa fb e) Q X := by
  rw [fBin_ev]
  refine WPE.bind (h.mono (fun pa e1 h => WPE.bind (h.mono (fun pb e2 h => ?_) fun _ _ _ h => h)) fun _ _ _ h => h)
  obtain ⟨da, h1, db, h2, rv, h3, h4⟩ := h
  simp only [h1, h2, h3, R.of, R.bind_ok]
  exact ⟨h4⟩
theorem we_un {op : D → Option RV} {Q : PV → Env → Prop} (h : WPE (fa e) (fun pa e1 => WO (look e1 pa) fun da => WR (op da) Q e1) X) : WPE (fUn op fa e) Q X := by
  rw [fUn_ev]
  refine WPE.bind (h.mono (fun pa e1 h => ?_) fun _ _ _ h => h)
  obtain ⟨da, h1, rv, h3, h4⟩ := h
  simp only [h1, h3, R.of, R.bind_ok]
  exact ⟨h4⟩
theorem we_cb {op : List D → Option RV} {Q : PV → Env → Prop} (h : WPE (gs e) (fun ps e1 => WO (lookL e1 ps) fun ds => WR (op ds) Q e1) X) : WPE (fCB op gs e) Q X := by
  rw [fCB_ev]
  refine WPE.bind (h.mono (fun pa e1 h => ?_) fun _ _ _ h => h)
  obtain ⟨da, h1, rv, h3, h4⟩ := h
  simp only [h1, h3, R.of, R.bind_ok]
  exact ⟨h4⟩
theorem we_nil {Q : List PV → Env → Prop} (k : Q [] e) : WPE (fNil e) Q X := ⟨k⟩
theorem we_cons {Q : List PV → Env → Prop} (h : WPE (fa e) (fun p e1 => WPE (gs e1) (fun ps e2 => Q (hold p :: ps) e2) X) X) : WPE (fCons fa gs e) Q X := by
  rw [fCons_ev]
  exact WPE.bind (h.mono (fun pa e1 h => WPE.bind (h.mono (fun pb e2 h => ⟨h⟩) fun _ _ _ h => h)) fun _ _ _ h => h)
theorem we_lst {Q : PV → Env → Prop} (h : WPE (gs e) (fun ps e1 => WPE (settleL e1 ps) (fun ds e2 => ds.length ≤ LIM ∧ Q (.nw (.lst ds)) e2) X) X) : WPE (fLst gs e) Q X := by
  rw [fLst_ev]
  refine WPE.bind (h.mono (fun pa e1 h => WPE.bind (h.mono (fun ds e2 h => ?_) fun _ _ _ h => h)) fun _ _ _ h => h)
  dsimp only
  rw [if_pos h.1]; exact ⟨h.2⟩
theorem we_tup {Q : PV → Env → Prop} (h : WPE (gs e) (fun ps e1 => WPE (settleL e1 ps) (fun ds e2 => ds.length ≤ LIM ∧ Q (.d (.tup ds)) e2) X) X) : WPE (fTup gs e) Q X := by
  rw [fTup_ev]
  refine WPE.bind (h.mono (fun pa e1 h => WPE.bind (h.mono (fun ds e2 h => ?_) fun _ _ _ h => h)) fun _ _ _ h => h)
  dsimp only
  rw [if_pos h.1]; exact ⟨h.2⟩
theorem we_tst {Q : Bool → Env → Prop} (h : WPE (fa e) (fun p e1 => WT (look e1 p) fun b => Q b e1) X) : WPE (fTst fa e) Q X := by
  rw [fTst_ev]
  refine WPE.bind (h.mono (fun pa e1 h => ?_) fun _ _ _ h => h)
  obtain ⟨b, h1, h2⟩ := h
  simp only [h1]; exact ⟨h2⟩
theorem we_and {Q : Bool → Env → Prop} (h : WPE (ft e) (fun b e1 => WI b (WPE (ft' e1) Q X) (Q false e1)) X) : WPE (fAnd ft ft' e) Q X := by
  rw [fAnd_ev]
  refine WPE.bind (h.mono (fun b e1 h => ?_) fun _ _ _ h => h)
  cases b with
  | true => exact h.1 rfl
  | false => exact ⟨h.2 rfl⟩
theorem we_or {Q : Bool → Env → Prop} (h : WPE (ft e) (fun b e1 => WI b (Q true e1) (WPE (ft' e1) Q X)) X) : WPE (fOr ft ft' e) Q X := by
  rw [fOr_ev]
  refine WPE.bind (h.mono (fun b e1 h => ?_) fun _ _ _ h => h)
  cases b with
  | true => exact ⟨h.1 rfl⟩
  | false => exact h.2 rfl
theorem we_not {Q : Bool → Env → Prop} (h : WPE (ft e) (fun b e1 => Q (!b) e1) X) : WPE (fNot ft e) Q X := by
  rw [fNot_ev]
  exact WPE.bind (h.mono (fun _ _ h => ⟨h⟩) fun _ _ _ h => h)
theorem we_et {Q : Bool → Env → Prop} {b : Bool} (h : ET ft e b) (k : Q b e) : WPE (ft e) Q X := we_eq h k
theorem we_andV {Q : PV → Env → Prop} (h : WPE (fa e) (fun p e1 => WT (look e1 p) fun b => WI b (WPE (fb e1) Q X) (Q (.d (.bl false)) e1)) X) : WPE (fAndV fa fb e) Q X := by
  rw [fAndV_ev]
  refine WPE.bind (h.mono (fun p e1 h => ?_) fun _ _ _ h => h)
  obtain ⟨b, h1, h2⟩ := h
  simp only [h1]
  cases b with
  | true => exact h2.1 rfl
  | false => exact ⟨h2.2 rfl⟩
theorem we_orV {Q : PV → Env → Prop} (h : WPE (fa e) (fun p e1 => WT (look e1 p) fun b => WI b (Q (.d (.bl true)) e1) (WPE (fb e1) Q X)) X) : WPE (fOrV fa fb e) Q X := by
  rw [fOrV_ev]
  refine WPE.bind (h.mono (fun p e1 h => ?_) fun _ _ _ h => h)
  obtain ⟨b, h1, h2⟩ := h
  simp only [h1]
  cases b with
  | true => exact ⟨h2.1 rfl⟩
  | false => exact h2.2 rfl
theorem we_notV {Q : PV → Env → Prop} (h : WPE (fa e) (fun p e1 => WT (look e1 p) fun b => Q (.d (.bl (!b))) e1) X) : WPE (fNotV fa e) Q X := by
  rw [fNotV_ev]
  refine WPE.bind (h.mono (fun p e1 h => ?_) fun _ _ _ h => h)
  obtain ⟨b, h1, h2⟩ := h
  simp only [h1]; exact ⟨h2⟩
theorem we_orT {Q : PV → Env → Prop} (h : WPE (fa e) (fun p e1 => WO ((look e1 p).bind truD) fun b => WI b (Q p e1) (WPE (fb e1) Q X)) X) : WPE (fOrT fa fb e) Q X := by
  unfold fOrT
  refine WPE.bind (h.mono (fun p e1 h => ?_) fun _ _ _ h => h)
  obtain ⟨b, h1, h2⟩ := h
  simp only [h1]
  cases b with
  | true => exact ⟨h2.1 rfl⟩
  | false => exact h2.2 rfl
theorem we_andT {Q : PV → Env → Prop} (h : WPE (fa e) (fun p e1 => WO ((look e1 p).bind truD) fun b => WI b (WPE (fb e1) Q X) (Q p e1)) X) : WPE (fAndT fa fb e) Q X := by
  unfold fAndT
  refine WPE.bind (h.mono (fun p e1 h => ?_) fun _ _ _ h => h)
  obtain ⟨b, h1, h2⟩ := h
  simp only [h1]
  cases b with
  | true => exact h2.1 rfl
  | false => exact ⟨h2.2 rfl⟩
theorem we_ifE {Q : PV → Env → Prop} (h : WPE (ft e) (fun b e1 => WI b (WPE (fa e1) Q X) (WPE (fb e1) Q X)) X) : WPE (fIfE ft fa fb e) Q X := by
  rw [fIfE_ev]
  refine WPE.bind (h.mono (fun b e1 h => ?_) fun _ _ _ h => h)
  cases b with
  | true => exact h.1 rfl
  | false => exact h.2 rfl
theorem we_noP {Q : Option Int → Env → Prop} (k : Q none e) : WPE (fNoPart e) Q X := ⟨k⟩
theorem we_part {Q : Option Int → Env → Prop} (h : WPE (fa e) (fun p e1 => WO (look e1 p) fun d => WPt d e1 Q) X) : WPE (fPart fa e) Q X := by
  rw [fPart_ev]
  refine WPE.bind (h.mono (fun p e1 h => ?_) fun _ _ _ h => h)
  obtain ⟨d, h1, i, rfl, h2⟩ := h
  simp only [h1]; exact ⟨h2⟩
theorem we_sl {op : D → Option Int → Option Int → Option RV} {fl fh : Env → R (Option Int × Env)} {Q : PV → Env → Prop} (h : WPE (fa e) (fun pa e1 => WPE (fl e1) (fun lo e2 => WPE (fh e2) (fun hi e3 => WO (look e3 (hold pa)) fun da => WR (op da lo hi) Q e3) X) X) X) : WPE (fSl op fa fl fh e) Q X := by
  rw [fSl_ev]
  refine WPE.bind (h.mono (fun pa e1 h => WPE.bind (h.mono (fun lo e2 h => WPE.bind (h.mono (fun hi e3 h => ?_) fun _ _ _ h => h)) fun _ _ _ h => h)) fun _ _ _ h => h)
  obtain ⟨da, h1, rv, h3, h4⟩ := h
  simp only [h1, h3, R.of, R.bind_ok]
  exact ⟨h4⟩
theorem we_mt0 {ty : String} {op : D → List D → Option RV} {Q : PV → Env → Prop} (h : WPE (fa e) (fun pa e1 => WO (look e1 pa) fun da => isTy ty da = true ∧ WR (op da []) Q e1) X) : WPE (fMt0 ty op fa e) Q X := by
  rw [fMt0_ev]
  refine WPE.bind (h.mono (fun pa e1 h => ?_) fun _ _ _ h => h)
  obtain ⟨da, h1, h2, rv, h3, h4⟩ := h
  simp only [h1, h2, h3, R.of, R.bind_ok, if_true]
  exact ⟨h4⟩
theorem we_mt {ty : String} {op : D → List D → Option RV} {Q : PV → Env → Prop} (h : WPE (fa e) (fun pa e1 => WO (look e1 (hold pa)) fun d0 => isTy ty d0 = true ∧ WPE (gs e1) (fun ps e2 => WO (look e2 (hold pa)) fun da => WO (lookL e2 ps) fun ds => WR (op da ds) Q e2) X) X) : WPE (fMt ty op fa gs e) Q X := by
  rw [fMt_ev]
  refine WPE.bind (h.mono (fun pa e1 h => ?_) fun _ _ _ h => h)
  obtain ⟨d0, h1, h2, h⟩ := h
  simp only [h1, h2, R.of, R.bind_ok, if_true]
  refine WPE.bind (h.mono (fun ps e2 h => ?_) fun _ _ _ h => h)
  obtain ⟨da, h3, ds, h4, rv, h5, h6⟩ := h
  simp only [h3, h4, h5, R.of, R.bind_ok]
  exact ⟨h6⟩
theorem we_mu {i : Nat} {ty : String} {op : D → List D → Option (RV × D)} {Q : PV → Env → Prop} {b : Bool} (hg : gt e i = .ce b d) (ht : isTy ty d = true)
    (h : WPE (gs e) (fun ps e1 => WPE (settleL e1 ps) (fun ds e2 => WMu i op ds e2 Q) X) X) : WPE (fMu i ty op gs e) Q X := by
  rw [fMu_ev]
  simp only [hg, ht, if_true]
  refine WPE.bind (h.mono (fun ps e1 h => WPE.bind (h.mono (fun ds e2 h => ?_) fun _ _ _ h => h)) fun _ _ _ h => h)
  obtain ⟨b, d1, rv, d', h1, h2, h3⟩ := h
  simp only [h1, h2]; exact ⟨h3⟩
theorem wmu {i : Nat} {op : D → List D → Option (RV × D)} {Q : PV → Env → Prop} {b : Bool} {ds : List D} {d' : D} (h1 : gt e i = .ce b d1) (h2 : op d1 ds = some (.at d, d')) (h3 : WN2 (.d d) (st e i (.ce b d')) Q) : WMu i op ds e Q := ⟨b, d1, _, d', h1, h2, h3⟩
theorem we_mu0 {i : Nat} {ty : String} {op : D → List D → Option (RV × D)} {Q : PV → Env → Prop} {b : Bool} {d' : D} (hg : gt e i = .ce b d1) (ht : isTy ty d1 = true) (ho : op d1 [] = some (.at d, d')) (h : Q (.d d) (st e i (.ce b d'))) : WPE (fMu0 i ty op e) Q X := by
  rw [fMu0_ev]
  simp only [hg, ht, if_true, ho]
  exact ⟨h⟩
theorem we_is {t : Ty} {Q : PV → Env → Prop} (h : WPE (fa e) (fun p e1 => WO (look e1 p) fun d => WO (isD t d) fun b => Q (.d (.bl b)) e1) X) : WPE (fIs t fa e) Q X := by
  unfold fIs
  refine WPE.bind (h.mono (fun p e1 h => ?_) fun _ _ _ h => h)
  obtain ⟨d, h1, b, h2, h3⟩ := h
  simp only [h1, h2, R.of, R.bind_ok]; exact ⟨h3⟩
theorem we_dic0 {Q : PV → Env → Prop} (k : Q (.nw (.dic [] [])) e) : WPE (fDic0 e) Q X := ⟨k⟩
theorem we_ed {Q : PV → Env → Prop} (h : EP fe e p) (k : Q p e) : WPE (fe e) Q X := we_eq h k
theorem we_sett {Q : D → Env → Prop} (h : settle e p = .ok (d, e')) (k : Q d e') : WPE (settle e p) Q X := we_eq h k
theorem we_settL {Q : List D → Env → Prop} {ds : List D} (h : settleL e ps = .ok (ds, e')) (k : Q ds e') : WPE (settleL e ps) Q X := we_eq h k
/-! ### what is walked -/
def WIt (p : PV) (e : Env) (Q : List D → Env → Prop) : Prop := (∃ l, look e p = some (.str l) ∧ Q (chrs l) e) ∨ ∃ l e2, (settle e p = .ok (.lst l, e2) ∨ settle e p = .ok (.fro l, e2)) ∧ Q l e2
theorem wit_s {Q : List D → Env → Prop} {l : List Nat} (h : look e p = some (.str l)) (k : Q (chrs l) e) : WIt p e Q := .inl ⟨l, h, k⟩
theorem wit_l {Q : List D → Env → Prop} {l : List D} (h : settle e p = .ok (.lst l, e2)) (k : Q l e2) : WIt p e Q := .inr ⟨l, e2, .inl h, k⟩
theorem wit_f {Q : List D → Env → Prop} {l : List D} (h : settle e p = .ok (.fro l, e2)) (k : Q l e2) : WIt p e Q := .inr ⟨l, e2, .inr h, k⟩
theorem settle_look {l : D} (h : settle e p = .ok (l, e2)) : look e p = some l := by
  cases p with
  | d d => cases h; rfl
  | nw d => cases h; rfl
  | sl i =>
    simp only [settle] at h
    split at h
    · rename_i d hd
      cases h
      simp only [look, hd]
    · rename_i d hd
      cases h
      simp only [look, hd]
    · cases h
theorem we_itA {Q : List D → Env → Prop} (h : WPE (fe e) (fun p e1 => WIt p e1 Q) X) : WPE (fItA fe e) Q X := by
  unfold fItA
  cases hr : fe e with
  | ok a =>
    obtain ⟨p, e1⟩ := a
    rw [hr] at h
    have h : WIt p e1 Q := h.out
    rcases h with ⟨l, h1, h2⟩ | ⟨l, e2, h1, h2⟩
    · simp only [h1, fItS_ev, hr, R.bind_ok]; exact ⟨h2⟩
    · rcases h1 with h1 | h1 <;> simp only [settle_look h1, fItL_ev, hr, R.bind_ok, h1] <;> exact ⟨h2⟩
  | ex c d e1 => rw [hr] at h; exact h
  | no => rw [hr] at h; exact h.out.elim
theorem we_rg1 {Q : List D → Env → Prop} (h : WPE (gs e) (fun ps e1 => WO (lookL e1 ps) fun ds => WRg1 ds e1 Q) X) : WPE (fRg1 gs e) Q X := by
  rw [fRg1_ev]
  refine WPE.bind (h.mono (fun p e1 h => ?_) fun _ _ _ h => h)
  obtain ⟨d, h1, j, rfl, h2, h3⟩ := h
  simp only [h1, h2, if_true]; exact ⟨h3⟩
theorem we_rg2 {Q : List D → Env → Prop} (h : WPE (gs e) (fun ps e1 => WO (lookL e1 ps) fun ds => WRg2 ds e1 Q) X) : WPE (fRg2 gs e) Q X := by
  rw [fRg2_ev]
  refine WPE.bind (h.mono (fun p e1 h => ?_) fun _ _ _ h => h)
  obtain ⟨d, h1, i, j, rfl, h2, h3, h4⟩ := h
  simp only [h1, h2, h3, Bool.and_self, if_true]; exact ⟨h4⟩
theorem we_itE {Q : List D → Env → Prop} (h : WPE (gs e) (fun ps e1 => WPE (settleL e1 ps) (fun ds e2 => WItE ds e2 Q) X) X) : WPE (fItE gs e) Q X := by
  unfold fItE
  refine WPE.bind (h.mono (fun p e1 h => WPE.bind (h.mono (fun ds e2 h => ?_) fun _ _ _ h => h)) fun _ _ _ h => h)
  obtain ⟨l, rfl, h⟩ := h
  exact ⟨h⟩
theorem we_itZ {Q : List D → Env → Prop} (h : WPE (gs e) (fun ps e1 => WPE (settleL e1 ps) (fun ds e2 => WItZ ds e2 Q) X) X) : WPE (fItZ gs e) Q X := by
  unfold fItZ
  refine WPE.bind (h.mono (fun p e1 h => WPE.bind (h.mono (fun ds e2 h => ?_) fun _ _ _ h => h)) fun _ _ _ h => h)
  obtain ⟨l, m, rfl, h⟩ := h
  exact ⟨h⟩
theorem we_chain {op op' : D → D → Option RV} {Q : PV → Env → Prop} (h : WPE (fa e) (fun pa e1 => WPE (fb e1) (fun pb e2 => WO (look e2 (hold pa)) fun da => WO (look e2 (hold pb)) fun db => ∃ b, op da db = some (.at (.bl b)) ∧ WI b (WPE (fc e2) (fun pc e3 => WO (look e3 (hold pb)) fun db' => WO (look e3 pc) fun dc => WR (op' db' dc) Q e3) X) (Q (.d (.bl false)) e2)) X) X) : WPE (fChain op op' fa fb fc e) Q X := by
  unfold fChain
  refine WPE.bind (h.mono (fun pa e1 h => WPE.bind (h.mono (fun pb e2 h => ?_) fun _ _ _ h => h)) fun _ _ _ h => h)
  obtain ⟨da, h1, db, h2, b, h3, h4⟩ := h
  simp only [h1, h2, R.of, R.bind_ok, h3]
  cases b with
  | true =>
    refine WPE.bind ((h4.1 rfl).mono (fun pc e3 h => ?_) fun _ _ _ h => h)
    obtain ⟨db', k1, dc, k2, rv, k3, k4⟩ := h
    simp only [k1, k2, R.of, R.bind_ok, k3]
    exact ⟨k4⟩
  | false => exact ⟨h4.2 rfl⟩
theorem ed_chain {op op' : D → D → Option RV} {a b : Bool} (ha : ED fa e da) (hb : ED fb e db) (h1 : op da db = some (.at (.bl a))) (hc : a = true → ED fc e dc) (h2 : a = true → op' db dc = some (.at (.bl b))) : ED (fChain op op' fa fb fc) e (.bl (a && b)) := by
  obtain ⟨pa, a1, a2, a3⟩ := ha
  obtain ⟨pb, b1, b2, b3⟩ := hb
  cases a with
  | true =>
    obtain ⟨pc, c1, c2, c3⟩ := hc rfl
    refine ⟨.d (.bl b), ?_, rfl, rfl⟩
    unfold fChain
    simp only [a1, b1, R.bind_ok, a3, b3, R.of, h1, c1, c2, h2 rfl]; rfl
  | false =>
    refine ⟨.d (.bl false), ?_, rfl, rfl⟩
    unfold fChain
    simp only [a1, b1, R.bind_ok, a3, b3, R.of, h1]
/-! ### calls -/
def WCa (m : FM) (ms : List Bool) (dfl : List D) (ps : List PV) (e1 : Env) (Q : PV → Env → Prop) (X : XP) : Prop :=
  ∃ ps' e2 sls, pass1 e1 ms ps = .ok (ps', e2) ∧ nodupB (refs ps') = true ∧ toSl e2 ps' = some sls ∧ WPE (m (sls ++ dfl.map Sl.va)) (fun p s' => Q p (upds e2 ps' s')) (fun c d s' => X c d (upds e2 ps' s'))
theorem wca {m : FM} {ms : List Bool} {dfl : List D} {ps' : List PV} {sls : List Sl} {Q : PV → Env → Prop} (h1 : pass1 e ms ps = .ok (ps', e2)) (h2 : nodupB (refs ps') = true) (h3 : toSl e2 ps' = some sls) (h4 : WPE (m (sls ++ dfl.map Sl.va)) (fun p s' => WN2 p (upds e2 ps' s') Q) (fun c d s' => X c d (upds e2 ps' s'))) : WCa m ms dfl ps e Q X := ⟨ps', e2, sls, h1, h2, h3, h4⟩
theorem wca0 {m : FM} {ms : List Bool} {ps' : List PV} {sls : List Sl} {Q : PV → Env → Prop} (h1 : pass1 e ms ps = .ok (ps', e2)) (h2 : nodupB (refs ps') = true) (h3 : toSl e2 ps' = some sls) (h4 : WPE (m sls) (fun p s' => WN2 p (upds e2 ps' s') Q) (fun c d s' => X c d (upds e2 ps' s'))) : WCa m ms [] ps e Q X := ⟨ps', e2, sls, h1, h2, h3, by rw [List.map_nil, List.append_nil]; exact h4⟩
theorem we_call {m : FM} {ms : List Bool} {dfl : List D} {Q : PV → Env → Prop} (h : WPE (gs e) (fun ps e1 => WCa m ms dfl ps e1 Q X) X) : WPE (fCall m ms dfl gs e) Q X := by
  unfold fCall
  refine WPE.bind (h.mono (fun ps e1 h => ?_) fun _ _ _ h => h)
  obtain ⟨ps', e2, sls, h1, h2, h3, h4⟩ := h
  simp only [h1, R.bind_ok, h2, if_true, h3, R.of]
  revert h4
  cases m (sls ++ dfl.map Sl.va) with
  | ok a => exact fun h => h
  | ex c d s => exact fun h => h
  | no => exact fun h => h
def WCk (m : FM) (perm : List D → List D) (ps : List PV) (e1 : Env) (Q : PV → Env → Prop) (X : XP) : Prop :=
  ∃ ds e2, settleL e1 ps = .ok (ds, e2) ∧ WPE (m ((perm ds).map Sl.va)) (fun p _ => Q p e2) (fun c d _ => X c d e2)
theorem wck {m : FM} {perm : List D → List D} {ds : List D} {Q : PV → Env → Prop} (h1 : settleL e ps = .ok (ds, e2)) (h4 : WPE (m ((perm ds).map Sl.va)) (fun p _ => Q p e2) (fun c d _ => X c d e2)) : WCk m perm ps e Q X := ⟨ds, e2, h1, h4⟩
theorem we_callK {m : FM} {perm : List D → List D} {Q : PV → Env → Prop} (h : WPE (gs e) (fun ps e1 => WCk m perm ps e1 Q X) X) : WPE (fCallK m perm gs e) Q X := by
  rw [fCallK_ev]
  refine WPE.bind (h.mono (fun ps e1 h => ?_) fun _ _ _ h => h)
  obtain ⟨ds, e2, h1, h4⟩ := h
  simp only [h1, R.bind_ok]
  revert h4
  cases m ((perm ds).map Sl.va) with
  | ok a => exact fun h => h
  | ex c d s => exact fun h => h
  | no => exact fun h => h
/-! ### statements -/
theorem ws_seq (h : WPS (f e) (fun e1 => WPS (g e1) N Rt B C X) Rt B C X) : WPS (fSeq f g e) N Rt B C X := by
  rw [fSeq_ev]
  revert h
  cases f e with
  | nx e => exact fun h => h.out
  | bk e => exact fun h => ⟨h.out⟩
  | ct e => exact fun h => ⟨h.out⟩
  | rt p e => exact fun h => ⟨h.out⟩
  | ex c d e => exact fun h => ⟨h.out⟩
  | no => exact fun h => ⟨h.out⟩
theorem ws_skip (h : N e) : WPS (fSkip e) N Rt B C X := ⟨h⟩
theorem ws_pass (h : N e) : WPS (fPass e) N Rt B C X := ⟨h⟩
theorem ws_brk (h : B e) : WPS (fBrk e) N Rt B C X := ⟨h⟩
theorem ws_cnt (h : C e) : WPS (fCnt e) N Rt B C X := ⟨h⟩
theorem ws_retN (h : Rt (.d .non) e) : WPS (fRetN e) N Rt B C X := ⟨h⟩
theorem ws_drop (h : WPE (fe e) (fun _ e1 => N e1) X) : WPS (fDrop fe e) N Rt B C X := by
  rw [fDrop_ev]; exact ws_to (h.mono (fun _ _ h => ⟨h⟩) fun _ _ _ h => h)
theorem ws_if (h : WPE (ft e) (fun b e1 => WI b (WPS (f e1) N Rt B C X) (WPS (g e1) N Rt B C X)) X) : WPS (fIf ft f g e) N Rt B C X := by
  rw [fIf_ev]
  refine ws_to (h.mono (fun b e1 h => ?_) fun _ _ _ h => h)
  cases b with
  | true => exact h.1 rfl
  | false => exact h.2 rfl
theorem ws_ifP {b : Bool} (h : ET ft e b) (k : WI b (WPS (f e) N Rt B C X) (WPS (g e) N Rt B C X)) : WPS (fIf ft f g e) N Rt B C X := ws_if (we_et h k)
def WRet (p : PV) (e : Env) (Rt : PV → Env → Prop) : Prop := ∃ p' e', retP e p = .rt p' e' ∧ Rt p' e'
theorem wret {p' : PV} (h : retP e p = .rt p' e') (k : Rt p' e') : WRet p e Rt := ⟨p', e', h, k⟩
theorem ws_ret (h : WPE (fe e) (fun p e1 => WRet p e1 Rt) X) : WPS (fRet fe e) N Rt B C X := by
  rw [fRet_ev]
  refine ws_to (h.mono (fun p e1 h => ?_) fun _ _ _ h => h)
  obtain ⟨p', e', h1, h2⟩ := h
  dsimp only
  rw [h1]; exact ⟨h2⟩
theorem ws_set {i : Nat} (h : WPE (fe e) (fun p e1 => WO (put e1 i p) fun e2 => WN e2 N) X) : WPS (fSet i fe e) N Rt B C X := by
  rw [fSet_ev]
  refine ws_to (h.mono (fun p e1 h => ?_) fun _ _ _ h => h)
  obtain ⟨e', h1, h2⟩ := h
  simp only [putO, h1]; exact ⟨h2⟩
theorem ws_aug {i : Nat} {op : D → D → Option RV} {d0 : D} (hg : gt e i = .va d0) (h : WPE (fe e) (fun p e1 => WO (look e1 p) fun d1 => WR (op d0 d1) (fun p' e2 => WO (put e2 i p') fun e3 => WN e3 N) e1) X) : WPS (fAug i op fe e) N Rt B C X := by
  rw [fAug_ev]
  simp only [hg]
  refine ws_to (h.mono (fun p e1 h => ?_) fun _ _ _ h => h)
  obtain ⟨d1, h1, rv, h2, e', h3, h4⟩ := h
  simp only [h1, h2, putO, h3]; exact ⟨h4⟩
theorem ws_sti {i : Nat} {op : D → D → D → Option D} (h : WPE (fe e) (fun p e1 => WPE (settle e1 p) (fun dv e2 => WCe e2 i ∧ WPE (fk e2) (fun pk e3 => WPE (settle e3 pk) (fun dk e4 => WSti i op dk dv e4 N) X) X) X) X) : WPS (fSti i op fk fe e) N Rt B C X := by
  rw [fSti_ev]
  refine ws_to (h.mono (fun p e1 h => ws_to (h.mono (fun dv e2 h => ?_) fun _ _ _ h => h)) fun _ _ _ h => h)
  obtain ⟨⟨b, d, h1⟩, h⟩ := h
  simp only [h1]
  refine ws_to (h.mono (fun p e1 h => ws_to (h.mono (fun dv e2 h => ?_) fun _ _ _ h => h)) fun _ _ _ h => h)
  obtain ⟨b, d, d', h1, h2, h3⟩ := h
  simp only [h1, h2]; exact ⟨h3⟩
theorem wsti {i : Nat} {op : D → D → D → Option D} {dk dv d' : D} {b : Bool} (h1 : gt e i = .ce b d) (h2 : op d dk dv = some d') (h3 : WN (st e i (.ce b d')) N) : WSti i op dk dv e N := ⟨b, d, d', h1, h2, h3⟩
theorem wce {i : Nat} {b : Bool} (h : gt e i = .ce b d) : WCe e i := ⟨b, d, h⟩
theorem wpt {i : Int} {Q : Option Int → Env → Prop} (k : Q (some i) e) : WPt (.int i) e Q := ⟨i, rfl, k⟩
theorem wpar {i j : Nat} (h : (free e i && free e j) = true) (k : WN (st (st e i (.va d1)) j (.va d2)) N) : WPar [d1, d2] i j e N := ⟨d1, d2, rfl, h, k⟩
theorem witE {l : List D} {Q : List D → Env → Prop} (k : Q (enumD 0 l) e) : WItE [.lst l] e Q := ⟨l, rfl, k⟩
theorem witZ {l m : List D} {Q : List D → Env → Prop} (k : Q (zipD l m) e) : WItZ [.lst l, .lst m] e Q := ⟨l, m, rfl, k⟩
theorem ws_raise {c : Nat} (h : WPE (fe e) (fun p e1 => WPE (settle e1 p) (fun d e2 => X c d e2) X) X) : WPS (fRaise c fe e) N Rt B C X := by
  unfold fRaise
  exact ws_to (h.mono (fun p e1 h => ws_to (h.mono (fun _ _ h => ⟨h⟩) fun _ _ _ h => h)) fun _ _ _ h => h)
theorem ws_tgt {gm : D → Env → Option Env} (h : WPE (fe e) (fun p e1 => WPE (settle e1 p) (fun d e2 => WO (gm d e2) fun e3 => WN e3 N) X) X) : WPS (fTgt gm fe e) N Rt B C X := by
  unfold fTgt
  refine ws_to (h.mono (fun p e1 h => ws_to (h.mono (fun d e2 h => ?_) fun _ _ _ h => h)) fun _ _ _ h => h)
  obtain ⟨e', h1, h2⟩ := h
  simp only [h1]; exact ⟨h2⟩
theorem ws_parC {i j : Nat} (h : WPE (fa e) (fun p e1 => WO (put e1 i p) fun e2 => WO (put e2 j (.d d)) fun e3 => WN e3 N) X) : WPS (fParC i j fa d e) N Rt B C X := by
  unfold fParC
  refine ws_to (h.mono (fun p e1 h => ?_) fun _ _ _ h => h)
  obtain ⟨e', h1, e'', h2, h3⟩ := h
  simp only [h1, h2]; exact ⟨h3⟩
theorem ws_par {i j : Nat} (h : WPE (gs e) (fun ps e1 => WPE (settleL e1 ps) (fun ds e2 => WPar ds i j e2 N) X) X) : WPS (fPar i j gs e) N Rt B C X := by
  unfold fPar
  refine ws_to (h.mono (fun p e1 h => ws_to (h.mono (fun ds e2 h => ?_) fun _ _ _ h => h)) fun _ _ _ h => h)
  obtain ⟨a, b, rfl, h1, h2⟩ := h
  simp only [h1, if_true]; exact ⟨h2⟩
theorem ws_for {gm : D → Env → Option Env} {fi : Env → R (List D × Env)} (h : WPE (fi e) (fun items e1 => WPS (loop gm f items e1) N Rt B C X) X) : WPS (fFor gm fi f e) N Rt B C X := by
  rw [fFor_ev]; exact ws_to h
theorem ws_try {hs : List HM} (h : WPS (f e) N Rt B C (fun c d e1 => WPS (fHds hs c d e1) N Rt B C X)) : WPS (fTry f hs e) N Rt B C X := by
  unfold fTry
  revert h
  cases f e with
  | nx e => exact fun h => ⟨h.out⟩
  | bk e => exact fun h => ⟨h.out⟩
  | ct e => exact fun h => ⟨h.out⟩
  | rt p e => exact fun h => ⟨h.out⟩
  | ex c d e => exact fun h => h.out
  | no => exact fun h => ⟨h.out⟩
/-- a def -/
theorem we_def {n : Nat} {fb : FS} {sls : List Sl} {Q : PV → Env → Prop} {e0 : Env} (h0 : sls ++ List.replicate (n - sls.length) .un = e0)
    (h : WPS (fb e0) (fun e => WO (fin sls e) (Q (.d .non))) (fun p e => (∀ i, p ≠ .sl i) ∧ WO (fin sls e) (Q p)) (fun _ => False) (fun _ => False) (fun c d e => WO (fin sls e) (X c d))) : WPE (mDef n fb sls) Q X := by
  subst h0
  unfold mDef
  revert h
  cases fb (sls ++ List.replicate (n - sls.length) .un) with
  | nx e => rintro ⟨s', h1, h2⟩; simp only [h1]; exact ⟨h2⟩
  | bk e => exact fun h => h
  | ct e => exact fun h => h
  | rt p e =>
    rintro ⟨h0, s', h1, h2⟩
    cases p with
    | sl i => exact absurd rfl (h0 i)
    | d d => simp only [h1]; exact ⟨h2⟩
    | nw d => simp only [h1]; exact ⟨h2⟩
  | ex c d e => rintro ⟨s', h1, h2⟩; simp only [h1]; exact ⟨h2⟩
  | no => exact fun h => h
theorem wrt_d {sls : List Sl} {Q : PV → Env → Prop} {s' : List Sl} (h : fin sls e = some s') (k : Q (.d d) s') : (∀ i, PV.d d ≠ .sl i) ∧ WO (fin sls e) (Q (.d d)) := ⟨fun _ z => by (cases z), s', h, k⟩
theorem wrt_n {sls : List Sl} {Q : PV → Env → Prop} {s' : List Sl} (h : fin sls e = some s') (k : Q (.nw d) s') : (∀ i, PV.nw d ≠ .sl i) ∧ WO (fin sls e) (Q (.nw d)) := ⟨fun _ z => by (cases z), s', h, k⟩
end
end DL
set_option Elab.async false
set_option linter.all false
set_option maxRecDepth 100000
set_option maxHeartbeats 4000000
/-! what the operations give; loops and comprehensions -/
namespace DL
open PySem PySem.Spec PyProof.Rows L2
/-- the eight items -/
def isI (c : Nat) : Bool := [97, 98, 99, 100, 101, 102, 103, 104].contains c
/-- the sixteen steps -/
def isC (c : Nat) : Bool := ([97, 98, 99, 100, 101, 102, 103, 104] ++ [65, 66, 67, 68, 69, 70, 71, 72]).contains c
theorem isI_iff {c : Nat} : isI c = true ↔ 97 ≤ c ∧ c ≤ 104 := by
  unfold isI; simp; omega
theorem isC_iff {c : Nat} : isC c = true ↔ (97 ≤ c ∧ c ≤ 104) ∨ (65 ≤ c ∧ c ≤ 72) := by
  unfold isC; simp; omega
theorem isI_isC {c : Nat} (h : isI c = true) : isC c = true := isC_iff.mpr (.inl (isI_iff.mp h))
theorem isI_f {c : Nat} : isI c = false ↔ ¬ (97 ≤ c ∧ c ≤ 104) := by
  rw [← isI_iff]; simp
section
variable {α β : Type} {i j : Int} {a b l m : List Nat} {u v : List D} {d : D} {c : Nat}
/-! ### numbers -/
theorem q_addI : oAdd (.int i) (.int j) = some (.at (.int (i + j))) := rfl
theorem q_addS (h : a.length + b.length ≤ LIM) : oAdd (.str a) (.str b) = some (.at (.str (a ++ b))) := by simp only [oAdd, if_pos h]
theorem q_addM {f : α → D} {x y : List α} (h : x.length + y.length ≤ LIM) : oAdd (.lst (x.map f)) (.lst (y.map f)) = some (.ls ((x ++ y).map f)) := by
  simp only [oAdd, List.length_map, if_pos h, List.map_append]
theorem q_addL (h : u.length + v.length ≤ LIM) : oAdd (.lst u) (.lst v) = some (.ls (u ++ v)) := by simp only [oAdd, if_pos h]
theorem q_augI : oAugAdd (.int i) (.int j) = some (.at (.int (i + j))) := rfl
theorem q_augS (h : a.length + b.length ≤ LIM) : oAugAdd (.str a) (.str b) = some (.at (.str (a ++ b))) := by simp only [oAugAdd, if_pos h]
theorem q_sub : oSub (.int i) (.int j) = some (.at (.int (i - j))) := rfl
theorem q_neg : oNeg (.int i) = some (.at (.int (-i))) := rfl
theorem cMul_l {i j : Int} (h0 : -18446744073709551616 < i ∧ i < 18446744073709551616) : cMul i j = true := by
  unfold cMul
  rw [decide_eq_true (show -(2 ^ 64) < i by omega), decide_eq_true (show i < 2 ^ 64 by omega)]; rfl
theorem cMul_r {i j : Int} (h0 : -18446744073709551616 < j ∧ j < 18446744073709551616) : cMul i j = true := by
  unfold cMul
  rw [decide_eq_true (show -(2 ^ 64) < j by omega), decide_eq_true (show j < 2 ^ 64 by omega)]; simp
theorem q_mul (h : cMul i j = true) : oMul (.int i) (.int j) = some (.at (.int (i * j))) := by simp only [oMul, if_pos h]
theorem q_mulS (h : j < 1000001) (h0 : -1000000 < j) (h2 : a.length * j.toNat ≤ LIM) : oMul (.str a) (.int j) = some (.at (.str (List.replicate j.toNat a).flatten)) := by
  simp only [oMul]; rw [if_pos]; simp only [Bool.and_eq_true, decide_eq_true_eq]; omega
theorem q_mulL (h : j < 1000001) (h0 : -1000000 < j) (h2 : u.length * j.toNat ≤ LIM) : oMul (.lst u) (.int j) = some (.ls (List.replicate j.toNat u).flatten) := by
  simp only [oMul]; rw [if_pos]; simp only [Bool.and_eq_true, decide_eq_true_eq]; omega
theorem q_mod (h : 0 < j) : oMod (.int i) (.int j) = some (.at (.int (i % j))) := by
  simp only [oMod, oI, cMod, decide_eq_true h, if_true]
theorem q_div (h : 0 < j) (h2 : j < 1073741824) : oDiv (.int i) (.int j) = some (.at (.int (i / j))) := by
  simp only [oDiv, oI, cDiv, decide_eq_true h, decide_eq_true h2, Bool.and_self, if_true]
theorem q_pow (h : cPow i j = true) : oPow (.int i) (.int j) = some (.at (.int (i ^ j.toNat))) := by
  simp only [oPow, oI, h, if_true]
theorem q_lt : oLt (.int i) (.int j) = some (.at (.bl (decide (i < j)))) := rfl
theorem q_le : oLe (.int i) (.int j) = some (.at (.bl (decide (i ≤ j)))) := rfl
theorem q_gt : oGt (.int i) (.int j) = some (.at (.bl (decide (j < i)))) := rfl
theorem q_ge : oGe (.int i) (.int j) = some (.at (.bl (decide (j ≤ i)))) := rfl
/-! ### equality -/
theorem q_eqI : oEq id (.int i) (.int j) = some (.at (.bl (decide (i = j)))) := rfl
theorem q_neI : oEq not (.int i) (.int j) = some (.at (.bl (!decide (i = j)))) := rfl
theorem beq_dec (a b : List Nat) : (a == b) = decide (a = b) := by
  by_cases h : a = b
  · subst h; simp
  · rw [decide_eq_false h]; simpa using h
theorem q_eqS : oEq id (.str a) (.str b) = some (.at (.bl (decide (a = b)))) := by
  show some (RV.at (.bl (id (a == b)))) = _
  rw [beq_dec]; rfl
theorem q_neS : oEq not (.str a) (.str b) = some (.at (.bl (!decide (a = b)))) := by
  show some (RV.at (.bl (!(a == b)))) = _
  rw [beq_dec]
theorem q_eqB {x y : Bool} : oEq id (.bl x) (.bl y) = some (.at (.bl (x == y))) := rfl
theorem q_neB {x y : Bool} : oEq not (.bl x) (.bl y) = some (.at (.bl (!(x == y)))) := rfl
theorem q_eqNS : oEq id .non (.str b) = some (.at (.bl false)) := rfl
theorem q_eqSN : oEq id (.str b) .non = some (.at (.bl false)) := rfl
theorem q_eqNN : oEq id .non .non = some (.at (.bl true)) := rfl
theorem q_neNS : oEq not .non (.str b) = some (.at (.bl true)) := rfl
theorem q_neSN : oEq not (.str b) .non = some (.at (.bl true)) := rfl
theorem q_neNN : oEq not .non .non = some (.at (.bl false)) := rfl
theorem q_eqX {f : Bool → Bool} {x y : D} (hx : okD 60 x = true) (hy : okD 60 y = true) : oEq f x y = some (.at (.bl (f (eqD x y)))) := by
  simp only [oEq, hx, hy, Bool.and_self, Bool.or_true, if_true]
/-! ### is -/
theorem q_isNN : oIsN id .non .non = some (.at (.bl true)) := rfl
theorem q_isNS : oIsN id (.str a) .non = some (.at (.bl false)) := rfl
theorem q_isNI : oIsN id (.int i) .non = some (.at (.bl false)) := rfl
theorem q_isNL : oIsN id (.lst u) .non = some (.at (.bl false)) := rfl
theorem q_isNT : oIsN id (.tup u) .non = some (.at (.bl false)) := rfl
theorem q_ntNN : oIsN not .non .non = some (.at (.bl false)) := rfl
theorem q_ntNS : oIsN not (.str a) .non = some (.at (.bl true)) := rfl
theorem q_ntNI : oIsN not (.int i) .non = some (.at (.bl true)) := rfl
theorem q_ntNL : oIsN not (.lst u) .non = some (.at (.bl true)) := rfl
theorem q_ntNT : oIsN not (.tup u) .non = some (.at (.bl true)) := rfl
theorem q_isT {x : Bool} : oIsB id (.bl x) (.bl true) = some (.at (.bl x)) := by cases x <;> rfl
theorem q_isF {x : Bool} : oIsB id (.bl x) (.bl false) = some (.at (.bl (!x))) := by cases x <;> rfl
theorem q_ntT {x : Bool} : oIsB not (.bl x) (.bl true) = some (.at (.bl (!x))) := by cases x <;> rfl
theorem q_ntF {x : Bool} : oIsB not (.bl x) (.bl false) = some (.at (.bl x)) := by cases x <;> rfl
/-! ### in -/
theorem q_inI : oIn id (.str [c]) (.str [97, 98, 99, 100, 101, 102, 103, 104]) = some (.at (.bl (isI c))) := rfl
theorem q_niI : oIn not (.str [c]) (.str [97, 98, 99, 100, 101, 102, 103, 104]) = some (.at (.bl (!isI c))) := rfl
theorem contains_dec (z : List Nat) (c : Nat) : z.contains c = decide (c ∈ z) := by
  by_cases h : c ∈ z
  · rw [decide_eq_true h]; simpa using h
  · rw [decide_eq_false h]; simpa using h
theorem q_inC : oIn id (.str [c]) (.str a) = some (.at (.bl (decide (c ∈ a)))) := by
  show some (RV.at (.bl (id (a.contains c)))) = _
  rw [contains_dec]; rfl
theorem q_niC : oIn not (.str [c]) (.str a) = some (.at (.bl (!decide (c ∈ a)))) := by
  show some (RV.at (.bl (!(a.contains c)))) = _
  rw [contains_dec]
/-! ### subscripts, slices -/
theorem q_ixL (h : at? u i = some d) : oIx (.lst u) (.int i) = some (.at d) := by simp only [oIx, h, Option.map_some]
theorem q_ixT (h : at? u i = some d) : oIx (.tup u) (.int i) = some (.at d) := by simp only [oIx, h, Option.map_some]
theorem at_in {γ : Type} {x : List γ} (h0 : 0 ≤ i) (h : i.toNat < x.length) : at? x i = some (x[i.toNat]'h) := by
  simp only [at?, if_pos h0, List.getElem?_eq_getElem h]
theorem getB {γ : Type} [Inhabited γ] {x : List γ} {n : Nat} (h : n < x.length) : x[n]! = x[n]'h := getElem!_pos x n h
theorem getB_mem {γ : Type} [Inhabited γ] {x : List γ} {n : Nat} (h : n < x.length) : x[n]! ∈ x := by rw [getB h]; exact List.getElem_mem h
theorem q_ixM [Inhabited α] {f : α → D} {x : List α} (h0 : 0 ≤ i) (h : i.toNat < x.length) : oIx (.lst (x.map f)) (.int i) = some (.at (f (x[i.toNat]!))) := by
  refine q_ixL ?_
  rw [at_in h0 (by simpa using h), List.getElem_map, getB h]
theorem q_ixS (hl : a.length ≤ LIM) (h : at? a i = some c) : oIx (.str a) (.int i) = some (.at (.str [c])) := by
  simp only [oIx, if_pos hl, h, Option.map_some]
theorem q_ixC (hl : a.length ≤ LIM) (h0 : 0 ≤ i) (h : i.toNat < a.length) : oIx (.str a) (.int i) = some (.at (.str [a[i.toNat]!])) := q_ixS hl (by rw [at_in h0 h, getB h])
theorem cut_drop {γ : Type} {x : List γ} (h : 0 ≤ i) : cut x (some i) none = x.drop i.toNat := by
  obtain ⟨k, rfl⟩ := Int.eq_ofNat_of_zero_le h
  unfold cut
  rw [show HT.sIx x.length 0 (some (k : Int)) = min k x.length from HT.sIx_nat x.length 0 k, HT.sIx_none]
  show _ = x.drop k
  by_cases hk : k ≤ x.length
  · rw [Nat.min_eq_left hk]; exact List.take_of_length_le (by simp)
  · rw [Nat.min_eq_right (by omega), List.drop_eq_nil_of_le (Nat.le_refl _), List.drop_eq_nil_of_le (by omega)]; simp
theorem cut_take {γ : Type} {x : List γ} (h : 0 ≤ j) : cut x none (some j) = x.take j.toNat := by
  obtain ⟨k, rfl⟩ := Int.eq_ofNat_of_zero_le h
  unfold cut
  rw [show HT.sIx x.length x.length (some (k : Int)) = min k x.length from HT.sIx_nat x.length x.length k, HT.sIx_none]
  show _ = x.take k
  rw [List.drop_zero, Nat.sub_zero]
  by_cases hk : k ≤ x.length
  · rw [Nat.min_eq_left hk]
  · rw [Nat.min_eq_right (by omega), List.take_of_length_le (Nat.le_refl _), List.take_of_length_le (by omega)]
theorem cut_both {γ : Type} {x : List γ} (h : 0 ≤ i) (h2 : 0 ≤ j) : cut x (some i) (some j) = (x.take j.toNat).drop i.toNat := by
  obtain ⟨k, rfl⟩ := Int.eq_ofNat_of_zero_le h
  obtain ⟨n, rfl⟩ := Int.eq_ofNat_of_zero_le h2
  unfold cut
  rw [show HT.sIx x.length 0 (some (k : Int)) = min k x.length from HT.sIx_nat x.length 0 k, show HT.sIx x.length x.length (some (n : Int)) = min n x.length from HT.sIx_nat x.length x.length n]
  show _ = (x.take n).drop k
  rw [List.drop_take]
  by_cases hk : k ≤ x.length
  · rw [Nat.min_eq_left hk]
    by_cases hn : n ≤ x.length
    · rw [Nat.min_eq_left hn]
    · rw [Nat.min_eq_right (by omega), List.take_of_length_le (by simp), List.take_of_length_le (by simp; omega)]
  · rw [List.drop_eq_nil_of_le (show x.length ≤ min k x.length by omega), List.drop_eq_nil_of_le (show x.length ≤ k by omega)]; simp
theorem cut_all {γ : Type} {x : List γ} : cut x none none = x := by
  unfold cut
  rw [HT.sIx_none, HT.sIx_none, List.drop_zero, Nat.sub_zero, List.take_length]
theorem cut_mapE {γ : Type} (f : α → γ) (x : List α) (lo hi : Option Int) : cut (x.map f) lo hi = (cut x lo hi).map f := by
  unfold cut
  rw [List.length_map, List.map_take, List.map_drop]
theorem cut_lenE {γ : Type} (x : List γ) (lo hi : Option Int) : (cut x lo hi).length ≤ x.length := by
  unfold cut
  rw [List.length_take, List.length_drop]; omega
theorem q_sSd (hl : a.length ≤ LIM) (h : 0 ≤ i) : oSl (.str a) (some i) none = some (.at (.str (a.drop i.toNat))) := by simp only [oSl, if_pos hl, cut_drop h]
theorem q_sSt (hl : a.length ≤ LIM) (h : 0 ≤ j) : oSl (.str a) none (some j) = some (.at (.str (a.take j.toNat))) := by simp only [oSl, if_pos hl, cut_take h]
theorem q_sSb (hl : a.length ≤ LIM) (h : 0 ≤ i) (h2 : 0 ≤ j) : oSl (.str a) (some i) (some j) = some (.at (.str ((a.take j.toNat).drop i.toNat))) := by simp only [oSl, if_pos hl, cut_both h h2]
theorem q_sS {lo hi : Option Int} (hl : a.length ≤ LIM) : oSl (.str a) lo hi = some (.at (.str (cut a lo hi))) := by simp only [oSl, if_pos hl]
theorem q_sMd {f : α → D} {x : List α} (h : 0 ≤ i) : oSl (.lst (x.map f)) (some i) none = some (.ls ((x.drop i.toNat).map f)) := by simp only [oSl, cut_drop h, List.map_drop]
theorem q_sMt {f : α → D} {x : List α} (h : 0 ≤ j) : oSl (.lst (x.map f)) none (some j) = some (.ls ((x.take j.toNat).map f)) := by simp only [oSl, cut_take h, List.map_take]
theorem q_sMb {f : α → D} {x : List α} (h : 0 ≤ i) (h2 : 0 ≤ j) : oSl (.lst (x.map f)) (some i) (some j) = some (.ls (((x.take j.toNat).drop i.toNat).map f)) := by simp only [oSl, cut_both h h2, List.map_drop, List.map_take]
theorem q_sM {f : α → D} {x : List α} {lo hi : Option Int} : oSl (.lst (x.map f)) lo hi = some (.ls ((cut x lo hi).map f)) := by simp only [oSl, cut_mapE]
theorem q_sL {lo hi : Option Int} : oSl (.lst u) lo hi = some (.ls (cut u lo hi)) := rfl
theorem q_sF {f : α → D} {x : List α} {lo hi : Option Int} : oSl (.fro (x.map f)) lo hi = some (.ls ((cut x lo hi).map f)) := by simp only [oSl, cut_mapE]
/-! ### built-in functions -/
theorem q_lenM {f : α → D} {x : List α} : oLen [.lst (x.map f)] = some (.at (.int x.length)) := by simp only [oLen, List.length_map]
theorem q_lenF {f : α → D} {x : List α} : oLen [.fro (x.map f)] = some (.at (.int x.length)) := by simp only [oLen, List.length_map]
theorem q_lenL : oLen [.lst u] = some (.at (.int u.length)) := rfl
theorem q_lenT : oLen [.tup u] = some (.at (.int u.length)) := rfl
theorem q_lenS (h : a.length ≤ LIM) : oLen [.str a] = some (.at (.int a.length)) := by simp only [oLen, if_pos h]
theorem q_max : oMax2 [.int i, .int j] = some (.at (.int (max i j))) := by
  simp only [oMax2]; congr 3; by_cases h : j > i
  · rw [if_pos h]; omega
  · rw [if_neg h]; omega
theorem q_min : oMin2 [.int i, .int j] = some (.at (.int (min i j))) := by
  simp only [oMin2]; congr 3; by_cases h : j < i
  · rw [if_pos h]; omega
  · rw [if_neg h]; omega
theorem q_intI : oInt [.int i] = some (.at (.int i)) := rfl
theorem q_intB {x : Bool} : oInt [.bl x] = some (.at (.int (if x = true then 1 else 0))) := by cases x <;> rfl
theorem q_listS (h : a.length ≤ LIM) : oList [.str a] = some (.ls (a.map fun c => .str [c])) := by simp only [oList, if_pos h, chrs]
theorem q_listL : oList [.lst u] = some (.ls u) := rfl
theorem q_listT : oList [.tup u] = some (.ls u) := rfl
theorem bls_map' (x : List α) (f : α → Bool) : bls (x.map fun c => D.bl (f c)) = some (x.map f) := bls_bl x f
theorem q_all {x : List α} {f : α → Bool} : oAll [.lst (x.map fun c => D.bl (f c))] = some (.at (.bl (x.all f))) := by
  simp only [oAll, bls_map', Option.map_some, List.all_map]; rfl
theorem q_any {x : List α} {f : α → Bool} : oAny [.lst (x.map fun c => D.bl (f c))] = some (.at (.bl (x.any f))) := by
  simp only [oAny, bls_map', Option.map_some, List.any_map]; rfl
theorem txts_map (x : List α) (f : α → List Nat) : txts (x.map fun c => D.str (f c)) = some (x.map f) := by
  induction x with
  | nil => rfl
  | cons c x ih => simp only [List.map_cons, txts, ih, Option.map_some]
theorem joinN_nil : ∀ ys : List (List Nat), joinN [] ys = ys.flatten
  | [] => rfl
  | [x] => by simp [joinN]
  | x :: y :: r => by show x ++ [] ++ joinN [] (y :: r) = _; rw [joinN_nil (y :: r)]; simp
theorem joinB_nil (ys : List (List Nat)) (h : ys.flatten.length ≤ LIM) : joinB [] ys = true := by
  unfold joinB
  rw [decide_eq_true_eq, List.length_nil, Nat.mul_zero, Nat.add_zero]
  rw [List.length_flatten] at h
  exact h
theorem flat_chr (l : List Nat) : (l.map fun c => [c]).flatten = l := by
  induction l with
  | nil => rfl
  | cons c l ih => simp [ih]
theorem q_joinC (h : a.length ≤ LIM) : oJoin (.str []) [.lst (a.map fun c => D.str [c])] = some (.at (.str a)) := by
  simp only [oJoin, txts_map, Option.bind_some, joinN_nil, joinB_nil _ (by rw [flat_chr]; exact h), if_true, flat_chr]
theorem q_join0 {x : List α} {f : α → List Nat} (h : (x.map f).flatten.length ≤ LIM) : oJoin (.str []) [.lst (x.map fun c => D.str (f c))] = some (.at (.str (x.map f).flatten)) := by
  simp only [oJoin, txts_map, Option.bind_some, joinN_nil, joinB_nil _ h, if_true]
theorem q_joinW {x : List (List Nat)} (h : x.flatten.length ≤ LIM) : oJoin (.str []) [.lst (x.map D.str)] = some (.at (.str x.flatten)) := by
  have := q_join0 (x := x) (f := id) (by simpa using h)
  simpa using this
theorem q_join {sep : List Nat} {x : List α} {f : α → List Nat} (h : joinB sep (x.map f) = true) : oJoin (.str sep) [.lst (x.map fun c => D.str (f c))] = some (.at (.str (joinN sep (x.map f)))) := by
  simp only [oJoin, txts_map, Option.bind_some, h, if_true]
theorem q_low1 (h : c < 128) : oLower (.str [c]) [] = some (.at (.str [lo1 c])) := by
  simp [oLower, ascii, h, LIM_eq]
theorem q_upp1 (h : c < 128) : oUpper (.str [c]) [] = some (.at (.str [up1 c])) := by
  simp [oUpper, ascii, h, LIM_eq]
theorem q_low (h : ∀ c ∈ a, c < 128) (hl : a.length ≤ LIM) : oLower (.str a) [] = some (.at (.str (a.map lo1))) := by
  have : ascii a = true := by unfold ascii; rw [List.all_eq_true]; intro c hc; simpa using h c hc
  simp only [oLower, this, decide_eq_true hl, Bool.and_self, if_true]
theorem q_upp (h : ∀ c ∈ a, c < 128) (hl : a.length ≤ LIM) : oUpper (.str a) [] = some (.at (.str (a.map up1))) := by
  have : ascii a = true := by unfold ascii; rw [List.all_eq_true]; intro c hc; simpa using h c hc
  simp only [oUpper, this, decide_eq_true hl, Bool.and_self, if_true]
theorem q_find : oFind (.str a) [.str [c]] = some (.at (.int (findN a c 0))) := rfl
theorem q_find2 (h : 0 ≤ i) : oFind2 (.str a) [.str [c], .int i] = some (.at (.int (findN a c i.toNat))) := by simp only [oFind2, if_pos h]
theorem q_index {k : Nat} (h : seek c a 0 = some k) : oIndex (.str a) [.str [c]] = some (.at (.int k)) := by simp only [oIndex, h, Option.map_some]; rfl
theorem q_repr (h : shown d = some a) : oRepr [d] = some (.at (.str a)) := by simp only [oRepr, h, Option.map_some]
theorem q_sort (h : a.length < 64) : oSorted [.str a] = some (.ls ((sortN a).map fun c => .str [c])) := by simp only [oSorted, if_pos h, chrs]
theorem q_revM {f : α → D} {x : List α} : oRev (.lst (x.map f)) = some (.ls (x.reverse.map f)) := by simp only [oRev, List.map_reverse]
theorem q_rev : oRev (.lst u) = some (.ls u.reverse) := rfl
theorem q_app (h : u.length < LIM) : oApp (.lst u) [d] = some (.at .non, .lst (u ++ [d])) := by simp only [oApp, if_pos h]
theorem q_appM {f : α → D} {x : List α} (h : x.length < LIM) : oApp (.lst (x.map f)) [d] = some (.at .non, .lst (x.map f ++ [d])) := by simp only [oApp, List.length_map, if_pos h]
theorem q_ext (h : u.length + v.length ≤ LIM) : oExt (.lst u) [.lst v] = some (.at .non, .lst (u ++ v)) := by simp only [oExt, if_pos h]
theorem q_extM {f : α → D} {x y : List α} (h : x.length + y.length ≤ LIM) : oExt (.lst (x.map f)) [.lst (y.map f)] = some (.at .non, .lst ((x ++ y).map f)) := by simp only [oExt, List.length_map, if_pos h, List.map_append]
theorem q_popA (h0 : 0 ≤ i) (h : u[i.toNat]? = some d) (hl : u.length ≤ LIM) : oPopAt (.lst u) [.int i] = some (.at d, .lst (u.eraseIdx i.toNat)) := by
  simp only [oPopAt, if_pos h0, h, if_pos hl]
theorem q_pop (h : u ≠ []) : oPop (.lst u) [] = some (.at (u.getLast h), .lst u.dropLast) := by
  simp only [oPop]
  rw [List.getLast_eq_getElem, List.getElem?_eq_getElem (show u.length - 1 < u.length by
    cases u with
    | nil => exact absurd rfl h
    | cons => simp)]
theorem q_popM {f : α → D} {x : List α} (h : x ≠ []) : oPop (.lst (x.map f)) [] = some (.at (f (x.getLast h)), .lst (x.dropLast.map f)) := by
  rw [q_pop (by simpa using h), List.getLast_map, List.map_dropLast]
theorem q_setL (h0 : 0 ≤ i) (h : i < u.length) : oSetL (.lst u) (.int i) d = some (.lst (u.set i.toNat d)) := by simp only [oSetL, if_pos (And.intro h0 h)]
end
/-! ### loops -/
section
variable {α : Type} {X : XP} {e e1 e' : Env} {N B C : Env → Prop} {Rt : PV → Env → Prop} {b : FS} {g : D → Env → Option Env} {fe : FE} {ft : FT} {vs : List Nat}
theorem wl_all {items : List D} (I : List D → Env → Prop) (h0 : I items e) (hs : ∀ d r e, I (d :: r) e → WO (g d e) fun e1 => WN e1 fun e1 => WPS (b e1) (I r) Rt N (I r) X) (h1 : ∀ e, I [] e → N e) : WPS (loop g b items e) N Rt B C X := by
  induction items generalizing e with
  | nil => exact ⟨h1 e h0⟩
  | cons d r ih =>
    obtain ⟨e1, k1, k2⟩ := hs d r e h0
    unfold WN at k2
    rw [loop, k1]
    dsimp only
    revert k2
    cases b e1 with
    | nx e2 => exact fun k => ih k.out
    | ct e2 => exact fun k => ih k.out
    | bk e2 => exact fun k => ⟨k.out⟩
    | rt p e2 => exact fun k => ⟨k.out⟩
    | ex c d e2 => exact fun k => ⟨k.out⟩
    | no => exact fun k => ⟨k.out⟩
theorem wl_map {f : α → D} {l : List α} (I : List α → List α → Env → Prop) (h0 : I [] l e) (hs : ∀ pre c post e, l = pre ++ c :: post → I pre (c :: post) e → WO (g (f c) e) fun e1 => WN e1 fun e1 => WPS (b e1) (I (pre ++ [c]) post) Rt N (I (pre ++ [c]) post) X) (h1 : ∀ e, I l [] e → N e) : WPS (loop g b (l.map f) e) N Rt B C X := by
  refine wl_all (fun r e => ∃ pre post, l = pre ++ post ∧ r = post.map f ∧ I pre post e) ⟨[], l, rfl, rfl, h0⟩ ?_ ?_
  · rintro d r e ⟨pre, post, rfl, h2, h3⟩
    cases post with
    | nil => cases h2
    | cons c post =>
      cases h2
      obtain ⟨e1, k1, k2⟩ := hs pre c post e rfl h3
      exact ⟨e1, k1, k2.mono (fun e h => ⟨pre ++ [c], post, by simp, rfl, h⟩) (fun _ _ h => h) (fun _ h => h) (fun e h => ⟨pre ++ [c], post, by simp, rfl, h⟩) (fun _ _ _ h => h)⟩
  · rintro e ⟨pre, post, rfl, h2, h3⟩
    cases post with
    | nil => exact h1 e (by simpa using h3)
    | cons c post => cases h2
theorem rngs_map : ∀ (n : Nat) (lo : Int), rngs lo n = (List.range n).map fun k => D.int (lo + (k : Nat))
  | 0, lo => rfl
  | n + 1, lo => by
    rw [rngs, rngs_map n (lo + 1), List.range_succ_eq_map]
    simp only [List.map_cons, List.map_map]
    refine congr (congrArg _ ?_) ?_
    · simp
    · refine List.map_congr_left fun k _ => ?_
      simp only [Function.comp_apply]
      congr 1
      omega
theorem range_split {n : Nat} {pre : List Nat} {c : Nat} {post : List Nat} (h : List.range n = pre ++ c :: post) : c = pre.length ∧ c < n := by
  have h1 : (List.range n)[pre.length]? = some c := by rw [h]; simp
  rw [List.getElem?_eq_some_iff] at h1
  obtain ⟨h2, h3⟩ := h1
  rw [List.getElem_range] at h3
  rw [List.length_range] at h2
  omega
theorem wl_rng {n : Nat} {lo : Int} (I : Nat → Env → Prop) (h0 : I 0 e) (hs : ∀ k e, k < n → I k e → WO (g (.int (lo + (k : Nat))) e) fun e1 => WN e1 fun e1 => WPS (b e1) (I (k + 1)) Rt N (I (k + 1)) X) (h1 : ∀ e, I n e → N e) : WPS (loop g b (rngs lo n) e) N Rt B C X := by
  rw [rngs_map]
  refine wl_map (fun pre _ e => I pre.length e) h0 (fun pre c post e h hi => ?_) (fun e h => h1 e (by simpa using h))
  obtain ⟨rfl, hn⟩ := range_split h
  have := hs pre.length e hn hi
  simpa using this
theorem enumD_map {f : α → D} : ∀ (l : List α) (n : Nat), enumD n (l.map f) = (l.zipIdx n).map fun p => D.tup [.int (p.2 : Nat), f p.1]
  | [], n => rfl
  | a :: l, n => by simp only [List.map_cons, enumD, List.zipIdx_cons, enumD_map l (n + 1)]
theorem zipD_map {β : Type} {f : α → D} {g : β → D} : ∀ (l : List α) (m : List β), zipD (l.map f) (m.map g) = (l.zip m).map fun p => D.tup [f p.1, g p.2]
  | [], m => rfl
  | a :: l, [] => rfl
  | a :: l, b :: m => by simp only [List.map_cons, zipD, List.zip_cons_cons, zipD_map l m]
theorem wl_enum {f : α → D} {l : List α} (I : List α → List α → Env → Prop) (h0 : I [] l e) (hs : ∀ pre c post e, l = pre ++ c :: post → I pre (c :: post) e → WO (g (.tup [.int pre.length, f c]) e) fun e1 => WN e1 fun e1 => WPS (b e1) (I (pre ++ [c]) post) Rt N (I (pre ++ [c]) post) X) (h1 : ∀ e, I l [] e → N e) : WPS (loop g b (enumD 0 (l.map f)) e) N Rt B C X := by
  refine wl_all (fun r e => ∃ pre post, l = pre ++ post ∧ r = enumD pre.length (post.map f) ∧ I pre post e) ⟨[], l, rfl, rfl, h0⟩ ?_ ?_
  · rintro d r e ⟨pre, post, rfl, h2, h3⟩
    cases post with
    | nil => cases h2
    | cons c post =>
      cases h2
      obtain ⟨e1, k1, k2⟩ := hs pre c post e rfl h3
      exact ⟨e1, k1, k2.mono (fun e h => ⟨pre ++ [c], post, by simp, by simp, h⟩) (fun _ _ h => h) (fun _ h => h) (fun e h => ⟨pre ++ [c], post, by simp, by simp, h⟩) (fun _ _ _ h => h)⟩
  · rintro e ⟨pre, post, rfl, h2, h3⟩
    cases post with
    | nil => exact h1 e (by simpa using h3)
    | cons c post => cases h2
theorem wl_while {n : Nat} {ft : FT} (I : Nat → Env → Prop) (h0 : I n e) (hs : ∀ k e, I k e → WPE (ft e) (fun c e1 => WI c (0 < k ∧ WPS (b e1) (fun e2 => ∃ j, j < k ∧ I j e2) Rt N (fun e2 => ∃ j, j < k ∧ I j e2) X) (N e1)) X) {fuel : Nat} (hf : n < fuel) : WPS (fWhile fuel ft b e) N Rt B C X := by
  unfold fWhile
  induction fuel generalizing n e with
  | zero => omega
  | succ m ih =>
    rw [wloop]
    refine ws_to ((hs n e h0).mono (fun c e1 h => ?_) fun _ _ _ h => h)
    cases c with
    | false => exact ⟨h.2 rfl⟩
    | true =>
      obtain ⟨hk, h⟩ := h.1 rfl
      dsimp only
      rw [if_pos rfl]
      revert h
      cases b e1 with
      | nx e2 => rintro ⟨j, h1, h2⟩; exact ih h2 (by omega)
      | ct e2 => rintro ⟨j, h1, h2⟩; exact ih h2 (by omega)
      | bk e2 => exact fun k => ⟨k.out⟩
      | rt p e2 => exact fun k => ⟨k.out⟩
      | ex c d e2 => exact fun k => ⟨k.out⟩
      | no => exact fun k => ⟨k.out⟩
/-! ### comprehensions -/
def WC (vs : List Nat) (g : D → Env → Option Env) (ft : FT) (fe : FE) (items : List D) (e1 : Env) (K : List D → Env → Prop) : Prop := ∃ acc e2, cloop vs g ft fe items [] e1 = .ok (acc, e2) ∧ K acc (back e1 vs e2)
theorem we_lc {fi : Env → R (List D × Env)} {Q : PV → Env → Prop} (h : WPE (fi e) (fun items e1 => WC vs g ft fe items e1 (fun acc e2 => Q (.nw (.lst acc)) e2)) X) : WPE (fLc vs g fi ft fe e) Q X := by
  rw [fLc_ev]
  refine WPE.bind (h.mono (fun items e1 h => ?_) fun _ _ _ h => h)
  obtain ⟨acc, e2, h1, h2⟩ := h
  dsimp only
  rw [h1]
  exact ⟨h2⟩
theorem noex_we {r : R (α × Env)} {Q : α → Env → Prop} (h : WPE r Q XF) : ∃ a e, noex r = .ok (a, e) ∧ Q a e := by
  obtain ⟨a, e, h1, h⟩ := h.eq
  exact ⟨a, e, by rw [h1]; rfl, h⟩
theorem wc_all {items : List D} {K : List D → Env → Prop} (I : List D → List D → Env → Prop) (h0 : I items [] (wipeE e1 vs)) (hl : items.length ≤ LIM)
    (hs : ∀ d r acc e, I (d :: r) acc e → WO (g d e) fun e2 => WN e2 fun e2 => WPE (ft e2) (fun t e3 => WI t (WPE (fe e3) (fun p e4 => WPE (settle e4 p) (fun y e5 => I r (acc ++ [y]) (wipeE e5 vs)) XF) XF) (I r acc (wipeE e3 vs))) XF)
    (h1 : ∀ acc e, I [] acc (wipeE e vs) → K acc (back e1 vs e)) : WC vs g ft fe items e1 K := by
  have go : ∀ (items acc : List D) (e : Env), I items acc (wipeE e vs) → acc.length + items.length ≤ LIM → ∃ acc' e2, cloop vs g ft fe items acc e = .ok (acc', e2) ∧ I [] acc' (wipeE e2 vs) := by
    intro items
    induction items with
    | nil => intro acc e h hl; exact ⟨acc, e, rfl, h⟩
    | cons d r ih =>
      intro acc e h hl
      rw [List.length_cons] at hl
      obtain ⟨e2, k1, k2⟩ := hs d r acc _ h
      unfold WN at k2
      obtain ⟨t, e3, k3, k4⟩ := noex_we k2
      rw [cloop, k1]
      simp only [R.of, R.bind_ok, k3]
      cases t with
      | false =>
        have k5 := k4.2 rfl
        simp only [Bool.false_eq_true, if_false]
        exact ih acc e3 k5 (by omega)
      | true =>
        obtain ⟨p, e4, k5, k6⟩ := noex_we (k4.1 rfl)
        obtain ⟨y, e5, k7, k8⟩ := k6.eq
        simp only [if_true, k5, R.bind_ok, k7]
        rw [if_pos (show acc.length < LIM by omega)]
        exact ih (acc ++ [y]) e5 k8 (by simp; omega)
  obtain ⟨acc', e2, k1, k2⟩ := go items [] e1 h0 (by simpa using hl)
  exact ⟨acc', e2, k1, h1 acc' e2 k2⟩
theorem env_ext : ∀ {a b : Env}, a.length = b.length → (∀ j, gt a j = gt b j) → a = b
  | [], [], _, _ => rfl
  | [], _ :: _, h, _ => by cases h
  | _ :: _, [], h, _ => by cases h
  | x :: a, y :: b, h, k => by
    have := k 0
    simp only [gt] at this
    subst this
    rw [env_ext (a := a) (b := b) (by simpa using h) fun j => by simpa [gt] using k (j + 1)]
theorem back_gt (e0 : Env) : ∀ (vs : List Nat) (e : Env) (j : Nat), gt (back e0 vs e) j = if j ∈ vs ∧ j < e.length then (match gt e0 j with | .va d => .va d | _ => .un) else gt e j
  | [], e, j => by simp [back]
  | v :: vs, e, j => by
    have ih := back_gt e0 vs e j
    simp only [back]
    by_cases hv : j = v
    · subst hv
      by_cases hl : j < e.length
      · rw [if_pos ⟨List.mem_cons_self, hl⟩]
        split <;> rw [gt_st, if_pos ⟨rfl, by rw [back_len]; exact hl⟩] <;> rename_i h <;> simp only [h]
      · rw [if_neg (fun z => hl z.2)]
        rw [gt_un (e := e) (by omega)]
        split <;> rw [gt_un] <;> rw [st_len, back_len] <;> omega
    · have : (j ∈ v :: vs ∧ j < e.length) ↔ (j ∈ vs ∧ j < e.length) := by simp [hv]
      rw [show (if j ∈ v :: vs ∧ j < e.length then (match gt e0 j with | .va d => Sl.va d | _ => .un) else gt e j) = (if j ∈ vs ∧ j < e.length then (match gt e0 j with | .va d => Sl.va d | _ => .un) else gt e j) from by simp only [this]]
      rw [← ih]
      split <;> rw [gt_st, if_neg (fun z => hv z.1)]
theorem back_wipe (e0 : Env) (vs : List Nat) (e : Env) : back e0 vs e = back e0 vs (wipeE e vs) := by
  refine env_ext (by rw [back_len, back_len, wipeE_len]) fun j => ?_
  rw [back_gt, back_gt, wipeE_len, gt_wipe]
  by_cases h : j ∈ vs
  · by_cases hl : j < e.length
    · rw [if_pos ⟨h, hl⟩, if_pos ⟨h, hl⟩]
    · rw [if_neg (fun z => hl z.2), if_neg (fun z => hl z.2), if_pos h, gt_un (by omega)]
  · rw [if_neg (fun z => h z.1), if_neg (fun z => h z.1), if_neg h]
/-- each element by itself, the state unchanged -/
theorem wc_pure {f h : α → D} {l : List α} {K : List D → Env → Prop} (hl : l.length ≤ LIM)
    (hs : ∀ c ∈ l, WO (g (f c) (wipeE e1 vs)) fun e2 => WN e2 fun e2 => WPE (fe e2) (fun p e4 => WPE (settle e4 p) (fun y e5 => y = h c ∧ wipeE e5 vs = wipeE e1 vs) XF) XF)
    (h1 : WN (back e1 vs (wipeE e1 vs)) (K (l.map h))) : WC vs g fYes fe (l.map f) e1 K := by
  refine wc_all (fun r acc e => e = wipeE e1 vs ∧ ∃ pre post, l = pre ++ post ∧ r = post.map f ∧ acc = pre.map h) ⟨rfl, [], l, rfl, rfl, rfl⟩ (by simpa using hl) ?_ ?_
  · rintro d r acc e ⟨rfl, pre, post, rfl, h2, rfl⟩
    cases post with
    | nil => cases h2
    | cons c post =>
      cases h2
      obtain ⟨e2, k1, k2⟩ := hs c (by simp)
      unfold WN at k2
      refine ⟨e2, k1, ?_⟩
      unfold WN
      refine we_ok (wi_t (k2.mono (fun p e4 k => k.mono ?_ fun _ _ _ h => h) fun _ _ _ h => h))
      rintro y e5 ⟨rfl, k3⟩
      exact ⟨k3, pre ++ [c], post, by simp, rfl, by simp⟩
  · rintro acc e ⟨h2, pre, post, rfl, h3, rfl⟩
    cases post with
    | nil => rw [back_wipe, h2]; unfold WN at h1; simpa using h1
    | cons c post => cases h3
theorem wc_filt {f h : α → D} {t : α → Bool} {l : List α} {K : List D → Env → Prop} (hl : l.length ≤ LIM)
    (hs : ∀ c ∈ l, WO (g (f c) (wipeE e1 vs)) fun e2 => WN e2 fun e2 => WPE (ft e2) (fun b e3 => b = t c ∧ WI b (WPE (fe e3) (fun p e4 => WPE (settle e4 p) (fun y e5 => y = h c ∧ wipeE e5 vs = wipeE e1 vs) XF) XF) (wipeE e3 vs = wipeE e1 vs)) XF)
    (h1 : WN (back e1 vs (wipeE e1 vs)) (K ((l.filter t).map h))) : WC vs g ft fe (l.map f) e1 K := by
  refine wc_all (fun r acc e => e = wipeE e1 vs ∧ ∃ pre post, l = pre ++ post ∧ r = post.map f ∧ acc = (pre.filter t).map h) ⟨rfl, [], l, rfl, rfl, rfl⟩ (by simpa using hl) ?_ ?_
  · rintro d r acc e ⟨rfl, pre, post, rfl, h2, rfl⟩
    cases post with
    | nil => cases h2
    | cons c post =>
      cases h2
      obtain ⟨e2, k1, k2⟩ := hs c (by simp)
      unfold WN at k2
      refine ⟨e2, k1, ?_⟩
      unfold WN
      refine k2.mono (fun b e3 k => ?_) fun _ _ _ h => h
      obtain ⟨rfl, k⟩ := k
      refine ⟨fun ht => (k.1 ht).mono (fun p e4 k => k.mono ?_ fun _ _ _ h => h) fun _ _ _ h => h, fun ht => ⟨k.2 ht, pre ++ [c], post, by simp, rfl, by simp [ht]⟩⟩
      rintro y e5 ⟨rfl, k3⟩
      exact ⟨k3, pre ++ [c], post, by simp, rfl, by simp [ht]⟩
  · rintro acc e ⟨h2, pre, post, rfl, h3, rfl⟩
    cases post with
    | nil => rw [back_wipe, h2]; unfold WN at h1; simpa using h1
    | cons c post => cases h3
/-- elements that change the state (draws) -/
theorem wc_inv {f : α → D} {l : List α} {K : List D → Env → Prop} (I : List α → List D → Env → Prop) (hl : l.length ≤ LIM) (h0 : I [] [] (wipeE e1 vs))
    (hs : ∀ pre c post acc e, l = pre ++ c :: post → I pre acc e → WO (g (f c) e) fun e2 => WN e2 fun e2 => WPE (ft e2) (fun t e3 => WI t (WPE (fe e3) (fun p e4 => WPE (settle e4 p) (fun y e5 => I (pre ++ [c]) (acc ++ [y]) (wipeE e5 vs)) XF) XF) (I (pre ++ [c]) acc (wipeE e3 vs))) XF)
    (h1 : ∀ acc e, I l acc e → K acc (back e1 vs e)) : WC vs g ft fe (l.map f) e1 K := by
  refine wc_all (fun r acc e => ∃ pre post, l = pre ++ post ∧ r = post.map f ∧ I pre acc e) ⟨[], l, rfl, rfl, h0⟩ (by simpa using hl) ?_ ?_
  · rintro d r acc e ⟨pre, post, rfl, h2, h3⟩
    cases post with
    | nil => cases h2
    | cons c post =>
      cases h2
      obtain ⟨e2, k1, k2⟩ := hs pre c post acc e rfl h3
      unfold WN at k2
      refine ⟨e2, k1, ?_⟩
      unfold WN
      refine k2.mono (fun b e3 k => ⟨fun ht => (k.1 ht).mono (fun p e4 k => k.mono (fun y e5 k => ⟨pre ++ [c], post, by simp, rfl, k⟩) fun _ _ _ h => h) fun _ _ _ h => h, fun ht => ⟨pre ++ [c], post, by simp, rfl, k.2 ht⟩⟩) fun _ _ _ h => h
  · rintro acc e ⟨pre, post, rfl, h3, h4⟩
    cases post with
    | nil => rw [back_wipe]; exact h1 _ _ (by simpa using h4)
    | cons c post => cases h3
theorem wc_rng {n : Nat} {lo : Int} {K : List D → Env → Prop} (I : Nat → List D → Env → Prop) (hl : n ≤ LIM) (h0 : I 0 [] (wipeE e1 vs))
    (hs : ∀ k acc e, k < n → I k acc e → WO (g (.int (lo + (k : Nat))) e) fun e2 => WN e2 fun e2 => WPE (ft e2) (fun t e3 => WI t (WPE (fe e3) (fun p e4 => WPE (settle e4 p) (fun y e5 => I (k + 1) (acc ++ [y]) (wipeE e5 vs)) XF) XF) (I (k + 1) acc (wipeE e3 vs))) XF)
    (h1 : ∀ acc e, I n acc e → K acc (back e1 vs e)) : WC vs g ft fe (rngs lo n) e1 K := by
  rw [rngs_map]
  refine wc_inv (fun pre acc e => I pre.length acc e) (by simpa using hl) h0 (fun pre c post acc e h hi => ?_) (fun acc e h => h1 acc e (by simpa using h))
  obtain ⟨rfl, hn⟩ := range_split h
  have := hs pre.length acc e hn hi
  simpa using this
theorem wc_rngP {n : Nat} {lo : Int} {h : Nat → D} {K : List D → Env → Prop} (hl : n ≤ LIM)
    (hs : ∀ k, k < n → WO (g (.int (lo + (k : Nat))) (wipeE e1 vs)) fun e2 => WN e2 fun e2 => WPE (fe e2) (fun p e4 => WPE (settle e4 p) (fun y e5 => y = h k ∧ wipeE e5 vs = wipeE e1 vs) XF) XF)
    (h1 : WN (back e1 vs (wipeE e1 vs)) (K ((List.range n).map h))) : WC vs g fYes fe (rngs lo n) e1 K := by
  rw [rngs_map]
  exact wc_pure (by simpa using hl) (fun c hc => hs c (by simpa using hc)) h1
theorem wc_rngF {n : Nat} {lo : Int} {h : Nat → D} {t : Nat → Bool} {K : List D → Env → Prop} (hl : n ≤ LIM)
    (hs : ∀ k, k < n → WO (g (.int (lo + (k : Nat))) (wipeE e1 vs)) fun e2 => WN e2 fun e2 => WPE (ft e2) (fun b e3 => b = t k ∧ WI b (WPE (fe e3) (fun p e4 => WPE (settle e4 p) (fun y e5 => y = h k ∧ wipeE e5 vs = wipeE e1 vs) XF) XF) (wipeE e3 vs = wipeE e1 vs)) XF)
    (h1 : WN (back e1 vs (wipeE e1 vs)) (K (((List.range n).filter t).map h))) : WC vs g ft fe (rngs lo n) e1 K := by
  rw [rngs_map]
  exact wc_filt (by simpa using hl) (fun c hc => hs c (by simpa using hc)) h1
/-- a comprehension within a test: the state stays -/
theorem ed_lc {fi : Env → R (List D × Env)} {f h : α → D} {l : List α} (hi : fi e = .ok (l.map f, e)) (hb : back e vs (wipeE e vs) = e) (hl : l.length ≤ LIM)
    (hs : ∀ c ∈ l, WO (g (f c) (wipeE e vs)) fun e2 => ED fe e2 (h c) ∧ (∀ p, fe e2 = .ok (p, e2) → ∃ d', p = .d d') ∧ wipeE e2 vs = wipeE e vs) : ED (fLc vs g fi fYes fe) e (.lst (l.map h)) := by
  have := we_lc (X := XF) (e := e) (fe := fe) (ft := fYes) (vs := vs) (g := g) (fi := fi) (Q := fun p e' => p = .nw (.lst (l.map h)) ∧ e' = e) (we_eq hi (wc_pure (f := f) (h := h) hl (fun c hc => ?_) ⟨rfl, hb⟩))
  · obtain ⟨p, e', h1, rfl, rfl⟩ := this.eq
    exact ⟨_, h1, rfl, rfl⟩
  · obtain ⟨e2, k1, ⟨p, k2, k3, k4⟩, k5, k6⟩ := hs c hc
    obtain ⟨d', rfl⟩ := k5 p k2
    cases k3
    refine ⟨e2, k1, ?_⟩
    unfold WN
    exact we_eq k2 (we_ok ⟨rfl, k6⟩)
end
end DL
set_option Elab.async false
set_option linter.all false
set_option maxRecDepth 100000
set_option maxHeartbeats 4000000
/-! more rules: pure expressions by kind of result, clauses, forgetting -/
namespace DL
open PySem PySem.Spec PyProof.Rows L2
section
variable {α β : Type} {X : XP} {e e1 e2 e' : Env} {d d1 da db : D} {N B C : Env → Prop} {Rt : PV → Env → Prop} {fa fb fe : FE} {ft : FT} {gs : FA} {f g : FS} {u : List D}
theorem ed_binA {op : D → D → Option RV} (ha : ED fa e da) (hb : ED fb e db) (ho : op da db = some (.at d)) : ED (fBin op fa fb) e d := ed_bin ha hb ho
theorem ed_binL {op : D → D → Option RV} (ha : ED fa e da) (hb : ED fb e db) (ho : op da db = some (.ls u)) : ED (fBin op fa fb) e (.lst u) := ed_bin ha hb ho
theorem ed_unA {op : D → Option RV} (ha : ED fa e da) (ho : op da = some (.at d)) : ED (fUn op fa) e d := ed_un ha ho
theorem ed_unL {op : D → Option RV} (ha : ED fa e da) (ho : op da = some (.ls u)) : ED (fUn op fa) e (.lst u) := ed_un ha ho
theorem ed_cbA {op : List D → Option RV} {ds : List D} (ha : EL gs e ds) (ho : op ds = some (.at d)) : ED (fCB op gs) e d := ed_cb ha ho
theorem ed_cbL {op : List D → Option RV} {ds : List D} (ha : EL gs e ds) (ho : op ds = some (.ls u)) : ED (fCB op gs) e (.lst u) := ed_cb ha ho
theorem ed_slA {op : D → Option Int → Option Int → Option RV} {fl fh : Env → R (Option Int × Env)} {lo hi : Option Int} (ha : ED fa e da) (hl : EPa fl e lo) (hh : EPa fh e hi) (ho : op da lo hi = some (.at d)) : ED (fSl op fa fl fh) e d := ed_sl ha hl hh ho
theorem ed_slL {op : D → Option Int → Option Int → Option RV} {fl fh : Env → R (Option Int × Env)} {lo hi : Option Int} (ha : ED fa e da) (hl : EPa fl e lo) (hh : EPa fh e hi) (ho : op da lo hi = some (.ls u)) : ED (fSl op fa fl fh) e (.lst u) := ed_sl ha hl hh ho
theorem ed_mt0A {ty : String} {op : D → List D → Option RV} (ha : ED fa e da) (ht : isTy ty da = true) (ho : op da [] = some (.at d)) : ED (fMt0 ty op fa) e d := ed_mt0 ha ht ho
theorem ed_mtA {ty : String} {op : D → List D → Option RV} {ds : List D} (ha : ED fa e da) (ht : isTy ty da = true) (hs : EL gs e ds) (ho : op da ds = some (.at d)) : ED (fMt ty op fa gs) e d := ed_mt ha ht hs ho
/-! ### truth of other values -/
theorem q_truS {a : List Nat} (h : a.length ≤ LIM) : truD (.str a) = some (!a.isEmpty) := by simp only [truD, if_pos h]
theorem wtru {o : Option D} {b : Bool} {K : Bool → Prop} (h : o = some d) (h2 : truD d = some b) (k : K b) : WO (o.bind truD) K := ⟨b, by rw [h]; exact h2, k⟩
/-! ### operations at a goal -/
theorem we_Y {Q : Bool → Env → Prop} (k : Q true e) : WPE (fYes e) Q X := ⟨k⟩
theorem map_erase {γ δ : Type} (f : γ → δ) : ∀ (x : List γ) (n : Nat), (x.map f).eraseIdx n = (x.eraseIdx n).map f
  | [], n => rfl
  | a :: x, 0 => rfl
  | a :: x, n + 1 => by simp only [List.map_cons, List.eraseIdx_cons_succ, map_erase f x n]
theorem wsti_L {i : Nat} {b : Bool} {j : Int} {dv : D} (h1 : gt e i = .ce b (.lst u)) (h0 : 0 ≤ j) (h2 : j < u.length) (k : WN (st e i (.ce b (.lst (u.set j.toNat dv)))) N) : WSti i oSetL (.int j) dv e N := wsti h1 (q_setL h0 h2) k
theorem wmu_app {i : Nat} {b : Bool} {Q : PV → Env → Prop} (h1 : gt e i = .ce b (.lst u)) (h2 : u.length < LIM) (k : WN2 (.d .non) (st e i (.ce b (.lst (u ++ [d])))) Q) : WMu i oApp [d] e Q := wmu h1 (q_app h2) k
theorem wmu_ext {i : Nat} {b : Bool} {Q : PV → Env → Prop} {v : List D} (h1 : gt e i = .ce b (.lst u)) (h2 : u.length + v.length ≤ LIM) (k : WN2 (.d .non) (st e i (.ce b (.lst (u ++ v)))) Q) : WMu i oExt [.lst v] e Q := wmu h1 (q_ext h2) k
theorem wmu_popA {i : Nat} {b : Bool} {j : Int} {Q : PV → Env → Prop} (h1 : gt e i = .ce b (.lst u)) (h0 : 0 ≤ j) (h2 : u[j.toNat]? = some d) (hl : u.length ≤ LIM) (k : WN2 (.d d) (st e i (.ce b (.lst (u.eraseIdx j.toNat)))) Q) : WMu i oPopAt [.int j] e Q := wmu h1 (q_popA h0 h2 hl) k
theorem wmu_popM {i : Nat} {b : Bool} {j : Int} {f : Nat → D} {x : List Nat} {Q : PV → Env → Prop} (h1 : gt e i = .ce b (.lst (x.map f))) (h0 : 0 ≤ j) (h2 : j.toNat < x.length) (hl : x.length ≤ LIM) (k : WN2 (.d (f (x[j.toNat]!))) (st e i (.ce b (.lst ((x.eraseIdx j.toNat).map f)))) Q) : WMu i oPopAt [.int j] e Q := by
  refine wmu h1 (q_popA (d := f (x[j.toNat]!)) h0 (by rw [getB h2]; simp [h2]) (by simpa using hl)) ?_
  rw [map_erase]; exact k
theorem we_pop {i : Nat} {b : Bool} {Q : PV → Env → Prop} (h1 : gt e i = .ce b (.lst u)) (h : u ≠ []) (k : WN2 (.d (u.getLast h)) (st e i (.ce b (.lst u.dropLast))) Q) : WPE (fMu0 i "list" oPop e) Q X := we_mu0 h1 rfl (q_pop h) k
theorem wr_ixS {l : List Nat} {c : Nat} {i : Int} {Q : PV → Env → Prop} (h : at? l i = some c) (hl : l.length ≤ LIM) (k : Q (.d (.str [c])) e) : WR (oIx (.str l) (.int i)) Q e := wr_at (q_ixS hl h) k
theorem wr_ixL {i : Int} {Q : PV → Env → Prop} (h : at? u i = some d) (k : Q (.d d) e) : WR (oIx (.lst u) (.int i)) Q e := wr_at (q_ixL h) k
theorem wr_ixT {i : Int} {Q : PV → Env → Prop} (h : at? u i = some d) (k : Q (.d d) e) : WR (oIx (.tup u) (.int i)) Q e := wr_at (q_ixT h) k
theorem wr_index {l : List Nat} {c n : Nat} {Q : PV → Env → Prop} (h : seek c l 0 = some n) (k : Q (.d (.int n)) e) : WR (oIndex (.str l) [.str [c]]) Q e := wr_at (q_index h) k
theorem wr_repr {l : List Nat} {Q : PV → Env → Prop} (h : shown d = some l) (k : Q (.d (.str l)) e) : WR (oRepr [d]) Q e := wr_at (q_repr h) k
theorem wtruS {o : Option D} {l : List Nat} {K : Bool → Prop} (h : o = some (.str l)) (h2 : l.length ≤ LIM) (k : K (!l.isEmpty)) : WO (o.bind truD) K := wtru h (q_truS h2) k
/-! ### exceptions -/
theorem wh_t {mt : Nat → Option Bool} {k : Nat → D → Env → Oc} {r : List HM} {c : Nat} (h : mt c = some true) (q : WPS (k c d e) N Rt B C X) : WPS (fHds ((mt, k) :: r) c d e) N Rt B C X := by
  simp only [fHds, h]; exact q
theorem wh_f {mt : Nat → Option Bool} {k : Nat → D → Env → Oc} {r : List HM} {c : Nat} (h : mt c = some false) (q : WPS (fHds r c d e) N Rt B C X) : WPS (fHds ((mt, k) :: r) c d e) N Rt B C X := by
  simp only [fHds, h]; exact q
theorem wh_n {c : Nat} (q : X c d e) : WPS (fHds [] c d e) N Rt B C X := ⟨q⟩
theorem wkret {i c : Nat} {g : Env → D → Option RV} (h : i < e.length) (q : WR (g (st e i .un) d) Rt (st e i .un)) : WPS (kRet i g c d e) N Rt B C X := by
  obtain ⟨rv, h1, h2⟩ := q
  simp only [kRet, h1, if_pos h]; exact ⟨h2⟩
theorem wkplain {c : Nat} (q : WPS (f e) N Rt B C XF) : WPS (kPlain f c d e) N Rt B C X := by
  unfold kPlain
  revert q
  cases f e with
  | ex c d e => exact fun h => h.out.elim
  | nx e => exact fun h => ⟨h.out⟩
  | bk e => exact fun h => ⟨h.out⟩
  | ct e => exact fun h => ⟨h.out⟩
  | rt p e => exact fun h => ⟨h.out⟩
  | no => exact fun h => ⟨h.out⟩
theorem wrg1 {j : Int} {Q : List D → Env → Prop} (h : -1000000000 < j ∧ j < 1000000000) (k : Q (rngs 0 j.toNat) e) : WRg1 [D.int j] e Q := ⟨j, rfl, by unfold RB; simp; omega, k⟩
theorem wrg2 {i j : Int} {Q : List D → Env → Prop} (h : -1000000000 < i ∧ i < 1000000000) (h2 : -1000000000 < j ∧ j < 1000000000) (k : Q (rngs i (j - i).toNat) e) : WRg2 [D.int i, D.int j] e Q := ⟨i, j, rfl, by unfold RB; simp; omega, by unfold RB; simp; omega, k⟩
theorem witS {p : PV} {Q : List D → Env → Prop} {l : List Nat} (h : look e p = some (.str l)) (k : Q (l.map fun c => .str [c]) e) : WIt p e Q := wit_s h k
theorem wi_or {a b : Bool} {P Q : Prop} (h1 : (a = true ∨ b = true) → P) (h2 : a = false → b = false → Q) : WI (a || b) P Q := by
  cases a with
  | true => exact wi_t (h1 (.inl rfl))
  | false => cases b with
    | true => exact wi_t (h1 (.inr rfl))
    | false => exact wi_f (h2 rfl rfl)
/-! ### forgetting names -/
def fW (ws : List Nat) (f : FS) : FS := fun e => match f e with
  | .nx e1 => .nx (wipeE e1 ws)
  | .ct e1 => .ct (wipeE e1 ws)
  | o => o
theorem ws_W {ws : List Nat} (h : WPS (f e) (fun e1 => WN (wipeE e1 ws) N) Rt B (fun e1 => WN (wipeE e1 ws) C) X) : WPS (fW ws f e) N Rt B C X := by
  unfold fW
  revert h
  cases f e with
  | _ => exact fun h => ⟨h.out⟩
end
section
/-- forgetting ahead of a statement -/
def fPre (ws : List Nat) (f : FS) : FS := fun e => f (wipeE e ws)
theorem ws_P {e : Env} {N B C : Env → Prop} {Rt : PV → Env → Prop} {X : XP} {f : FS} {ws : List Nat} (h : WN (wipeE e ws) fun e => WPS (f e) N Rt B C X) : WPS (fPre ws f e) N Rt B C X := h
end
section
variable {T : Tb} {W : WX} {Y : Cx} {F : Fx} {G H : Hp} {σ : St} {e : Env}
theorem wipe_slot (s : SR F G H σ e) : ∀ ws : List Nat, SR F G H σ (wipeE e ws)
  | [] => s
  | v :: ws => un_slot (wipe_slot s ws) v
theorem sss_W {x : List Stmt} {t : TS} {f : FS} (ws : List Nat) (h : SSs T W Y x t f) : SSs T W Y x t (fW ws f) := by
  refine ⟨h.1, fun Pr A G H σ e D s q => h.2 Pr A G H σ e D s ?_⟩
  revert q
  unfold fW
  cases f e with
  | nx e1 => exact fun q σ1 G1 H1 x1 s1 => q σ1 G1 H1 x1 (wipe_slot s1 ws)
  | ct e1 => exact fun q σ1 G1 H1 x1 s1 => q σ1 G1 H1 x1 (wipe_slot s1 ws)
  | bk e1 => exact fun q => q
  | rt p e1 => exact fun q => q
  | ex c d e1 => exact fun q => q
  | no => exact fun q => q
theorem ss_W {x : Stmt} {t : TS} {f : FS} (ws : List Nat) (h : SS T W Y x t f) : SS T W Y x t (fW ws f) := by
  refine ⟨h.1, fun Pr A G H σ e D s q => h.2 Pr A G H σ e D s ?_⟩
  revert q
  unfold fW
  cases f e with
  | nx e1 => exact fun q σ1 G1 H1 x1 s1 => q σ1 G1 H1 x1 (wipe_slot s1 ws)
  | ct e1 => exact fun q σ1 G1 H1 x1 s1 => q σ1 G1 H1 x1 (wipe_slot s1 ws)
  | bk e1 => exact fun q => q
  | rt p e1 => exact fun q => q
  | ex c d e1 => exact fun q => q
  | no => exact fun q => q
theorem ss_P {x : Stmt} {t : TS} {f : FS} (ws : List Nat) (h : SS T W Y x t f) : SS T W Y x t (fPre ws f) :=
  ⟨h.1, fun Pr A G H σ e D s q => h.2 Pr A G H σ (wipeE e ws) D (wipe_slot s ws) q⟩
end
end DL
set_option Elab.async false
set_option linter.all false
set_option maxRecDepth 100000
set_option maxHeartbeats 4000000
/-! repr of data of bounded size; == of data -/
namespace DL
open PySem PySem.Spec PyProof.Rows L2
mutual
/-- no ints of more than twelve figures -/
def inD : D → Bool
  | .int i => decide (-999999999999 < i) && decide (i < 999999999999)
  | .lst ds => inDL ds
  | .tup ds => inDL ds
  | _ => true
def inDL : List D → Bool
  | [] => true
  | d :: ds => inD d && inDL ds
end
mutual
def wtD : D → Nat
  | .int _ => 41
  | .str l => l.length
  | .lst ds => wtDL ds
  | .tup ds => wtDL ds
  | _ => 0
def wtDL : List D → Nat
  | [] => 0
  | d :: ds => wtD d + 1 + wtDL ds
end
theorem short_int {i : Int} (h : (decide (-999999999999 < i) && decide (i < 999999999999)) = true) : PyData.intsShort 13 (.int i) = true ∧ PyData.showable (.int i) = true ∧ PyData.weight (.int i) ≤ 41 := by
  have h' := h
  simp only [Bool.and_eq_true, decide_eq_true_eq] at h
  have hl : i ≠ 0 → i.natAbs.log2 < 41 := fun h0 => by
    rw [Nat.log2_lt (by omega)]
    omega
  refine ⟨intsShort_of_noneOrIn (lo := -999999999999) (hi := 999999999999) (by decide) (by decide) _ (by simp only [noneOrIn]; exact h'), ?_, ?_⟩
  · simp only [PyData.showable, decide_eq_true_eq]
    by_cases h0 : i = 0
    · subst h0; decide
    · have := hl h0; omega
  · simp only [PyData.weight]
    split
    · omega
    · rename_i h0
      have := hl (by simpa using h0); omega
mutual
theorem py_size : ∀ (d : D) (p : PyData), toPy d = some p → inD d = true → PyData.showable p = true ∧ PyData.intsShort 13 p = true ∧ PyData.weight p ≤ wtD d
  | .non, p, h, _ => by simp only [toPy] at h; cases h; exact ⟨by simp only [PyData.showable], by simp only [PyData.intsShort], by simp only [PyData.weight]; omega⟩
  | .bl b, p, h, _ => by simp only [toPy] at h; cases h; exact ⟨by simp only [PyData.showable], by simp only [PyData.intsShort], by simp only [PyData.weight]; omega⟩
  | .int i, p, h, hi => by
    simp only [toPy] at h; cases h
    simp only [inD] at hi
    have := short_int hi
    exact ⟨this.2.1, this.1, by simp only [wtD]; exact this.2.2⟩
  | .str l, p, h, _ => by
    simp only [toPy] at h; cases h
    exact ⟨by simp only [PyData.showable], by simp only [PyData.intsShort], by simp only [PyData.weight, wtD]; simp [S]⟩
  | .lst ds, p, h, hi => by
    simp only [toPy] at h
    split at h
    · rename_i ps hp
      cases h
      simp only [inD] at hi
      have := py_sizeL ds ps hp hi
      exact ⟨by simp only [PyData.showable]; exact this.1, by simp only [PyData.intsShort]; exact this.2.1, by simp only [PyData.weight, wtD]; exact this.2.2⟩
    · cases h
  | .tup ds, p, h, hi => by
    simp only [toPy] at h
    split at h
    · rename_i ps hp
      cases h
      simp only [inD] at hi
      have := py_sizeL ds ps hp hi
      exact ⟨by simp only [PyData.showable]; exact this.1, by simp only [PyData.intsShort]; exact this.2.1, by simp only [PyData.weight, wtD]; exact this.2.2⟩
    · cases h
  | .dic _ _, p, h, _ => by simp only [toPy] at h; cases h
  | .obj _ _, p, h, _ => by simp only [toPy] at h; cases h
  | .fro _, p, h, _ => by simp only [toPy] at h; cases h
  | .cls _, p, h, _ => by simp only [toPy] at h; cases h
theorem py_sizeL : ∀ (ds : List D) (ps : List PyData), toPyL ds = some ps → inDL ds = true → PyData.showableAll ps = true ∧ PyData.intsShortAll 13 ps = true ∧ PyData.weightAll ps ≤ wtDL ds
  | [], ps, h, _ => by simp only [toPyL] at h; cases h; exact ⟨by simp only [PyData.showableAll], by simp only [PyData.intsShortAll], by simp only [PyData.weightAll]; omega⟩
  | d :: ds, ps, h, hi => by
    simp only [toPyL] at h
    split at h
    · rename_i p ps' h1 h2
      cases h
      simp only [inDL, Bool.and_eq_true] at hi
      have a := py_size d p h1 hi.1
      have b := py_sizeL ds ps' h2 hi.2
      exact ⟨by simp only [PyData.showableAll, a.1, b.1, Bool.and_self], by simp only [PyData.intsShortAll, a.2.1, b.2.1, Bool.and_self], by simp only [PyData.weightAll, wtDL]; omega⟩
    · cases h
end
/-- what is shown of data of bounded size -/
theorem shown_ok {d : D} (h : okD 60 d = true) (hi : inD d = true) (hw : 15 * wtD d + 13 ≤ LIM) : ∃ s, shown d = some s := by
  obtain ⟨p, h1, h2, h3⟩ := ok_py 60 d h
  have a := py_size d p h1 hi
  have h4 := PyData.shown_le 13 (by decide) p (PyData.leavesShort_of_canLay0 13 p h2 a.2.1)
  have h5 : p.shown.length ≤ LIM := by have := a.2.2; omega
  refine ⟨p.shown.cps.toList, ?_⟩
  cases d with
  | dic ks vs => simp only [toPy] at h1; cases h1
  | _ => simp only [shown, h1]; rw [if_pos ⟨a.1, h5, h3⟩]
theorem inDL_map {α : Type} {f : α → D} : ∀ {x : List α}, (∀ a ∈ x, inD (f a) = true) → inDL (x.map f) = true
  | [], _ => by simp only [List.map_nil, inDL]
  | a :: x, h => by simp only [List.map_cons, inDL, h a List.mem_cons_self, Bool.true_and]; exact inDL_map fun b hb => h b (List.mem_cons_of_mem _ hb)
theorem okDL_map {α : Type} {f : α → D} {n : Nat} : ∀ {x : List α}, (∀ a ∈ x, okD n (f a) = true) → okDL n (x.map f) = true
  | [], _ => by simp only [List.map_nil, okDL]
  | a :: x, h => by simp only [List.map_cons, okDL, h a List.mem_cons_self, Bool.true_and]; exact okDL_map fun b hb => h b (List.mem_cons_of_mem _ hb)
theorem wtDL_map {α : Type} {f : α → D} {B : Nat} : ∀ {x : List α}, (∀ a ∈ x, wtD (f a) ≤ B) → wtDL (x.map f) ≤ (B + 1) * x.length
  | [], _ => by simp only [List.map_nil, wtDL]; omega
  | a :: x, h => by
    simp only [List.map_cons, wtDL, List.length_cons]
    have h1 := h a List.mem_cons_self
    have h2 := wtDL_map (x := x) fun b hb => h b (List.mem_cons_of_mem _ hb)
    rw [Nat.mul_succ]; omega
/-- okD does not mind a greater depth -/
theorem okD_str {n : Nat} {l : List Nat} (h : ∀ c ∈ l, c < 0x110000) : okD n (.str l) = true := by
  have : l.all (· < 0x110000) = true := by rw [List.all_eq_true]; intro c hc; simpa using h c hc
  cases n <;> (simp only [okD]; exact this)
mutual
theorem eqD_refl : ∀ (n : Nat) (d : D), okD n d = true → eqD d d = true
  | _, .non, _ => by simp only [eqD]
  | _, .bl b, _ => by simp [eqD]
  | _, .int i, _ => by simp [eqD]
  | _, .str l, _ => by simp [eqD]
  | 0, .lst ds, h => by simp only [okD] at h; cases h
  | 0, .tup ds, h => by simp only [okD] at h; cases h
  | n + 1, .lst ds, h => by simp only [okD] at h; simp only [eqD]; exact eqDL_refl n ds h
  | n + 1, .tup ds, h => by simp only [okD] at h; simp only [eqD]; exact eqDL_refl n ds h
  | n, .dic _ _, h => by simp only [okD] at h; cases h
  | n, .obj _ _, h => by simp only [okD] at h; cases h
  | n, .fro _, h => by simp only [okD] at h; cases h
  | n, .cls _, h => by simp only [okD] at h; cases h
theorem eqDL_refl : ∀ (n : Nat) (ds : List D), okDL n ds = true → eqDL ds ds = true
  | _, [], _ => by simp only [eqDL]
  | n, d :: ds, h => by simp only [okDL, Bool.and_eq_true] at h; simp only [eqDL, eqD_refl n d h.1, eqDL_refl n ds h.2, Bool.and_self]
end
theorem eqDL_map {α : Type} {f : α → D} (hf : ∀ a b, eqD (f a) (f b) = true ↔ a = b) : ∀ (x y : List α), eqDL (x.map f) (y.map f) = true ↔ x = y
  | [], [] => by simp [eqDL]
  | [], b :: y => by simp [eqDL]
  | a :: x, [] => by simp [eqDL]
  | a :: x, b :: y => by
    simp only [List.map_cons, eqDL, Bool.and_eq_true, hf a b, eqDL_map hf x y, List.cons.injEq]
end DL
namespace DL
open PySem PySem.Spec PyProof.Rows L2
section
variable {α : Type} {Q : PV → Env → Prop} {e : Env} {l : List Int} {m : Int} {u : List D}
theorem nums_map (l : List Int) : nums (l.map D.int) = some l := by
  induction l with
  | nil => rfl
  | cons a l ih => simp only [List.map_cons, nums, ih, Option.map_some]
theorem nums_mapF {f : α → Int} (l : List α) : nums (l.map fun a => D.int (f a)) = some (l.map f) := by
  induction l with
  | nil => rfl
  | cons a l ih => simp only [List.map_cons, nums, ih, Option.map_some]
theorem foldl_min_is : ∀ (r : List Int) (x m : Int), (m = x ∨ m ∈ r) → m ≤ x → (∀ y ∈ r, m ≤ y) → r.foldl min x = m
  | [], x, m, h, h1, _ => by
    rcases h with h | h
    · exact h.symm
    · cases h
  | a :: r, x, m, h, h1, h2 => by
    rw [List.foldl_cons]
    have ha := h2 a List.mem_cons_self
    refine foldl_min_is r _ m ?_ (by omega) fun y hy => h2 y (List.mem_cons_of_mem _ hy)
    rcases h with h | h
    · left; omega
    · rcases List.mem_cons.mp h with h | h
      · left; omega
      · exact .inr h
theorem minL_is (h : m ∈ l) (h2 : ∀ y ∈ l, m ≤ y) : minL l = some m := by
  cases l with
  | nil => cases h
  | cons x r =>
    simp only [minL, Option.some.injEq]
    exact foldl_min_is r x m (List.mem_cons.mp h) (h2 x List.mem_cons_self) fun y hy => h2 y (List.mem_cons_of_mem _ hy)
theorem foldl_max_is : ∀ (r : List Int) (x m : Int), (m = x ∨ m ∈ r) → x ≤ m → (∀ y ∈ r, y ≤ m) → r.foldl max x = m
  | [], x, m, h, h1, _ => by
    rcases h with h | h
    · exact h.symm
    · cases h
  | a :: r, x, m, h, h1, h2 => by
    rw [List.foldl_cons]
    have ha := h2 a List.mem_cons_self
    refine foldl_max_is r _ m ?_ (by omega) fun y hy => h2 y (List.mem_cons_of_mem _ hy)
    rcases h with h | h
    · left; omega
    · rcases List.mem_cons.mp h with h | h
      · left; omega
      · exact .inr h
theorem maxL_is (h : m ∈ l) (h2 : ∀ y ∈ l, y ≤ m) : maxL l = some m := by
  cases l with
  | nil => cases h
  | cons x r =>
    simp only [maxL, Option.some.injEq]
    exact foldl_max_is r x m (List.mem_cons.mp h) (h2 x List.mem_cons_self) fun y hy => h2 y (List.mem_cons_of_mem _ hy)
theorem maxL_spec {l : List Int} (h : l ≠ []) : ∃ m, maxL l = some m ∧ m ∈ l ∧ ∀ y ∈ l, y ≤ m := by
  cases l with
  | nil => exact absurd rfl h
  | cons x r =>
    obtain ⟨h1, h2, h3⟩ := foldl_max_ge r x
    refine ⟨_, rfl, ?_, ?_⟩
    · rcases h3 with h3 | h3
      · rw [h3]; exact List.mem_cons_self
      · exact List.mem_cons_of_mem _ h3
    · intro y hy
      rcases List.mem_cons.mp hy with rfl | hy
      · exact h1
      · exact h2 y hy
theorem wr_minL (h : minL l = some m) (k : Q (.d (.int m)) e) : WR (oMinL [.lst (l.map D.int)]) Q e := wr_at (by simp only [oMinL, nums_map, Option.bind_some, h, Option.map_some]) k
theorem wr_maxL (h : maxL l = some m) (k : Q (.d (.int m)) e) : WR (oMaxL [.lst (l.map D.int)]) Q e := wr_at (by simp only [oMaxL, nums_map, Option.bind_some, h, Option.map_some]) k
theorem wr_maxD (hu : nums u = some l) (h : maxL l = some m) (k : Q (.d (.int m)) e) : WR (oMaxL [.lst u]) Q e := wr_at (by simp only [oMaxL, hu, Option.bind_some, h, Option.map_some]) k
theorem wr_minD (hu : nums u = some l) (h : minL l = some m) (k : Q (.d (.int m)) e) : WR (oMinL [.lst u]) Q e := wr_at (by simp only [oMinL, hu, Option.bind_some, h, Option.map_some]) k
theorem wr_sumD (hu : nums u = some l) (k : Q (.d (.int l.sum)) e) : WR (oSum [.lst u]) Q e := wr_at (by simp only [oSum, hu, Option.map_some]) k
theorem eqD_nil {u : List D} : eqD (.lst u) (.lst []) = u.isEmpty := by
  cases u <;> simp [eqD, eqDL]
theorem q_eqNil {f : Bool → Bool} (h : okDL 59 u = true) : oEq f (.lst u) (.lst []) = some (.at (.bl (f u.isEmpty))) := by
  rw [q_eqX (by simp only [okD]; exact h) (by simp only [okD, okDL]), eqD_nil]
theorem wr_eqNil {f : Bool → Bool} {x : List α} {g : α → D} (h : ∀ a ∈ x, okD 59 (g a) = true) (k : Q (.d (.bl (f x.isEmpty))) e) : WR (oEq f (.lst (x.map g)) (.lst [])) Q e :=
  wr_at (q_eqNil (okDL_map h)) (by rw [List.isEmpty_map]; exact k)
end
end DL
set_option Elab.async false
set_option linter.all false
set_option maxRecDepth 100000
set_option maxHeartbeats 4000000
/-! for in a generator's body -/
namespace DL
open PySem PySem.Spec PyProof.Rows L2 GenW
section
variable {M : Model} {A : Around} {R : GenEnd} {Y : Protocol} {n : Nat} {s₀ : Shared} {c : Code} {fs : List Frame} {s : Shared} {env : PySem.Env}
  {K : Flow → Sem PySem.Fin} {H : Value → Sem PySem.Fin} {gd : Bool → Bool} {lv : List Value → List Value}
theorem seg_For {tg iter : Expr} {body orelse : List Stmt} {pos : Pos}
    (h : wpAny M (A.over c fs) (eval iter env) (fun x s1 => wpAny M (A.over c fs) (pyIter x) (fun it s2 => ∀ p, Seg M A R Y n s₀ (.forLoop tg it body orelse env) (M.den (.forLoop tg it body orelse env))
      (.ret (fun r => ((match r with | .ok f => (.pure f : Sem Flow) | .error e => .raise e).onRaise fun (x : Value) => do
        if (← field x 1) == Value.none then unsupported "frame.own-activation:exception-without-traceback"
        setFlight x env.frame).wrap K H gd lv) none (gd false) (lv []) c p [] :: fs) s2) (fun x s' => Seg M A R Y n s₀ c (H x) fs s') s1) (fun x s' => Seg M A R Y n s₀ c (H x) fs s') s)
    (hs : ∀ x, foldedSetIterable iter env x = pure x := by intro _; rfl) :
    Seg M A R Y n s₀ c ((exec (.For tg iter body orelse pos) env).wrap K H gd lv) fs s := by
  rw [exec_For]
  refine seg_bind_wrap (wpAny_standAt ?_)
  refine seg_bind_wrap (wpAny_mono h (fun x s1 h1 => ?_) fun _ _ z => z)
  refine seg_bind_wrap (wpAny_of_eq (hs x) ?_)
  refine seg_bind_wrap (wpAny_standAt ?_)
  refine seg_bind_wrap (wpAny_holding (wpAny_mono h1 (fun it s2 h2 => ?_) fun _ _ z => z))
  exact seg_call h2
end
section
variable {prog : Program} {w : World} {A : Around} {R : GenEnd} {Y : Protocol} {n : Nat} {s₀ : Shared} {fs : List Frame} {s : Shared} {env : PySem.Env}
def goesUp (env : PySem.Env) (e : Value) : Sem PySem.Fin := (do noteFrame e env; theTreesLotGoes e : Sem Unit).wrap (fun _ => .raise e) .raise id id
theorem seg_forLoop {tg : Expr} {it : Value} {body orelse : List Stmt}
    (h : wpAny (model prog w) (A.over (.forLoop tg it body orelse env) fs) (pyNext it) (fun r s1 => match r with
      | none => Seg (model prog w) A R Y n s₀ (.block orelse env) ((model prog w).den (.block orelse env)) fs s1
      | some v => wpAny (model prog w) (A.over (.forLoop tg it body orelse env) fs) (letOwnedTupleGo tg it v) (fun _ s2 => wpAny (model prog w) (A.over (.forLoop tg it body orelse env) fs) (assign tg env v) (fun _ s3 =>
          Seg (model prog w) A R Y n s₀ (.forLoop tg it body orelse env) ((execs body env).wrap (fun f => match f with
            | .next | .cont => .pure (.again (.forLoop tg it body orelse env))
            | .brk => .pure (.done .next)
            | .ret v => .pure (.done (.ret v))) (goesUp env) id id) fs s3)
          (fun x s' => Seg (model prog w) A R Y n s₀ (.forLoop tg it body orelse env) (goesUp env x) fs s') s2) (fun x s' => Seg (model prog w) A R Y n s₀ (.forLoop tg it body orelse env) (goesUp env x) fs s') s1)
      (fun x s' => Seg (model prog w) A R Y n s₀ (.forLoop tg it body orelse env) (goesUp env x) fs s') s) :
    Seg (model prog w) A R Y n s₀ (.forLoop tg it body orelse env) ((model prog w).den (.forLoop tg it body orelse env)) fs s := by
  show Seg _ A R Y n s₀ _ ((forTurn tg it body orelse env).onRaise (fun x => do noteFrame x env; theTreesLotGoes x)) fs s
  unfold forTurn
  rw [Sem.onRaise_eq_wrap]
  have up : ∀ x : Value, ((do noteFrame x env; theTreesLotGoes x : Sem Unit).bind fun _ => (Sem.raise x : Sem PySem.Fin)) = goesUp env x := fun x => by unfold goesUp; rw [Sem.bind_eq_wrap]
  refine seg_bind_wrap (wpAny_standAt ?_)
  refine seg_bind_wrap (wpAny_onRaise (wpAny_mono h (fun r s1 h1 => ?_) fun x s' hx => wpAny_standAt ?_))
  · cases r with
    | none => exact seg_again rfl h1
    | some v =>
      refine seg_bind_wrap (wpAny_mono h1 (fun _ s2 h2 => ?_) fun x s' hx => ?_)
      · refine seg_bind_wrap (wpAny_mono h2 (fun _ s3 h3 => ?_) fun x s' hx => ?_)
        · rw [Sem.bind_eq_wrap', Sem.wrap_wrap]
          exact Eq.mpr (congrArg (fun z => Seg (model prog w) A R Y n s₀ _ z fs s3) (Sem.wrap_congr (execs body env) _ _ (fun f => by cases f <;> rfl) (fun e => up e))) h3
        · rw [up x]; exact hx
      · rw [up x]; exact hx
  · rw [up x]; exact hx
theorem seg_block0 {fs : List Frame} (h : Seg (model prog w) A R Y n s₀ (.block [] env) (leafOf (.ok .next)) fs s) : Seg (model prog w) A R Y n s₀ (.block [] env) ((model prog w).den (.block [] env)) fs s := h
end
section
variable {X : Cx} {tg iter : Expr} {body : List Stmt} {pos : Pos} {wi : TI} {g : TG} {tb : TGn}
def tGFor (wi : TI) (g : TG) (tb : TGn) : TGn := fun D ys σ H => wi σ H fun J H1 => ∃ W : Nat → Nat → List V → L2.St → Hp → Prop, (∃ m, W 0 m ys σ H1) ∧ ∀ i m ys σ H, W i m ys σ H →
  (J.stop i H ∧ D.nx ys σ H) ∨ (J.go i H ∧ ∃ N : List V → L2.St → Hp → Prop, (∀ ys' σ' H', N ys' σ' H' → ∃ m', m' < m ∧ W (i + 1) m' ys' σ' H') ∧ ∀ x H', J.yld i H x H' → g x σ H' fun σ2 H2 => tb { D with nx := N, ct := N, bk := D.nx } ys σ2 H2)
theorem gs_for (hp : PassesOwn (model X.prog X.w) X.A X.env X.xe) (hc : X.calm = true) (hi : PI X tg iter wi) (hg : PG X tg g) (hb : GSs X body tb)
    (hs : ∀ x, foldedSetIterable iter X.env x = pure x := by intro _; rfl) : GS X (.For tg iter body [] pos) (tGFor wi g tb) := by
  refine ⟨fun A S ip R n ys s₀ c fs K J gd lv s σ H D gc hn k hI ht => ?_⟩
  obtain ⟨acc0, cc0, r0, I0⟩ := hI
  refine seg_For ?_ hs
  rw [gc.over]
  refine wpAny_mono (hi.run _ s σ H _ I0 ht) (fun v s1 h1 => wpAny_mono h1 (fun itv s2 h2 => ?_) fun x s' hx => k.exc n s₀ x s' hx) fun x s' hx => k.exc n s₀ x s' hx
  obtain ⟨it, fp, tn, Jt, H2, e, I2, T, st2, f2, W, ⟨m0, w0⟩, turn⟩ := h2
  subst e
  intro p
  have stat : ∀ {H' : Hp} {acc : Array Value} {cc : Nat}, (∀ b ∈ fp, H' b = none) → ∀ b ∈ fp, FpOk X ((S, lstObj acc cc) :: ip) H' b := fun {H' acc cc} hn b hb => by
    obtain ⟨f0, f1, f2', f3, f4, f5⟩ := f2 b hb
    refine ⟨hn b hb, f1, f2', f3, f4, fun p hp => ?_⟩
    rcases List.mem_append.mp hp with hp | hp
    · exact f5 p (List.mem_append_left _ hp)
    · rcases List.mem_cons.mp hp with hp | hp
      · rw [hp]; exact f5 (S, lstObj acc0 cc0) (List.mem_append_right _ List.mem_cons_self)
      · exact f5 p (List.mem_append_right _ (List.mem_cons_of_mem _ hp))
  have fpS : ∀ b ∈ fp, b ≠ S := fun b hb => ((f2 b hb).2.2.2.2.2 (S, lstObj acc0 cc0) (List.mem_append_right _ List.mem_cons_self)).symm
  have gl := fun (kk : Result → Sem PySem.Fin) => gc_loop (k := kk) (c' := .forLoop tg (.ref it) body [] X.env) (l := lv []) (kp := []) (p := p) gc rfl rfl
  have loop : ∀ (m i n : Nat) (ys : List V) (s₀ s : Shared) (σ : L2.St) (H : Hp), n + ys.length = sizeLine → W i m ys σ H → GI X S ip ys σ H s → tn i s.heap → (∀ b ∈ fp, H b = none) →
      Seg (model X.prog X.w) A R (GY X S) n s₀ (.forLoop tg (.ref it) body [] X.env) ((model X.prog X.w).den (.forLoop tg (.ref it) body [] X.env))
        (.ret (fun r => ((match r with | .ok f => (.pure f : Sem Flow) | .error e => .raise e).onRaise (cameBack X.env)).wrap K J gd lv) none (gd false) (lv []) c p [] :: fs) s := by
    intro m
    induction m using Nat.strongRecOn with
    | ind m ih =>
      intro i n ys s₀ s σ H hn w hI st fr
      have ee : ∀ (n : Nat) (s₀ : Shared) (x : Value) (s' : Shared), X.xe x s' → Seg (model X.prog X.w) A R (GY X S) n s₀ (.forLoop tg (.ref it) body [] X.env)
          (goesUp X.env x)
          (.ret (fun r => ((match r with | .ok f => (.pure f : Sem Flow) | .error e => .raise e).onRaise (cameBack X.env)).wrap K J gd lv) none (gd false) (lv []) c p [] :: fs) s' := fun n s₀ x s' hx => by
        refine seg_wrap ?_
        rw [(gl _).over]
        refine wpAny_bind (wpAny_mono (hp x s' hx) (fun _ s'' hcb => wpAny_theTreesLotGoes ?_) fun y s'' hcb => ?_)
        · exact seg_leaf (.error x) (seg_cameBack gc k hcb)
        · exact seg_leaf (.error y) (seg_cameBack gc k hcb)
      refine seg_forLoop ?_
      rw [(gl _).over]
      obtain ⟨acc, cc, r, I⟩ := hI
      rcases turn i m ys σ H w with ⟨stop, qn⟩ | ⟨go, N, hN, step⟩
      · refine wpAny_mono (T.done X rfl rfl rfl hc i _ s σ H X.xe I (stat fr) st stop) (fun r' s4 ⟨hr, I4⟩ => ?_) fun x s' hx => ee n s₀ x s' hx
        subst hr
        exact seg_block0 (seg_leaf (.ok .next) (k.ok n ys s₀ s4 .next hn ⟨σ, H, ⟨acc, cc, r, I4⟩, qn⟩))
      · refine wpAny_mono (T.item X rfl rfl rfl hc i _ s σ H X.xe I (stat fr) st go) (fun r' s4 ⟨u, hr, h4⟩ => ?_) fun x s' hx => ee n s₀ x s' hx
        subst hr
        refine wpAny_mono h4 (fun _ s5 ⟨x, H5, I5, r5, y5, st5, fr5⟩ => ?_) fun x s' hx => ee n s₀ x s' hx
        have I5' := I5.pinned (stat fr5) (T.obj _ _ st5)
        refine wpAny_mono (hg.run _ s5 σ H5 x u _ I5' r5 (step x H5 y5)) (fun _ s6 ⟨σ6, H6, I6, q6⟩ => ?_) fun x s' hx => ee n s₀ x s' hx
        have gc' : GC X S (ip ++ pinsAt fp s5.heap) A (.forLoop tg (.ref it) body [] X.env) (.ret (fun r => ((match r with | .ok f => (.pure f : Sem Flow) | .error e => .raise e).onRaise (cameBack X.env)).wrap K J gd lv) none (gd false) (lv []) c p [] :: fs) id := by
          have g0 := gl (fun r => ((match r with | .ok f => (.pure f : Sem Flow) | .error e => .raise e).onRaise (cameBack X.env)).wrap K J gd lv)
          exact ⟨g0.pn, fun p hp => (List.mem_append.mp hp).elim (g0.ip p) fun z => fpS _ (of_pinsAt z).1, g0.apart, g0.over, g0.split, g0.guard, g0.gd⟩
        have unp : ∀ {ys' : List V} {σ' : L2.St} {H' : Hp} {s' : Shared}, GI X S (ip ++ pinsAt fp s5.heap) ys' σ' H' s' → GI X S ip ys' σ' H' s' ∧ tn (i + 1) s'.heap ∧ ∀ b ∈ fp, H' b = none := by
          rintro ys' σ' H' s' ⟨acc', cc', r', I'⟩
          have pin : ∀ b ∈ fp, ∀ o, s5.heap.get? b = some o → _ := fun b hb o e => I'.pin (b, o) (List.mem_append_right _ (List.mem_cons_of_mem _ (List.mem_append_right _ (mem_pinsAt hb e))))
          refine ⟨⟨acc', cc', r', Inv.unpinned (pl := pinsAt fp s5.heap) (by simpa using I')⟩, T.keep _ _ _ st5 fun b hb o e => (pin b hb o e).1, fun b hb => ?_⟩
          obtain ⟨o, e, d⟩ := T.obj _ _ st5 b hb
          exact (pin b hb o e).2.1
        refine hb.run A S (ip ++ pinsAt fp s5.heap) R n ys s₀ _ _ _ _ id id s6 σ6 H6 { D with nx := N, ct := N, bk := D.nx } gc' hn ⟨fun n' ys' s₀' s3 f hn' hs => ?_, fun n' s₀' x s3 hx => ee n' s₀' x s3 hx⟩ ⟨acc, cc, r, by simpa using I6⟩ q6
        cases f with
        | next =>
          obtain ⟨σ3, H3, I3, n3⟩ := hs
          obtain ⟨m', hm, w3⟩ := hN ys' σ3 H3 n3
          obtain ⟨I4, t4, f4⟩ := unp I3
          exact seg_again rfl (ih m' hm (i + 1) n' ys' s₀' s3 σ3 H3 hn' w3 I4 t4 f4)
        | cont =>
          obtain ⟨σ3, H3, I3, n3⟩ := hs
          obtain ⟨m', hm, w3⟩ := hN ys' σ3 H3 n3
          obtain ⟨I4, t4, f4⟩ := unp I3
          exact seg_again rfl (ih m' hm (i + 1) n' ys' s₀' s3 σ3 H3 hn' w3 I4 t4 f4)
        | brk =>
          obtain ⟨σ3, H3, I3, n3⟩ := hs
          exact seg_leaf (.ok .next) (k.ok n' ys' s₀' s3 .next hn' ⟨σ3, H3, (unp I3).1, n3⟩)
        | ret v =>
          obtain ⟨x3, σ3, H3, I3, r3, n3⟩ := hs
          exact seg_leaf (.ok (.ret v)) (k.ok n' ys' s₀' s3 (.ret v) hn' ⟨x3, σ3, H3, (unp I3).1, r3, n3⟩)
  exact loop m0 0 n ys s₀ s2 σ H2 hn w0 ⟨acc0, cc0, r0, I2⟩ st2 fun b hb => (f2 b hb).1
end

/-! mirrors of a generator's body: slot 0 holds what is out so far -/
def OkG (F : Fx) (G : Hp) (D : GEnds) : Oc → Prop
  | .nx (.ce false (.lst ys) :: e) => ∀ (σ' : L2.St) (G' H' : Hp) (vs : List V), Ext F.Pr G G' → SR F G' H' σ' e → RpL F.T G' ys vs → D.nx vs σ' H'
  | .bk (.ce false (.lst ys) :: e) => ∀ (σ' : L2.St) (G' H' : Hp) (vs : List V), Ext F.Pr G G' → SR F G' H' σ' e → RpL F.T G' ys vs → D.bk vs σ' H'
  | .ct (.ce false (.lst ys) :: e) => ∀ (σ' : L2.St) (G' H' : Hp) (vs : List V), Ext F.Pr G G' → SR F G' H' σ' e → RpL F.T G' ys vs → D.ct vs σ' H'
  | .rt (.d .non) (.ce false (.lst ys) :: e) => ∀ (σ' : L2.St) (G' H' : Hp) (vs : List V), Ext F.Pr G G' → SR F G' H' σ' e → RpL F.T G' ys vs → D.rt vs .non H'
  | _ => False
def isG : Env → Prop
  | .ce false (.lst _) :: _ => True
  | _ => False
def isGo : Oc → Prop
  | .nx e => isG e
  | .bk e => isG e
  | .ct e => isG e
  | .rt _ e => isG e
  | _ => True
def Shp (f : FS) : Prop := ∀ e, isG e → isGo (f e)
theorem isG_ex : ∀ {e : Env}, isG e → ∃ ys e', e = .ce false (.lst ys) :: e'
  | [], h => h.elim
  | .un :: _, h => h.elim
  | .va _ :: _, h => h.elim
  | .ce true _ :: _, h => h.elim
  | .ce false d :: e, h => by
    cases d with
    | lst ys => exact ⟨ys, e, rfl⟩
    | _ => exact h.elim
def SG (T : Tb) (X : Cx) (x : Stmt) (t : TGn) (f : FS) : Prop := GS X x t ∧ Shp f ∧ ∀ (Pr : Hp) (A : Nat → Option Addr) (G H : Hp) (σ : L2.St) (e : Env) (ys : List D) (vs : List V) (D : GEnds), SR ⟨T, Pr, A⟩ G H σ e → RpL T G ys vs → OkG ⟨T, Pr, A⟩ G D (f (.ce false (.lst ys) :: e)) → t D vs σ H
def SGs (T : Tb) (X : Cx) (x : List Stmt) (t : TGn) (f : FS) : Prop := GSs X x t ∧ Shp f ∧ ∀ (Pr : Hp) (A : Nat → Option Addr) (G H : Hp) (σ : L2.St) (e : Env) (ys : List D) (vs : List V) (D : GEnds), SR ⟨T, Pr, A⟩ G H σ e → RpL T G ys vs → OkG ⟨T, Pr, A⟩ G D (f (.ce false (.lst ys) :: e)) → t D vs σ H
/-- a plain statement's mirror beside slot 0 -/
def ups (s : Sl) : Oc → Oc
  | .nx e => .nx (s :: e)
  | .bk e => .bk (s :: e)
  | .ct e => .ct (s :: e)
  | .rt p e => .rt p (s :: e)
  | _ => .no
def fUp (f : FS) : FS
  | s :: e => ups s (f e)
  | [] => .no
def gUp (g : D → Env → Option Env) (d : D) : Env → Option Env
  | s :: e => (g d e).map (s :: ·)
  | [] => none
def fYield (fe : FE) : FS
  | .ce false (.lst ys) :: e => if ys.length < sizeLine then toS (fe e) fun (p, e1) => toS (settle e1 p) fun (d, e2) => .nx (.ce false (.lst (ys ++ [d])) :: e2) else .no
  | _ => .no
def fForG (g : D → Env → Option Env) (fi : Env → R (List D × Env)) (b : FS) : FS
  | s :: e => toS (fi e) fun (items, e1) => loop (gUp g) b items (s :: e1)
  | [] => .no
section
variable {T : Tb} {W : WX} {X : Cx} {F : Fx} {G G1 H : Hp} {σ : L2.St} {e e1 : Env} {D0 : GEnds} {pos : Pos} {x : Stmt} {r : List Stmt}
theorem OkG.ext {o : Oc} (x : Ext F.Pr G G1) (h : OkG F G D0 o) : OkG F G1 D0 o := by
  unfold OkG at h ⊢
  split at h
  · exact fun σ' G' H' vs x' => h σ' G' H' vs (x.trans x')
  · exact fun σ' G' H' vs x' => h σ' G' H' vs (x.trans x')
  · exact fun σ' G' H' vs x' => h σ' G' H' vs (x.trans x')
  · exact fun σ' G' H' vs x' => h σ' G' H' vs (x.trans x')
  · exact h.elim
theorem OkG.first {α β : Type} {Q1 : β → Hp → Prop} {rel1 : Hp → Hp → Env → α → β → Prop} {r : R (α × Env)} {k : α × Env → Oc}
    (h : OkG F G D0 (toS r k)) (hk : ∀ a e1 v G1 H1, Ext F.Pr G G1 → SR F G1 H1 σ e1 → rel1 G1 H1 e1 a v → OkG F G1 D0 (k (a, e1)) → Q1 v H1) : OkE F W σ G Q1 rel1 r := by
  cases r with
  | ok a => obtain ⟨a, e'⟩ := a; exact fun v G' H' x' s q => hk a e' v G' H' x' s q (h.ext x')
  | ex c d e' => exact h.elim
  | no => exact h.elim
theorem okg_up {ys : List D} {vs : List V} {o : Oc} (r : RpL F.T G ys vs) (h : OkG F G D0 (ups (.ce false (.lst ys)) o)) : OkS F W G (D0.at vs) o := by
  cases o with
  | nx e' => exact fun σ' G' H' x' s' => h σ' G' H' vs x' s' (RpL.mono x'.1 _ _ r)
  | bk e' => exact fun σ' G' H' x' s' => h σ' G' H' vs x' s' (RpL.mono x'.1 _ _ r)
  | ct e' => exact fun σ' G' H' x' s' => h σ' G' H' vs x' s' (RpL.mono x'.1 _ _ r)
  | rt p e' =>
    cases p with
    | d d =>
      cases d with
      | non =>
        intro σ' v G' H' x' s' q
        have q : Rp F.T G' .non v := q
        simp only [Rp] at q
        subst q
        exact h σ' G' H' vs x' s' (RpL.mono x'.1 _ _ r)
      | _ => exact h.elim
    | _ => exact h.elim
  | ex c d e' => exact h.elim
  | no => exact h.elim
theorem shp_up {f : FS} : Shp (fUp f) := fun e h => by
  obtain ⟨ys, e', rfl⟩ := isG_ex h
  show isGo (ups _ (f e'))
  cases f e' <;> exact trivial
theorem sg_ps {t : TS} {f : FS} (h : SS T W X x t f) : SG T X x (tPlain t) (fUp f) :=
  ⟨gs_ps h.1, shp_up, fun Pr A G H σ e ys vs D s r q => h.2 Pr A G H σ e _ s (okg_up r q)⟩
theorem sgs_pss {t : TS} {f : FS} (h : SSs T W X r t f) : SGs T X r (tPlain t) (fUp f) :=
  ⟨gss_pss h.1, shp_up, fun Pr A G H σ e ys vs D s r q => h.2 Pr A G H σ e _ s (okg_up r q)⟩
theorem sgs_nil : SGs T X [] tG0 fSkip := ⟨gss_nil, fun e h => h, fun Pr A G H σ e ys vs D s r q => q σ G H vs Ext.refl s r⟩
theorem sgs_cons {t u : TGn} {f g : FS} (h1 : SG T X x t f) (h2 : SGs T X r u g) : SGs T X (x :: r) (tGThen t u) (fSeq f g) := by
  refine ⟨gss_cons h1.1 h2.1, fun e he => ?_, fun Pr A G H σ e ys vs D s r h => ?_⟩
  · have q := h1.2.1 e he
    unfold fSeq
    revert q
    cases f e with
    | nx e1 => exact fun q => h2.2.1 e1 q
    | bk e1 => exact fun q => q
    | ct e1 => exact fun q => q
    | rt p e1 => exact fun q => q
    | ex c d e1 => exact fun _ => trivial
    | no => exact fun _ => trivial
  refine h1.2.2 Pr A G H σ e ys vs _ s r ?_
  have sh := h1.2.1 (.ce false (.lst ys) :: e) trivial
  unfold fSeq at h
  revert h sh
  cases f (.ce false (.lst ys) :: e) with
  | nx e1 =>
    intro h sh
    obtain ⟨ys', e', rfl⟩ := isG_ex sh
    exact fun σ' G' H' vs' x' s' r' => h2.2.2 Pr A G' H' σ' e' ys' vs' D s' r' (OkG.ext x' h)
  | bk e1 =>
    intro h sh
    obtain ⟨ys', e', rfl⟩ := isG_ex sh
    exact h
  | ct e1 =>
    intro h sh
    obtain ⟨ys', e', rfl⟩ := isG_ex sh
    exact h
  | rt p e1 =>
    intro h sh
    obtain ⟨ys', e', rfl⟩ := isG_ex sh
    cases p with
    | d d =>
      cases d with
      | non => exact h
      | _ => exact h.elim
    | _ => exact h.elim
  | ex c d e1 => exact fun h _ => h
  | no => exact fun h _ => h
theorem sg_yield {x : Expr} {yp : Pos} {te : TE} {fe : FE} (he : SE T W X x te fe) (hco : X.env.scope.isCoroutine = false := by rfl) (hi : interactive X.env = false := by rfl) : SG T X (.Expr (.Yield (some x) yp) pos) (tGYield te) (fYield fe) := by
  refine ⟨gs_yield he.1 hco hi, fun e h => ?_, fun Pr A G H σ e ys vs D s r h => ?_⟩
  · obtain ⟨ys, e', rfl⟩ := isG_ex h
    unfold fYield
    dsimp only
    split
    · cases fe e' with
      | ok a =>
        obtain ⟨p, e1⟩ := a
        simp only [toS]
        cases settle e1 p with
        | ok b => exact trivial
        | ex c d e2 => exact trivial
        | no => exact trivial
      | ex c d e2 => exact trivial
      | no => exact trivial
    · exact trivial
  · unfold fYield at h
    dsimp only at h
    split at h
    · rename_i hlt
      refine ⟨by rw [RpL.length r]; exact hlt, ?_⟩
      refine he.2 Pr A G H σ e _ s (h.first fun p1 e1 v1 G1 H1 x1 s1 q1 h1 => ?_)
      dsimp only at h1
      cases l1 : settle e1 p1 with
      | ex c d e2 => exact absurd l1 settle_nx
      | no => rw [l1] at h1; exact h1.elim
      | ok b =>
        obtain ⟨d, e2⟩ := b
        rw [l1] at h1
        obtain ⟨G2, x2, s2, r2⟩ := settle_ok s1 q1 l1
        exact h1 σ G2 H1 (vs ++ [v1]) x2 s2 (RpL.append (RpL.mono (x1.1.trans x2.1) _ _ r) (by simp only [RpL]; exact ⟨v1, [], rfl, r2, rfl⟩))
    · exact h.elim
theorem shp_loop {g : D → Env → Option Env} {b : FS} (hb : Shp b) : ∀ (items : List D) (e : Env), isG e → isGo (loop (gUp g) b items e)
  | [], e, h => h
  | d :: r, e, h => by
    obtain ⟨ys, e', rfl⟩ := isG_ex h
    unfold loop
    show isGo (match (g d e').map (Sl.ce false (.lst ys) :: ·) with | none => .no | some e1 => _)
    cases g d e' with
    | none => exact trivial
    | some e1 =>
      have q := hb (Sl.ce false (.lst ys) :: e1) trivial
      dsimp only [Option.map]
      cases hq : b (Sl.ce false (.lst ys) :: e1) with
      | nx e2 => rw [hq] at q; exact shp_loop hb r e2 q
      | ct e2 => rw [hq] at q; exact shp_loop hb r e2 q
      | bk e2 => rw [hq] at q; exact q
      | rt p e2 => rw [hq] at q; exact q
      | ex c d e2 => exact trivial
      | no => exact trivial
theorem sg_for {tg it : Expr} {body : List Stmt} {wi : TI} {t : TG} {is : List Nat} {tb : TGn} {g fi fb} (hp : PassesOwn (model X.prog X.w) X.A X.env X.xe) (hc : X.calm = true) (hi : SI T W X tg it wi fi) (hg : STg T X tg t is g) (hb : SGs T X body tb fb)
    (hs : ∀ x, foldedSetIterable it X.env x = pure x := by intro _; rfl) : SG T X (.For tg it body [] pos) (tGFor wi t tb) (fForG g fi fb) := by
  obtain ⟨pi, qi⟩ := hi
  obtain ⟨pg, qg⟩ := hg
  obtain ⟨pb, sb, qb⟩ := hb
  refine ⟨gs_for hp hc pi pg pb hs, fun e h => ?_, fun Pr A G H σ e ys vs D s r h => ?_⟩
  · obtain ⟨ys, e', rfl⟩ := isG_ex h
    show isGo (toS (fi e') fun (items, e1) => loop (gUp g) fb items (.ce false (.lst ys) :: e1))
    cases fi e' with
    | ok a => obtain ⟨items, e1⟩ := a; exact shp_loop sb items (.ce false (.lst ys) :: e1) trivial
    | ex c d e2 => exact trivial
    | no => exact trivial
  refine qi Pr A G H σ e _ s ((show OkG _ G D (toS (fi e) _) from h).first fun items e1 J G1 H1 x1 s1 rep h1 => ?_)
  dsimp only at h1
  refine ⟨fun i m vs σ H => m = items.length - i ∧ i ≤ items.length ∧ ∃ G2 e2 ys, Ext Pr G1 G2 ∧ SR ⟨T, Pr, A⟩ G2 H σ e2 ∧ RpL T G2 ys vs ∧ OkG ⟨T, Pr, A⟩ G2 D (loop (gUp g) fb (items.drop i) (.ce false (.lst ys) :: e2)), ⟨_, rfl, Nat.zero_le _, G1, e1, ys, Ext.refl, s1, RpL.mono x1.1 _ _ r, h1⟩, ?_⟩
  rintro i m vs σ H ⟨rfl, hi, G2, e2, ys, x2, s2, r2, h2⟩
  by_cases hlt : i < items.length
  · refine .inr ?_
    have hd : items[i]? = some items[i] := List.getElem?_eq_getElem hlt
    have ed : items.drop i = items[i] :: items.drop (i + 1) := List.drop_eq_getElem_cons hlt
    rw [ed] at h2
    unfold loop at h2
    obtain ⟨go, yl⟩ := (rep G2 H i x2.1 s2.sub).1 _ hd
    refine ⟨go, fun vs' σ' H' => ∃ G3 e3 ys3, Ext Pr G1 G3 ∧ SR ⟨T, Pr, A⟩ G3 H' σ' e3 ∧ RpL T G3 ys3 vs' ∧ OkG ⟨T, Pr, A⟩ G3 D (loop (gUp g) fb (items.drop (i + 1)) (.ce false (.lst ys3) :: e3)), fun vs' σ' H' ⟨G3, e3, ys3, x3, s3, r3, h3⟩ => ⟨_, by omega, rfl, hlt, G3, e3, ys3, x3, s3, r3, h3⟩, fun x H3 y => ?_⟩
    obtain ⟨G3, x3, s3, r3⟩ := yr_done s2 (yl x H3 y)
    cases h4 : g items[i] e2 with
    | none =>
      exfalso
      rw [show gUp g items[i] (.ce false (.lst ys) :: e2) = none by show (g items[i] e2).map _ = none; rw [h4]; rfl] at h2
      exact h2
    | some e4 =>
      rw [show gUp g items[i] (.ce false (.lst ys) :: e2) = some (.ce false (.lst ys) :: e4) by show (g items[i] e2).map _ = _; rw [h4]; rfl] at h2
      refine qg Pr A G3 H3 σ e2 e4 _ x _ s3 r3 h4 fun σ4 s4 _ _ => ?_
      refine qb Pr A G3 H3 σ4 e4 ys vs _ s4 (RpL.mono x3.1 _ _ r2) ?_
      have h5 := OkG.ext x3 h2
      have sh := sb (.ce false (.lst ys) :: e4) trivial
      dsimp only at h5
      revert h5 sh
      cases fb (.ce false (.lst ys) :: e4) with
      | nx e5 =>
        intro h5 sh
        obtain ⟨ys5, e5, rfl⟩ := isG_ex sh
        exact fun σ5 G5 H5 vs5 x5 s5 r5 => ⟨G5, e5, ys5, (x2.trans x3).trans x5, s5, r5, OkG.ext x5 h5⟩
      | ct e5 =>
        intro h5 sh
        obtain ⟨ys5, e5, rfl⟩ := isG_ex sh
        exact fun σ5 G5 H5 vs5 x5 s5 r5 => ⟨G5, e5, ys5, (x2.trans x3).trans x5, s5, r5, OkG.ext x5 h5⟩
      | bk e5 =>
        intro h5 sh
        obtain ⟨ys5, e5, rfl⟩ := isG_ex sh
        exact h5
      | rt p e5 =>
        intro h5 sh
        obtain ⟨ys5, e5, rfl⟩ := isG_ex sh
        cases p with
        | d d =>
          cases d with
          | non => exact h5
          | _ => exact h5.elim
        | _ => exact h5.elim
      | ex c d e5 => exact fun h5 _ => h5
      | no => exact fun h5 _ => h5
  · have ei : i = items.length := by omega
    subst ei
    refine .inl ⟨(rep G2 H _ x2.1 s2.sub).2 (Nat.le_refl _), ?_⟩
    rw [List.drop_length] at h2
    exact h2 σ G2 H vs Ext.refl s2 r2
end

/-! ### the def -/
def spG (T : Tb) (n : Nat) (m : List D → Option (List D)) : SpG := fun vs H cont E => vs.length = n ∧ ∃ (G : Hp) (ds : List D), Sub G H ∧ RpL T G ds vs ∧ ∃ ys, m ds = some ys ∧
  ∀ (G' H' : Hp) (out : List V) (s' : List Sl), Aft T G H vs (ds.map Sl.va) s' G' H' → RpL T G' ys out → cont out H'
def outG : Oc → Option (List D)
  | .nx (.ce false (.lst ys) :: _) => some ys
  | .rt (.d .non) (.ce false (.lst ys) :: _) => some ys
  | _ => none
def mGen (n : Nat) (fb : FS) : List D → Option (List D) := fun ds => outG (fb (.ce false (.lst []) :: (ds.map Sl.va ++ List.replicate (n - ds.length) .un)))
theorem gt_mva : ∀ (ds : List D) (i : Nat), gt (ds.map Sl.va) i = match ds[i]? with | some d => .va d | none => .un
  | [], i => by cases i <;> rfl
  | d :: ds, 0 => rfl
  | d :: ds, i + 1 => gt_mva ds i
section
variable {P : Program} {w : World} {K : PySem.W.Frag} {mg : Str → Option Value} {base : Heap} {T : Tb}
theorem gfn_ok {x qual : Str} {sd : Stmt} {f : Addr} {fd : FuncData} {N ps : List Str} {k : Nat} {fb : FS} (F : Fun K x qual sd f fd) (S : GScope N ps (defScope sd))
    (hb : ∀ (cdv : Value) (A : Around) (outer : List PySem.Env) (s : Shared) (H : Hp) (E : XK) (pn : List (Addr × Obj)), Room k (A.deeper (envOfC qual (defScope sd) s.heap.objs.size f cdv)) →
      ∃ t, SGs T (gcxOf P w K mg base N qual (defScope sd) f cdv A outer s H E pn) (defBody sd) t fb) :
    GFn P w K mg base (k + 1) f fd ps (spG T ps.length (mGen N.length fb)) := by
  obtain ⟨oc, od, kV, doc, pm, an, cdv, ct, osl, rfl, lk, hcode⟩ := F.ex
  refine gfn_of lk hcode S (fun vs H Q E h => h.1) fun A outer s H vs Q E pn hr ⟨hl, G, ds, sub, rp, ys, hm, h⟩ => ?_
  obtain ⟨t, p, sh, q⟩ := hb cdv A outer s H E pn hr
  refine ⟨t, p, ?_⟩
  have hpl : ps.length ≤ N.length := by have := congrArg List.length S.pre; rw [List.length_take] at this; omega
  have hdl : vs.length = ds.length := RpL.length rp
  have nce : ∀ {i : Nat} {b : Bool} {d : D}, gt (ds.map Sl.va) i ≠ .ce b d := fun {i b d} z => by
    rw [gt_mva] at z
    cases y : ds[i]? with
    | none => rw [y] at z; cases z
    | some d => rw [y] at z; cases z
  have s0 : SR ⟨T, H, fun _ => none⟩ G H (L2.start N vs) (ds.map Sl.va ++ List.replicate (N.length - ds.length) .un) := by
    refine ⟨Sub.refl, sub, ?_, fun i d z => ?_, fun i b d z => ?_, fun i j b d b' d' p z1 z2 y1 y2 => ?_⟩
    · unfold L2.start
      simp only [List.length_append, List.length_replicate, List.length_map]
      omega
    · rw [gt_app_un, gt_mva] at z
      cases y : ds[i]? with
      | none => rw [y] at z; cases z
      | some d' =>
        rw [y] at z; cases z
        obtain ⟨v, h1, h2⟩ := rp.get y
        refine ⟨v, ?_, h2⟩
        unfold L2.start
        have hi : i < vs.length := (List.getElem?_eq_some_iff.mp h1).1
        rw [List.getElem?_append_left (by simpa using hi), List.getElem?_map, h1]; rfl
    · rw [gt_app_un] at z; exact absurd z nce
    · rw [gt_app_un] at z1; exact absurd z1 nce
  refine q H (fun _ => none) G H (L2.start N vs) _ [] [] _ s0 RpL.nil ?_
  have aft : ∀ {e : Env} {σ' : L2.St} {G' H' : Hp}, Ext H G G' → SR ⟨T, H, fun _ => none⟩ G' H' σ' e → Aft T G H vs (ds.map Sl.va) [] G' H' := fun {e σ' G' H'} x s1 =>
    ⟨⟨x.1, x.2⟩, fun a o z _ => s1.prot a o z, s1.sub, fun i d z => absurd z nce⟩
  unfold mGen at hm
  have hs := sh (.ce false (.lst []) :: (ds.map Sl.va ++ List.replicate (N.length - ds.length) .un)) trivial
  revert hm hs
  cases fb (.ce false (.lst []) :: (ds.map Sl.va ++ List.replicate (N.length - ds.length) .un)) with
  | nx e =>
    intro hm hs
    obtain ⟨ys', e', rfl⟩ := isG_ex hs
    cases hm
    exact fun σ' G' H' vs' x s1 r1 => h G' H' vs' [] (aft x s1) r1
  | rt p e =>
    intro hm hs
    obtain ⟨ys', e', rfl⟩ := isG_ex hs
    cases p with
    | d d =>
      cases d with
      | non =>
        cases hm
        exact fun σ' G' H' vs' x s1 r1 => ⟨rfl, h G' H' vs' [] (aft x s1) r1⟩
      | _ => cases hm
    | _ => cases hm
  | bk e => intro hm; cases hm
  | ct e => intro hm; cases hm
  | ex c d e => intro hm; cases hm
  | no => intro hm; cases hm
end

/-! ### list(f(..)) -/
def fListG (m : List D → Option (List D)) (fa : FA) : FE := fun e => do
  let (ps, e1) ← fa e
  let (ds, e2) ← settleL e1 ps
  match m ds with
  | some ys => .ok (.nw (.lst ys), e2)
  | none => .no
section
variable {T : Tb} {W : WX} {X : Cx}
theorem se_listG {f : Addr} {fd : FuncData} {ps : List Str} {k : Nat} {x nm : Str} {p p' pos pos' : Pos} {a : Expr} {es : List Expr} {ta : TA} {fa : FA} {m : List D → Option (List D)} {n : Nat}
    (Fn : GFn X.prog X.w X.K X.mg X.base k f fd ps (spG T n m)) (hr : Room (k + 3) X.A) (hg : Gl X x) (hm : X.mg x = some (.ref f)) (hk : PySem.W.keepIn X.K (.ref f) = true) (hb : Binds X.K fd ps [])
    (hgl : Gl X nm) (hml : X.mg nm = none) (hvl : bootBuiltins nm = some (.type "list"))
    (ha : SA T W X (a :: es) ta fa) (hz : Ar fa n) (hnm : nm ≠ "__name__" := by decide) (hdbl : (nm == ("__debug__" : Str)) = false := by decide) (hdb : (x == ("__debug__" : Str)) = false := by decide)
    (he : starEach (a :: es) X.env = (false, eval a X.env) :: starEach es X.env := by rfl) (hpl : (backTo pos' (starEach es X.env)).any (·.1) = false := by rfl)
    (hel : starEach [.Call (.Name x p') (a :: es) [] pos'] X.env = (false, eval (.Call (.Name x p') (a :: es) [] pos') X.env) :: starEach [] X.env := by rfl) :
    SE T W X (.Call (.Name nm p) [.Call (.Name x p') (a :: es) [] pos'] [] pos) (tListG (L2.tCallG (spG T n m) [] (fun _ _ _ => False) ta)) (fListG m fa) := by
  have hk3 : Room k X.A := hr.mono (by omega)
  have hx : Passes (CX X.prog X.w) X (fun _ _ _ => False) := fun pins σ H s e s' _ c => by
    obtain ⟨_, _, _, _, _, _, _, _, _, _, _, _, y⟩ := c
    exact y.elim
  refine ⟨pe_listG (E := fun _ _ _ => False) (pgen_call Fn hk3 hg hm hk hb .nil ha.1 hdb he hpl) hx (fun _ _ _ z => z.elim) hr hgl hml hvl hnm hdbl hel, fun Pr A G H σ e Q s h => ?_⟩
  refine ha.2 Pr A G H σ e _ s ?_
  cases q0 : fa e with
  | no => unfold fListG at h; rw [q0] at h; exact h
  | ex c d e' => unfold fListG at h; rw [q0] at h; exact h
  | ok b =>
    obtain ⟨pvs, e1⟩ := b
    intro vs G1 H1 x1 s1 q1
    unfold fListG at h
    rw [q0] at h
    simp only [R.bind_ok] at h
    have h := h.ext x1
    obtain ⟨⟨ds, e2⟩, l1, h2⟩ := no_of (fun _ _ _ => settleL_nx) h
    obtain ⟨G2, x2, s2, q2⟩ := settleL_ok s1 q1 l1
    have h4 := h2.ext x2
    dsimp only at h4
    have hN := hz _ _ _ q0
    refine ⟨by rw [List.append_nil, PVL.length q1]; exact hN, G2, ds, s2.sub, by rw [List.append_nil]; exact q2, ?_⟩
    revert h4
    cases m ds with
    | none => exact fun h => h.elim
    | some ys =>
      intro h4
      refine ⟨ys, rfl, fun G' H' out s' a r => ?_⟩
      rw [List.append_nil] at a
      obtain ⟨xx, ss⟩ := call_aft (ps := []) (vs := []) (sls := []) s2 rfl rfl a
      rw [upds_nil] at ss
      intro p hp
      obtain ⟨f1, f2, f3⟩ := ss.fresh hp
      exact h4 (.ref p) G' _ xx (ss.grow (Sub.new hp)) ⟨p, rfl, f1, f2, f3, out, upd_same, r⟩
end
end DL
set_option Elab.async false
set_option linter.all false
set_option maxRecDepth 100000
set_option maxHeartbeats 4000000
/-! weakest preconditions of generators' mirrors -/
namespace DL
open PySem PySem.Spec PyProof.Rows L2
section
variable {X : XP} {e e1 e2 e' : Env} {s : Sl} {N B C : Env → Prop} {Rt : PV → Env → Prop} {b f : FS} {g : D → Env → Option Env} {fe : FE} {gs : FA} {ys ds : List D} {ps : List PV}
theorem ws_up (h : WPS (f e) (fun e1 => N (s :: e1)) (fun p e1 => Rt p (s :: e1)) (fun e1 => B (s :: e1)) (fun e1 => C (s :: e1)) XF) : WPS (fUp f (s :: e)) N Rt B C X := by
  show WPS (ups s (f e)) N Rt B C X
  revert h
  cases f e with
  | nx e => exact fun h => ⟨h.out⟩
  | bk e => exact fun h => ⟨h.out⟩
  | ct e => exact fun h => ⟨h.out⟩
  | rt p e => exact fun h => ⟨h.out⟩
  | ex c d e => exact fun h => h.out.elim
  | no => exact fun h => h.out.elim
def WYl (ys : List D) (N : Env → Prop) (d : D) (e : Env) : Prop := ys.length < sizeLine ∧ N (.ce false (.lst (ys ++ [d])) :: e)
theorem wyl {d : D} (h : ys.length < sizeLine) (k : N (.ce false (.lst (ys ++ [d])) :: e)) : WYl ys N d e := ⟨h, k⟩
theorem ws_yield (hl : ys.length < sizeLine) (h : WPE (fe e) (fun p e1 => WPE (settle e1 p) (fun d e2 => N (.ce false (.lst (ys ++ [d])) :: e2)) X) X) : WPS (fYield fe (.ce false (.lst ys) :: e)) N Rt B C X := by
  show WPS (if ys.length < sizeLine then toS (fe e) fun (p, e1) => toS (settle e1 p) fun (d, e2) => .nx (.ce false (.lst (ys ++ [d])) :: e2) else .no) N Rt B C X
  rw [if_pos hl]
  exact ws_to (h.mono (fun p e1 h => ws_to (h.mono (fun d e2 h => ⟨h⟩) fun _ _ _ h => h)) fun _ _ _ h => h)
theorem ws_forG {fi : Env → R (List D × Env)} (h : WPE (fi e) (fun items e1 => WPS (loop (gUp g) b items (s :: e1)) N Rt B C X) X) : WPS (fForG g fi b (s :: e)) N Rt B C X := by
  show WPS (toS (fi e) fun (items, e1) => loop (gUp g) b items (s :: e1)) N Rt B C X
  exact ws_to h
theorem wo_up {d : D} {K : Env → Prop} (h : WO (g d e) fun e1 => K (s :: e1)) : WO (gUp g d (s :: e)) K := by
  obtain ⟨e1, h1, h2⟩ := h
  exact ⟨s :: e1, by show (g d e).map _ = _; rw [h1]; rfl, h2⟩
theorem mgen_eq {n : Nat} (h : WPS (b (.ce false (.lst []) :: (ds.map Sl.va ++ List.replicate (n - ds.length) .un))) (fun e => ∃ e', e = .ce false (.lst ys) :: e') (fun p e => p = .d .non ∧ ∃ e', e = .ce false (.lst ys) :: e') (fun _ => False) (fun _ => False) XF) : mGen n b ds = some ys := by
  unfold mGen
  revert h
  cases b (.ce false (.lst []) :: (ds.map Sl.va ++ List.replicate (n - ds.length) .un)) with
  | nx e => rintro ⟨e', rfl⟩; rfl
  | rt p e => rintro ⟨rfl, e', rfl⟩; rfl
  | bk e => exact fun h => h.out.elim
  | ct e => exact fun h => h.out.elim
  | ex c d e => exact fun h => h.out.elim
  | no => exact fun h => h.out.elim
def WLG (m : List D → Option (List D)) (ps : List PV) (e : Env) (Q : PV → Env → Prop) : Prop := ∃ ds e2 ys, settleL e ps = .ok (ds, e2) ∧ m ds = some ys ∧ Q (.nw (.lst ys)) e2
theorem wlg {m : List D → Option (List D)} {Q : PV → Env → Prop} (h1 : settleL e ps = .ok (ds, e2)) (h2 : m ds = some ys) (k : Q (.nw (.lst ys)) e2) : WLG m ps e Q := ⟨ds, e2, ys, h1, h2, k⟩
theorem we_listG {m : List D → Option (List D)} {Q : PV → Env → Prop} (h : WPE (gs e) (fun ps e1 => WLG m ps e1 Q) X) : WPE (fListG m gs e) Q X := by
  unfold fListG
  refine WPE.bind (h.mono (fun ps e1 h => ?_) fun _ _ _ h => h)
  obtain ⟨ds, e2, ys, h1, h2, h3⟩ := h
  simp only [h1, R.bind_ok, h2]
  exact ⟨h3⟩
theorem ed_listG {m : List D → Option (List D)} (h : EL gs e ds) (hs : ∃ ps, gs e = .ok (ps, e) ∧ settleL e ps = .ok (ds, e)) (h2 : m ds = some ys) : ED (fListG m gs) e (.lst ys) := by
  obtain ⟨ps, h3, h4⟩ := hs
  refine ⟨.nw (.lst ys), ?_, rfl, rfl⟩
  unfold fListG
  simp only [h3, R.bind_ok, h4, h2]
end
end DL
set_option Elab.async false
set_option linter.all false
set_option maxRecDepth 100000
set_option maxHeartbeats 4000000
/-! list(range(..)); x[::-1] of texts and lists -/
namespace DL
open PySem PySem.Spec PyProof.Rows L2
section
variable {T : Tb} {W : WX} {X : Cx} {G H : Hp}
theorem rgV_rp0 : ∀ (n : Nat) (a : Int), RpL T G (rngs a n) ((List.range n).map fun i => V.int (a + (i : Nat)))
  | 0, a => RpL.nil
  | n + 1, a => by
    rw [List.range_succ_eq_map, List.map_cons, List.map_map]
    refine RpL.cons (by simp only [Rp]; congr 1; omega) ?_
    have h := rgV_rp0 n (a + 1)
    have e : ((fun i : Nat => V.int (a + (i : Nat))) ∘ Nat.succ) = fun i : Nat => V.int (a + 1 + (i : Nat)) := by
      funext i
      simp only [Function.comp]
      congr 1
      omega
    rw [e]; exact h
theorem rgV_rp (a b : Int) : RpL T G (rngs a (b - a).toNat) (rgV a b) := rgV_rp0 _ a
@[simp] def oRgL1 : D → Option RV
  | .int j => if -1000000 ≤ j ∧ j ≤ 1000000 then some (.ls (rngs 0 j.toNat)) else none
  | _ => none
@[simp] def oRgL2 : D → D → Option RV
  | .int i, .int j => if (-1000000 ≤ i ∧ i ≤ 1000000) ∧ (-1000000 ≤ j ∧ j ≤ 1000000) then some (.ls (rngs i (j - i).toNat)) else none
  | _, _ => none
abbrev rRgL1 : V → Hp → VK → Prop := fun x H1 Q => ∃ n, x = .int n ∧ RgOk 0 n ∧ ∀ q, H1 q = none → Q (.ref q) (upd H1 q (.lst (rgV 0 n)))
abbrev rRgL2 : R2 := fun x y H1 Q => ∃ i j, x = .int i ∧ y = .int j ∧ RgOk i j ∧ ∀ q, H1 q = none → Q (.ref q) (upd H1 q (.lst (rgV i j)))
theorem d_rgL1 : UnD T rRgL1 oRgL1 := by
  intro G H v d rv Q sub p ho q
  unfold oRgL1 at ho
  split at ho
  · rename_i j
    split at ho
    · rename_i hj
      cases ho
      refine ⟨j, pk_int p, ⟨by omega, by omega, by omega, by omega, by omega⟩, fun a ha => q a _ ha ?_⟩
      have := rgV_rp (T := T) (G := G) 0 j
      rw [Int.sub_zero] at this
      exact this
    · cases ho
  · cases ho
theorem d_rgL2 : OpD T rRgL2 oRgL2 := by
  intro G H x y dx dy rv Q sub px py ho q
  unfold oRgL2 at ho
  split at ho
  · rename_i i j
    split at ho
    · rename_i hj
      cases ho
      exact ⟨i, j, pk_int px, pk_int py, ⟨by omega, by omega, by omega, by omega, by omega⟩, fun a ha => q a _ ha (rgV_rp i j)⟩
    · cases ho
  · cases ho
theorem se_listRg1 {a : Expr} {ta : TE} {fa : FE} {p p2 pos pos2 : Pos} (hc : X.calm = true) (hl : Gl X "list") (hml : X.mg "list" = none) (hg : Gl X "range") (hm : X.mg "range" = none) (ha : SE T W X a ta fa)
    (na : starEach [a] X.env = (false, eval a X.env) :: starEach [] X.env := by rfl)
    (nb : starEach [.Call (.Name "range" p2) [a] [] pos2] X.env = (false, eval (.Call (.Name "range" p2) [a] [] pos2) X.env) :: starEach [] X.env := by rfl) :
    SE T W X (.Call (.Name "list" p) [.Call (.Name "range" p2) [a] [] pos2] [] pos) (tUn rRgL1 ta) (fUn oRgL1 fa) :=
  se_un (fun _ h => pe_listRg hc hl hml (prg_1 hg hm h na) nb) d_rgL1 ha
theorem se_listRg2 {a b : Expr} {ta tb : TE} {fa fb : FE} {p p2 pos pos2 : Pos} (hc : X.calm = true) (hl : Gl X "list") (hml : X.mg "list" = none) (hg : Gl X "range") (hm : X.mg "range" = none) (ha : SE T W X a ta fa) (hb : SE T W X b tb fb)
    (na : starEach [a, b] X.env = (false, eval a X.env) :: starEach [b] X.env := by rfl) (na2 : starEach [b] X.env = (false, eval b X.env) :: starEach [] X.env := by rfl)
    (np : (backTo pos2 (starEach [b] X.env)).any (·.1) = false := by rfl)
    (nb : starEach [.Call (.Name "range" p2) [a, b] [] pos2] X.env = (false, eval (.Call (.Name "range" p2) [a, b] [] pos2) X.env) :: starEach [] X.env := by rfl) :
    SE T W X (.Call (.Name "list" p) [.Call (.Name "range" p2) [a, b] [] pos2] [] pos) (tOp rRgL2 ta tb) (fBin oRgL2 fa fb) :=
  se_bin (fun _ _ h h2 => pe_listRg hc hl hml (prg_2 hg hm h h2 na na2 np) nb) d_rgL2 ha hb
/-! ### x[::-1] -/
abbrev rRevT : V → Hp → VK → Prop := fun x H1 Q => ∃ z : Str, x = .str z ∧ z.length ≤ sizeLine ∧ Q (.str ⟨z.cps.toList.reverse.toArray⟩) H1
abbrev rRevB (K : PySem.W.Frag) : V → Hp → VK → Prop := fun x H1 Q => rRev K x H1 Q ∨ rRevT x H1 Q
theorem pick_rev (z : Str) : ((Builtin.Str.strSliceIndices none none (-1) z.length).filterMap (z.cps[·]?)).toArray = z.cps.toList.reverse.toArray := by
  have e : Builtin.Str.strSliceIndices none none (-1) z.length = sliceRange ((z.cps.size : Int) - 1) (-1) (-1) := rfl
  rw [e, PySem.W.krv_sliceRange, PySem.W.krv_range, List.filterMap_reverse, PySem.W.krv_all]
section
variable {e : Expr} {te : TE} {k : Nat} {p1 p2 p3 pos : Pos}
theorem pe_revB (he : PE X e te) : PE X (.Subscript e (.Slice none none (some (.UnaryOp .USub (.Constant (.int 1) k p1) p2)) p3) pos) (tUn (rRevB X.K) te) := by
  have hst : PO X (some (.UnaryOp .USub (.Constant (.int 1) k p1) p2)) (tPart (tUn (rU fun i => .int (-i)) (tC (.int 1)))) :=
    po_some (pe_un un_neg pe_int)
  refine ⟨fun pins s σ H Q I h => Subscript_ (thn (he.run pins s σ H _ I h) fun v s1 ⟨x, H1, I1, r1, q1⟩ => ?_)⟩
  refine wpAny_Slice (thn (po_none.run pins s1 σ H1 (fun o K2 => o = none ∧ K2 = H1) I1 ⟨rfl, rfl⟩) ?_)
  rintro vl s2 ⟨l, H2, I2, pl, rfl, rfl⟩
  refine thn (po_none.run pins s2 σ H2 (fun o K3 => o = none ∧ K3 = H2) I2 ⟨rfl, rfl⟩) ?_
  rintro vu s3 ⟨u, H3, I3, pu, rfl, rfl⟩
  refine thn (hst.run pins s3 σ H3 (fun o K4 => o = some (-1) ∧ K4 = H3) I3 ⟨1, rfl, -1, rfl, rfl, rfl⟩) ?_
  rintro vs s4 ⟨o, H4, I4, ps, rfl, rfl⟩
  generalize hs5 : ({ s4 with heap := s4.heap.push { cls := .type "slice", data := .fields #[vl, vu, vs] } } : Shared) = s5
  have I5 : Inv X pins σ H4 s5 := by
    subst hs5
    exact I4.kept (t' := s4.toks) fun b ob q => Heap.get?_push_of_some _ q
  have hsl : s5.heap.get? s4.heap.objs.size = some { cls := .type "slice", data := .fields #[vl, vu, vs] } := by
    subst hs5
    exact Heap.get?_push_size _ rfl
  have hnew : ∀ b ob, s5.heap.get? b = some ob → b < s5.heap.objs.size := fun b ob q => Heap.lt_size q
  rcases q1 with ⟨a, xs, rfl, hx, q⟩ | ⟨z, rfl, hz, q⟩
  · cases r1
    obtain ⟨its, r, ht, hz⟩ := I5.list hx
    have hlen := r.length
    show wpAny (model X.prog X.w) X.A (subscriptTail e (.Slice none none (some (.UnaryOp .USub (.Constant (.int 1) k p1) p2)) p3) (.ref a) (.ref s4.heap.objs.size)) (L2.EP X pins σ Q) X.xe _
    refine tail_any (ops := [.ref a, .ref s4.heap.objs.size]) ht.isList.typeIs (PySem.slot_list_getitem.lookup) ?_ (by with_unfolding_all rfl)
    refine wpAny_getItem_list_slice ht.isList (by subst hs5; exact Heap.IsSliceOf.new _ vl vu vs) pl pu ps (by decide) ?_ (by rw [List.size_toArray]; omega)
    rw [PySem.W.krv_pick]
    refine ⟨.ref _, _, I5.laid (t' := s5.toks) (o := .lst xs.reverse) (fun b ob q => Heap.get?_push_of_some _ q) (Nat.le_refl _) ?_, rfl, q _ (I5.hok.fresh (Nat.le_refl _))⟩
    exact ⟨by rw [List.length_reverse]; exact hz, _, 0, r.reverse, Heap.get?_push_size _ rfl⟩
  · obtain ⟨t, rfl⟩ := r1
    obtain ⟨l, rfl, el⟩ := IsPart.raw pl
    obtain ⟨u, rfl, eu⟩ := IsPart.raw pu
    obtain ⟨w, rfl, ew⟩ := IsPart.raw ps
    cases l with
    | some _ => cases el
    | none =>
    cases u with
    | some _ => cases eu
    | none =>
    cases w with
    | none => cases ew
    | some w =>
    obtain ⟨i, ti⟩ := w
    cases ew
    show wpAny (model X.prog X.w) X.A (subscriptTail e (.Slice none none (some (.UnaryOp .USub (.Constant (.int 1) k p1) p2)) p3) (.str z t) (.ref s4.heap.objs.size)) (L2.EP X pins σ Q) X.xe _
    refine tail_any (ops := [.str z t, .ref s4.heap.objs.size]) (typeIs_str _ _ _) F.slot_str_getitem.lookup ?_ (by with_unfolding_all rfl)
    refine wpAny_getItem_str_slice (l := none) (u := none) (st := some (-1, ti)) ⟨_, hsl, rfl, rfl⟩ rfl ?_
    have e1 : sliceMade z t none none (some (-1, ti)) = Made.str ⟨((Builtin.Str.strSliceIndices none none (-1) z.length).filterMap (z.cps[·]?)).toArray⟩ := rfl
    rw [e1, pick_rev]
    refine ⟨?_, .str _, H4, I5.tok _, ⟨_, rfl⟩, q⟩
    show (z.cps.toList.reverse.toArray).size ≤ sizeLine
    rw [List.size_toArray, List.length_reverse, Array.length_toList]
    exact hz
end
@[simp] def oRevB : D → Option RV
  | .lst l => some (.ls l.reverse)
  | .str l => if l.length ≤ LIM then some (.at (.str l.reverse)) else none
  | _ => none
theorem d_revB : UnD T (rRevB T.K) oRevB := by
  intro G H v d rv Q sub p ho q
  unfold oRevB at ho
  split at ho
  · cases ho
    obtain ⟨a, xs, rfl, h2, r⟩ := pk_lst sub p
    exact .inl ⟨a, xs, rfl, .inl (.inl h2), fun p hp => q p _ hp (RpL.reverse r)⟩
  · split at ho
    · rename_i hl
      cases ho
      exact .inr ⟨_, pk_str p, by rw [S_len]; exact Nat.le_trans hl lim_le, q _ (by simp only [Rp])⟩
    · cases ho
  · cases ho
theorem se_revB {a : Expr} {ta : TE} {fa : FE} {k : Nat} {p1 p2 p3 pos : Pos} (hK : X.K = T.K) (ha : SE T W X a ta fa) : SE T W X (.Subscript a (.Slice none none (some (.UnaryOp .USub (.Constant (.int 1) k p1) p2)) p3) pos) (tUn (rRevB T.K) ta) (fUn oRevB fa) :=
  se_un (fun _ h => hK ▸ pe_revB h) d_revB ha
end
theorem q_rgL1 {j : Int} (h : -1000000 ≤ j ∧ j ≤ 1000000) : oRgL1 (.int j) = some (.ls (rngs 0 j.toNat)) := by simp only [oRgL1, if_pos h]
theorem q_rgL2 {i j : Int} (h : (-1000000 ≤ i ∧ i ≤ 1000000) ∧ (-1000000 ≤ j ∧ j ≤ 1000000)) : oRgL2 (.int i) (.int j) = some (.ls (rngs i (j - i).toNat)) := by simp only [oRgL2, if_pos h]
theorem q_revBL {u : List D} : oRevB (.lst u) = some (.ls u.reverse) := rfl
theorem q_revBM {α : Type} {f : α → D} {x : List α} : oRevB (.lst (x.map f)) = some (.ls (x.reverse.map f)) := by simp only [oRevB, List.map_reverse]
theorem q_revBS {u : List Nat} (h : u.length ≤ LIM) : oRevB (.str u) = some (.at (.str u.reverse)) := by simp only [oRevB, if_pos h]
end DL
set_option Elab.async false
set_option linter.all false
set_option maxRecDepth 100000
set_option maxHeartbeats 4000000
/-! what repr hands out holds signs in range -/
namespace DL
open PySem PySem.Spec PyProof.Rows L2
def InS (z : Str) : Prop := ∀ c ∈ z.cps.toList, c < 1114112
theorem in_char (c : Char) : c.toNat < 1114112 := by
  have h := c.valid
  rcases h with h | ⟨_, h⟩
  · exact Nat.lt_trans h (by decide)
  · exact h
theorem in_of (s : String) : InS (Str.ofString s) := by
  intro c hc
  rw [Str.ofString_eq_toList] at hc
  have hc : c ∈ s.toList.map Char.toNat := hc
  obtain ⟨x, _, rfl⟩ := List.mem_map.mp hc
  exact in_char x
theorem in_app {a b : Str} (ha : InS a) (hb : InS b) : InS (a ++ b) := by
  intro c hc
  have hc : c ∈ (a.cps ++ b.cps).toList := hc
  rw [Array.toList_append, List.mem_append] at hc
  exact hc.elim (ha c) (hb c)
theorem in_join {s : Str} (hs : InS s) : ∀ {l : List Str}, (∀ z ∈ l, InS z) → InS (Str.join s l)
  | [], _ => fun c hc => absurd hc (by simp [Str.join, Str.empty])
  | [x], h => h x (List.mem_singleton_self x)
  | x :: y :: r, h => by
    show InS (x ++ s ++ Str.join s (y :: r))
    exact in_app (in_app (h x List.mem_cons_self) hs) (in_join hs fun z hz => h z (List.mem_cons_of_mem _ hz))
theorem in_digits {w n : Nat} : ∀ c ∈ List.replicate w 48 ++ (Nat.toDigits 16 n).map Char.toNat, c < 1114112 := by
  intro c hc
  rcases List.mem_append.mp hc with hc | hc
  · rw [List.eq_of_mem_replicate hc]; decide
  · obtain ⟨x, _, rfl⟩ := List.mem_map.mp hc
    exact in_char x
theorem in_two {a b : Nat} {l : List Nat} (ha : a < 1114112) (hb : b < 1114112) (h : ∀ c ∈ l, c < 1114112) : ∀ c ∈ a :: b :: l, c < 1114112 := by
  intro c hc
  rcases List.mem_cons.mp hc with rfl | hc
  · exact ha
  · rcases List.mem_cons.mp hc with rfl | hc
    · exact hb
    · exact h c hc
theorem in_char2 {q c : Nat} (hc : c < 1114112) : ∀ d ∈ Builtin.Str.reprChar q c, d < 1114112 := by
  have n0 : ∀ d ∈ ([] : List Nat), d < 1114112 := fun d hd => absurd hd List.not_mem_nil
  unfold Builtin.Str.reprChar
  dsimp only
  split
  · exact in_two (by decide) hc n0
  split
  · exact in_two (by decide) (by decide) n0
  split
  · exact in_two (by decide) (by decide) n0
  split
  · exact in_two (by decide) (by decide) n0
  split
  · intro d hd
    rw [List.mem_singleton] at hd
    rw [hd]; exact hc
  split
  · exact in_two (by decide) (by decide) in_digits
  split
  · exact in_two (by decide) (by decide) in_digits
  · exact in_two (by decide) (by decide) in_digits
theorem in_fold {q : Nat} : ∀ (l : List Nat) (acc : Array Nat), (∀ c ∈ l, c < 1114112) → (∀ c ∈ acc.toList, c < 1114112) → ∀ c ∈ (l.foldl (fun out c => out ++ (Builtin.Str.reprChar q c).toArray) acc).toList, c < 1114112
  | [], acc, _, h => h
  | x :: l, acc, hl, h => by
    rw [List.foldl_cons]
    refine in_fold l _ (fun c hc => hl c (List.mem_cons_of_mem _ hc)) fun c hc => ?_
    rw [Array.toList_append] at hc
    rcases List.mem_append.mp hc with hc | hc
    · exact h c hc
    · exact in_char2 (hl x List.mem_cons_self) c hc
theorem in_repr {x : Str} (h : InS x) : InS (reprText x) := by
  have hq : reprQuote x < 1114112 := by unfold reprQuote; split <;> decide
  intro c hc
  unfold reprText at hc
  dsimp only at hc
  rw [Array.toList_push, ← Array.foldl_toList] at hc
  rcases List.mem_append.mp hc with hc | hc
  · exact in_fold _ _ h (fun c hc => by
      have hc : c ∈ [reprQuote x] := hc
      rw [List.mem_singleton] at hc
      rw [hc]; exact hq) c hc
  · rw [List.mem_singleton] at hc
    rw [hc]; exact hq
mutual
theorem in_shown : ∀ (n : Nat) (d : D) (p : PyData), okD n d = true → toPy d = some p → InS p.shown
  | _, .non, p, _, h => by simp only [toPy] at h; cases h; rw [PyData.shown_none]; exact in_of _
  | _, .bl b, p, _, h => by simp only [toPy] at h; cases h; rw [PyData.shown_bool]; cases b <;> exact in_of _
  | _, .int i, p, _, h => by simp only [toPy] at h; cases h; rw [PyData.shown_int]; exact in_of _
  | n, .str l, p, o, h => by
    simp only [toPy] at h; cases h; rw [PyData.shown_str]
    refine in_repr fun c hc => ?_
    have o : l.all (· < 0x110000) = true := by cases n <;> (simp only [okD] at o; exact o)
    have := List.all_eq_true.mp o c hc
    simpa using this
  | 0, .lst ds, p, o, h => by simp only [okD] at o; cases o
  | n + 1, .lst ds, p, o, h => by
    simp only [okD] at o
    simp only [toPy] at h
    split at h
    · rename_i ps hp
      cases h
      rw [PyData.shown_list]
      exact in_app (in_app (in_of _) (in_join (in_of _) (in_shownL n ds ps o hp))) (in_of _)
    · cases h
  | 0, .tup ds, p, o, h => by simp only [okD] at o; cases o
  | n + 1, .tup ds, p, o, h => by
    simp only [okD] at o
    simp only [toPy] at h
    split at h
    · rename_i ps hp
      cases h
      rw [PyData.shown_tuple]
      exact in_app (in_app (in_of _) (in_join (in_of _) (in_shownL n ds ps o hp))) (in_of _)
    · cases h
  | n, .dic _ _, p, o, h => by simp only [okD] at o; cases o
  | n, .obj _ _, p, o, h => by simp only [okD] at o; cases o
  | n, .fro _, p, o, h => by simp only [okD] at o; cases o
  | n, .cls _, p, o, h => by simp only [okD] at o; cases o
theorem in_shownL : ∀ (n : Nat) (ds : List D) (ps : List PyData), okDL n ds = true → toPyL ds = some ps → ∀ z ∈ PyData.shownAll ps, InS z
  | _, [], ps, _, h => by simp only [toPyL] at h; cases h; intro z hz; rw [PyData.shownAll_nil] at hz; exact absurd hz List.not_mem_nil
  | n, d :: ds, ps, o, h => by
    simp only [okDL, Bool.and_eq_true] at o
    simp only [toPyL] at h
    split at h
    · rename_i p ps' h1 h2
      cases h
      intro z hz
      rw [PyData.shownAll_cons] at hz
      rcases List.mem_cons.mp hz with rfl | hz
      · exact in_shown n d p o.1 h1
      · exact in_shownL n ds ps' o.2 h2 z hz
    · cases h
end
theorem shown_in {n : Nat} {d : D} {z : List Nat} (h : shown d = some z) (o : okD n d = true) : okD n (.str z) = true := by
  refine okD_str fun c hc => ?_
  have h2 : ∃ p, toPy d = some p ∧ p.shown.cps.toList = z := by
    cases d with
    | dic ks vs => simp only [okD] at o; cases o
    | _ =>
      simp only [shown] at h
      split at h
      · rename_i p hp
        split at h
        · cases h; exact ⟨p, hp, rfl⟩
        · cases h
      · cases h
  obtain ⟨p, h1, rfl⟩ := h2
  exact in_shown n d p o h1 c hc
/-- repr of data: its text, whose signs are in range -/
theorem shown_ok2 {d : D} (h : okD 60 d = true) (hi : inD d = true) (hw : 15 * wtD d + 13 ≤ LIM) : ∃ s, shown d = some s ∧ okD 60 (.str s) = true := by
  obtain ⟨s, hs⟩ := shown_ok h hi hw
  exact ⟨s, hs, shown_in hs h⟩
end DL
set_option Elab.async false
set_option linter.all false
set_option maxRecDepth 100000
set_option maxHeartbeats 4000000
/-! tuple(list) -/
namespace DL
open PySem PySem.Spec PyProof.Rows L2
section
variable {T : Tb} {W : WX} {X : Cx}
@[simp] def oTupL : D → Option RV
  | .lst l => some (.tu l)
  | _ => none
theorem d_tupL : UnD T (kTup T.K) oTupL := by
  intro G H v d rv Q sub p ho q
  unfold oTupL at ho
  split at ho
  · cases ho
    obtain ⟨a, xs, rfl, h2, r⟩ := pk_lst sub p
    exact .inl ⟨a, xs, rfl, .inl (.inl h2), fun p hp => q p _ hp r⟩
  · cases ho
theorem se_tupleOf {a : Expr} {ta : TE} {fa : FE} {p pos : Pos} (hK : X.K = T.K) (hg : Gl X "tuple") (hm : X.mg "tuple" = none) (ha : SE T W X a ta fa) (na : starEach [a] X.env = (false, eval a X.env) :: starEach [] X.env := by rfl) :
    SE T W X (.Call (.Name "tuple" p) [a] [] pos) (tUn (kTup T.K) ta) (fUn oTupL fa) :=
  se_un (fun _ h => hK ▸ pe_tupleOf hg hm h na) d_tupL ha
end
mutual
/-- no ints of more than 24 figures -/
def inE : D → Bool
  | .int i => decide (i.natAbs < 10 ^ 24)
  | .lst ds => inEL ds
  | .tup ds => inEL ds
  | _ => true
def inEL : List D → Bool
  | [] => true
  | d :: ds => inE d && inEL ds
end
mutual
def wtE : D → Nat
  | .int _ => 81
  | .str l => l.length
  | .lst ds => wtEL ds
  | .tup ds => wtEL ds
  | _ => 0
def wtEL : List D → Nat
  | [] => 0
  | d :: ds => wtE d + 1 + wtEL ds
end
theorem short_intE {i : Int} (h : decide (i.natAbs < 10 ^ 24) = true) : PyData.intsShort 25 (.int i) = true ∧ PyData.showable (.int i) = true ∧ PyData.weight (.int i) ≤ 81 := by
  have h' := of_decide_eq_true h
  have hl : i ≠ 0 → i.natAbs.log2 < 81 := fun h0 => by
    rw [Nat.log2_lt (by omega)]
    exact Nat.lt_trans h' (by decide)
  have e := int_text_length_le10 (k := 24) (by decide) h'
  refine ⟨?_, ?_, ?_⟩
  · simp only [PyData.intsShort, PyData.shown]
    refine decide_eq_true ?_
    rw [PySem.ofString_length]; exact e
  · simp only [PyData.showable, decide_eq_true_eq]
    by_cases h0 : i = 0
    · subst h0; decide
    · have := hl h0; omega
  · simp only [PyData.weight]
    split
    · omega
    · rename_i h0
      have := hl (by simpa using h0); omega
mutual
theorem py_sizeE : ∀ (d : D) (p : PyData), toPy d = some p → inE d = true → PyData.showable p = true ∧ PyData.intsShort 25 p = true ∧ PyData.weight p ≤ wtE d
  | .non, p, h, _ => by simp only [toPy] at h; cases h; exact ⟨by simp only [PyData.showable], by simp only [PyData.intsShort], by simp only [PyData.weight]; omega⟩
  | .bl b, p, h, _ => by simp only [toPy] at h; cases h; exact ⟨by simp only [PyData.showable], by simp only [PyData.intsShort], by simp only [PyData.weight]; omega⟩
  | .int i, p, h, hi => by
    simp only [toPy] at h; cases h
    simp only [inE] at hi
    have := short_intE hi
    exact ⟨this.2.1, this.1, by simp only [wtE]; exact this.2.2⟩
  | .str l, p, h, _ => by
    simp only [toPy] at h; cases h
    exact ⟨by simp only [PyData.showable], by simp only [PyData.intsShort], by simp only [PyData.weight, wtE]; simp [S]⟩
  | .lst ds, p, h, hi => by
    simp only [toPy] at h
    split at h
    · rename_i ps hp
      cases h
      simp only [inE] at hi
      have := py_sizeEL ds ps hp hi
      exact ⟨by simp only [PyData.showable]; exact this.1, by simp only [PyData.intsShort]; exact this.2.1, by simp only [PyData.weight, wtE]; exact this.2.2⟩
    · cases h
  | .tup ds, p, h, hi => by
    simp only [toPy] at h
    split at h
    · rename_i ps hp
      cases h
      simp only [inE] at hi
      have := py_sizeEL ds ps hp hi
      exact ⟨by simp only [PyData.showable]; exact this.1, by simp only [PyData.intsShort]; exact this.2.1, by simp only [PyData.weight, wtE]; exact this.2.2⟩
    · cases h
  | .dic _ _, p, h, _ => by simp only [toPy] at h; cases h
  | .obj _ _, p, h, _ => by simp only [toPy] at h; cases h
  | .fro _, p, h, _ => by simp only [toPy] at h; cases h
  | .cls _, p, h, _ => by simp only [toPy] at h; cases h
theorem py_sizeEL : ∀ (ds : List D) (ps : List PyData), toPyL ds = some ps → inEL ds = true → PyData.showableAll ps = true ∧ PyData.intsShortAll 25 ps = true ∧ PyData.weightAll ps ≤ wtEL ds
  | [], ps, h, _ => by simp only [toPyL] at h; cases h; exact ⟨by simp only [PyData.showableAll], by simp only [PyData.intsShortAll], by simp only [PyData.weightAll]; omega⟩
  | d :: ds, ps, h, hi => by
    simp only [toPyL] at h
    split at h
    · rename_i p ps' h1 h2
      cases h
      simp only [inEL, Bool.and_eq_true] at hi
      have a := py_sizeE d p h1 hi.1
      have b := py_sizeEL ds ps' h2 hi.2
      exact ⟨by simp only [PyData.showableAll, a.1, b.1, Bool.and_self], by simp only [PyData.intsShortAll, a.2.1, b.2.1, Bool.and_self], by simp only [PyData.weightAll, wtEL]; omega⟩
    · cases h
end
/-- what is shown of data of bounded size, ints of up to 24 figures -/
theorem shown_okE {d : D} (h : okD 60 d = true) (hi : inE d = true) (hw : 27 * wtE d + 25 ≤ LIM) : ∃ s, shown d = some s := by
  obtain ⟨p, h1, h2, h3⟩ := ok_py 60 d h
  have a := py_sizeE d p h1 hi
  have h4 := PyData.shown_le 25 (by decide) p (PyData.leavesShort_of_canLay0 25 p h2 a.2.1)
  have h5 : p.shown.length ≤ LIM := by have := a.2.2; omega
  refine ⟨p.shown.cps.toList, ?_⟩
  cases d with
  | dic ks vs => simp only [toPy] at h1; cases h1
  | _ => simp only [shown, h1]; rw [if_pos ⟨a.1, h5, h3⟩]
/-- repr of data: its text, whose signs are in range -/
theorem shown_okE2 {d : D} (h : okD 60 d = true) (hi : inE d = true) (hw : 27 * wtE d + 25 ≤ LIM) : ∃ s, shown d = some s ∧ okD 60 (.str s) = true := by
  obtain ⟨s, hs⟩ := shown_okE h hi hw
  exact ⟨s, hs, shown_in hs h⟩
theorem inEL_of : ∀ {x : List D}, (∀ a ∈ x, inE a = true) → inEL x = true
  | [], _ => by simp only [inEL]
  | a :: x, h => by simp only [inEL, h a List.mem_cons_self, Bool.true_and]; exact inEL_of fun b hb => h b (List.mem_cons_of_mem _ hb)
theorem okDL_of {n : Nat} : ∀ {x : List D}, (∀ a ∈ x, okD n a = true) → okDL n x = true
  | [], _ => by simp only [okDL]
  | a :: x, h => by simp only [okDL, h a List.mem_cons_self, Bool.true_and]; exact okDL_of fun b hb => h b (List.mem_cons_of_mem _ hb)
theorem wtEL_of {B : Nat} : ∀ {x : List D}, (∀ a ∈ x, wtE a ≤ B) → wtEL x ≤ (B + 1) * x.length
  | [], _ => by simp only [wtEL]; omega
  | a :: x, h => by
    simp only [wtEL, List.length_cons]
    have h1 := h a List.mem_cons_self
    have h2 := wtEL_of (x := x) fun b hb => h b (List.mem_cons_of_mem _ hb)
    rw [Nat.mul_succ]; omega
theorem q_tupL {u : List D} : oTupL (.lst u) = some (.tu u) := rfl
end DL
set_option Elab.async false
set_option linter.all false
set_option maxRecDepth 100000
set_option maxHeartbeats 4000000
/-! own classes whose instances hold data: fields, a new instance, methods, properties, static and class methods -/
namespace DL
open PySem PySem.Spec PyProof.Rows L2

/-! ### fields -/
def ixF (f : Str) : List Str → Option Nat
  | [] => none
  | g :: r => if g = f then some 0 else (ixF f r).map (· + 1)
theorem lookup_ixF {f : Str} : ∀ {fs : List (Str × V)} {n : Nat}, ixF f (fs.map (·.1)) = some n → fs.lookup f = (fs.map (·.2))[n]?
  | [], n, h => by cases h
  | (g, u) :: r, n, h => by
    simp only [List.map_cons, ixF] at h
    by_cases q : g = f
    · rw [if_pos q] at h
      cases h
      subst q
      simp [List.lookup]
    · rw [if_neg q] at h
      simp only [Option.map_eq_some_iff] at h
      obtain ⟨m, h1, rfl⟩ := h
      have ih := lookup_ixF (fs := r) h1
      have e : (f == g) = false := by rw [beq_eq_false_iff_ne]; exact fun z => q z.symm
      simp only [List.lookup, e, List.map_cons, List.getElem?_cons_succ]
      exact ih
theorem lookup_ixF0 {f : Str} : ∀ {fs : List (Str × V)}, ixF f (fs.map (·.1)) = none → fs.lookup f = none
  | [], _ => rfl
  | (g, u) :: r, h => by
    simp only [List.map_cons, ixF] at h
    by_cases q : g = f
    · rw [if_pos q] at h; cases h
    · rw [if_neg q] at h
      have ih := lookup_ixF0 (fs := r) (by cases z : ixF f (r.map (·.1)) with | none => rfl | some _ => rw [z] at h; cases h)
      have e : (f == g) = false := by rw [beq_eq_false_iff_ne]; exact fun z => q z.symm
      simp only [List.lookup, e]
      exact ih
theorem putF_new {f : Str} {v : V} : ∀ {fs : List (Str × V)}, ixF f (fs.map (·.1)) = none → putF f v fs = fs ++ [(f, v)]
  | [], _ => rfl
  | (g, u) :: r, h => by
    simp only [List.map_cons, ixF] at h
    by_cases q : g = f
    · rw [if_pos q] at h; cases h
    · rw [if_neg q] at h
      have ih := putF_new (v := v) (fs := r) (by cases z : ixF f (r.map (·.1)) with | none => rfl | some _ => rw [z] at h; cases h)
      simp only [putF, if_neg q, ih, List.cons_append]
theorem putF_old {f : Str} {v : V} : ∀ {fs : List (Str × V)} {n : Nat}, ixF f (fs.map (·.1)) = some n → (putF f v fs).map (·.1) = fs.map (·.1) ∧ (putF f v fs).map (·.2) = (fs.map (·.2)).set n v
  | [], n, h => by cases h
  | (g, u) :: r, n, h => by
    simp only [List.map_cons, ixF] at h
    by_cases q : g = f
    · rw [if_pos q] at h
      cases h
      simp [putF, q]
    · rw [if_neg q] at h
      simp only [Option.map_eq_some_iff] at h
      obtain ⟨m, h1, rfl⟩ := h
      obtain ⟨e1, e2⟩ := putF_old (v := v) (fs := r) h1
      simp only [putF, if_neg q, List.map_cons, e1, e2, List.set_cons_succ]
      exact ⟨trivial, trivial⟩
/-- where the field f of the class number c lies -/
structure FldAt (K : PySem.W.Frag) (T : Tb) (f : Str) (c n : Nat) : Prop where
  cl : Cls K (T.cls c).1
  no : NoAttr K (T.cls c).1 f
  ix : ixF f (T.cls c).2 = some n
theorem fl_nil {K : PySem.W.Frag} {T : Tb} {f : Str} : ∀ c n, ([] : List (Nat × Nat)).lookup c = some n → FldAt K T f c n := fun _ _ h => by cases h
theorem fl_cons {K : PySem.W.Frag} {T : Tb} {f : Str} {a b : Nat} {l : List (Nat × Nat)} (h : FldAt K T f a b) (r : ∀ c n, l.lookup c = some n → FldAt K T f c n) : ∀ c n, ((a, b) :: l).lookup c = some n → FldAt K T f c n := fun c n q => by
  simp only [List.lookup] at q
  split at q
  · rename_i e
    cases q
    rw [eq_of_beq e]
    exact h
  · exact r c n q
theorem nom1 {T : Tb} {C : Addr} {m : Str} {k : Nat} {names : List Str} (hC : (T.cls k).1 = C) (hn : (T.cls k).2 = names) (h : ixF m names = none) : ∀ c ∈ [k], (T.cls c).1 = C ∧ ixF m (T.cls c).2 = none := fun c q => by
  rw [List.mem_singleton.mp q, hn]
  exact ⟨hC, h⟩
@[simp] def oFld (l : List (Nat × Nat)) : D → Option RV
  | .obj c vs => match l.lookup c with
    | some n => (vs[n]?).map RV.at
    | none => none
  | _ => none
def rFld (K : PySem.W.Frag) (f : Str) : V → Hp → VK → Prop := fun x H1 Q => ∃ a C dx fs v, x = .ref a ∧ H1 a = some (.ins C dx fs) ∧ Cls K C ∧ NoAttr K C f ∧ fs.lookup f = some v ∧ Q v H1
section
variable {T : Tb} {W : WX} {X : Cx} {G H : Hp}
theorem pk_obj {v : V} {c : Nat} {vs : List D} (sub : Sub G H) (h : Pk T G H v (.obj c vs)) : ∃ a dx fs, v = .ref a ∧ H a = some (.ins (T.cls c).1 dx fs) ∧ fs.map (·.1) = (T.cls c).2 ∧ RpL T G vs (fs.map (·.2)) := by
  rcases h with h | ⟨p, rfl, dx, fs, h1, h2, h3⟩
  · simp only [Rp] at h
    obtain ⟨a, dx, fs, rfl, h1, h2, h3⟩ := h
    exact ⟨a, dx, fs, rfl, sub _ _ h1, h2, h3⟩
  · exact ⟨p, dx, fs, rfl, h1, h2, h3⟩
theorem d_fld {K : PySem.W.Frag} {f : Str} {l : List (Nat × Nat)} (hl : ∀ c n, l.lookup c = some n → FldAt K T f c n) : UnD T (rFld K f) (oFld l) := by
  intro G H x dx rv Q sub hp ho k
  cases dx with
  | obj c vs =>
    simp only [oFld] at ho
    split at ho
    · rename_i n hn
      obtain ⟨cl, no, ix⟩ := hl c n hn
      obtain ⟨a, dx, fs, rfl, h1, h2, h3⟩ := pk_obj sub hp
      simp only [Option.map_eq_some_iff] at ho
      obtain ⟨d, h4, rfl⟩ := ho
      obtain ⟨v, h5, h6⟩ := h3.get h4
      exact ⟨a, _, dx, fs, v, rfl, h1, cl, no, by rw [lookup_ixF (by rw [h2]; exact ix)]; exact h5, k v h6⟩
    · cases ho
  | _ => cases ho
theorem se_fld {e : Expr} {te : TE} {fe : FE} {f : Str} {pos : Pos} {l : List (Nat × Nat)} (hl : ∀ c n, l.lookup c = some n → FldAt X.K T f c n) (he : SE T W X e te fe) (hab : attributeBase e f X.env (eval e X.env) = eval e X.env := by rfl) : SE T W X (.Attribute e f pos) (tUn (rFld X.K f) te) (fUn (oFld l) fe) :=
  se_un (fun _ h => pe_fld h hab) (d_fld hl) he

/-! ### self.f = e -/
/-- the instance, with the field: c goes over into c' (n: where f lies; a new one is the last) -/
structure SetAt (K : PySem.W.Frag) (T : Tb) (f : Str) (c c' n : Nat) : Prop where
  cl : Cls K (T.cls c).1
  no : NoAttr K (T.cls c).1 f
  ad : (T.cls c').1 = (T.cls c).1
  few : (T.cls c).2.length < 1000
  ix : ixF f (T.cls c).2 = some n ∧ (T.cls c').2 = (T.cls c).2 ∨ ixF f (T.cls c).2 = none ∧ n = (T.cls c).2.length ∧ (T.cls c').2 = (T.cls c).2 ++ [f]
theorem sl_nil {K : PySem.W.Frag} {T : Tb} {f : Str} : ∀ c c' n, ([] : List (Nat × Nat × Nat)).lookup c = some (c', n) → SetAt K T f c c' n := fun _ _ _ h => by cases h
theorem sl_cons {K : PySem.W.Frag} {T : Tb} {f : Str} {a a' b : Nat} {l : List (Nat × Nat × Nat)} (h : SetAt K T f a a' b) (r : ∀ c c' n, l.lookup c = some (c', n) → SetAt K T f c c' n) : ∀ c c' n, ((a, a', b) :: l).lookup c = some (c', n) → SetAt K T f c c' n := fun c c' n q => by
  simp only [List.lookup] at q
  split at q
  · rename_i e
    cases q
    rw [eq_of_beq e]
    exact h
  · exact r c c' n q
def setN (n : Nat) (vs : List D) (d : D) : Option (List D) := if n < vs.length then some (vs.set n d) else if n = vs.length then some (vs ++ [d]) else none
def fSetF (i : Nat) (l : List (Nat × Nat × Nat)) (fe : FE) : FS := fun e => toS (fe e) fun (p, e1) => toS (settle e1 p) fun (d, e2) => match gt e2 i with
  | .ce b (.obj c vs) => match l.lookup c with
    | some (c', n) => match setN n vs d with
      | some ws => .nx (st e2 i (.ce b (.obj c' ws)))
      | none => .no
    | none => .no
  | _ => .no

theorem lookup_keys {fs : List (Str × V)} {l : List Str} (h : fs.map (·.1) = l) : fs.length = l.length := by rw [← h, List.length_map]
theorem ss_setF {o e : Expr} {te : TE} {fe : FE} {f : Str} {i : Nat} {pos pos' : Pos} {l : List (Nat × Nat × Nat)} (hl : ∀ c c' n, l.lookup c = some (c', n) → SetAt X.K T f c c' n) (ho : PE X o (tVar i)) (he : SE T W X e te fe)
    (hs : swapsWith e (some (.Attribute o f pos')) pos.line X.env = pure false := by rfl) : SS T W X (.Assign [.Attribute o f pos'] e pos) (sFld X.K (tVar i) te f) (fSetF i l fe) := by
  obtain ⟨p, q⟩ := he
  refine ⟨ps_fld ho p hs, fun Pr A G H σ e D s h => ?_⟩
  refine q Pr A G H σ e _ s (h.first fun p1 e1 v1 G1 H1 x1 s1 q1 h1 => ?_)
  obtain ⟨⟨dv, e2⟩, l1, h2⟩ := toS_ok_of (fun _ _ _ => settle_nx) h1
  obtain ⟨G2, x2, s2, r2⟩ := settle_ok s1 q1 l1
  dsimp only at h2
  split at h2
  rotate_left
  · exact h2.elim
  rename_i b c vs h0
  split at h2
  rotate_left
  · exact h2.elim
  rename_i c' n hc
  split at h2
  rotate_left
  · exact h2.elim
  rename_i ws hw
  obtain ⟨cl, no, ad, few, ix⟩ := hl c c' n hc
  obtain ⟨a, z1, z2, z3, z4, dx, fs, z5, z6, z7⟩ := s2.ce i b _ h0
  refine ⟨.ref a, z1, a, _, dx, fs, rfl, z5, cl, no, by rw [lookup_keys z6]; exact few, ?_⟩
  have hlen : vs.length = fs.length := by rw [← RpL.length z7, List.length_map]
  have keep : (putF f v1 fs).map (·.1) = (T.cls c').2 ∧ RpL T G2 ws ((putF f v1 fs).map (·.2)) := by
    rcases ix with ⟨ix, nm⟩ | ⟨ix, hn, nm⟩
    · obtain ⟨k1, k2⟩ := putF_old (v := v1) (fs := fs) (n := n) (by rw [z6]; exact ix)
      have hn : n < vs.length := by
        have e := lookup_ixF (f := f) (fs := fs) (n := n) (by rw [z6]; exact ix)
        rcases Nat.lt_or_ge n vs.length with z | z
        · exact z
        · exfalso
          clear e hw
          have : ∀ {l : List Str} {n : Nat}, ixF f l = some n → n < l.length := by
            intro l
            induction l with
            | nil => intro n h; cases h
            | cons g r ih =>
              intro n h
              simp only [ixF] at h
              split at h
              · cases h; exact Nat.succ_pos _
              · simp only [Option.map_eq_some_iff] at h
                obtain ⟨m, h1, rfl⟩ := h
                exact Nat.succ_lt_succ (ih h1)
          have := this ix
          rw [← z6, List.length_map] at this
          omega
      unfold setN at hw
      rw [if_pos hn] at hw
      cases hw
      exact ⟨by rw [k1, z6, nm], by rw [k2]; exact RpL.set n z7 r2⟩
    · rw [putF_new (by rw [z6]; exact ix), List.map_append, List.map_append, z6, nm]
      refine ⟨rfl, ?_⟩
      have hn : n = vs.length := by rw [hn, ← z6, List.length_map, hlen]
      unfold setN at hw
      rw [if_neg (by omega), if_pos hn] at hw
      cases hw
      exact RpL.append z7 (RpL.cons r2 RpL.nil)
  exact h2 σ G2 _ x2 (upd_cell s2 h0 z1 ⟨dx, _, by rw [upd_same, ad], keep.1, keep.2⟩)
end

/-! ### a call leaves the caller's state -/
section
variable {T : Tb} {W : WX} {X : Cx} {F : Fx} {G H : Hp} {σ : St} {e : Env}
theorem sr_aft {vs : List V} {sls s' : List Sl} {G' H' : Hp} (s : SR F G H σ e) (hc : ∀ q, IsC vs sls q → F.Pr q = none ∧ Off σ e q) (a : Aft F.T G H vs sls s' G' H') : Ext F.Pr G G' ∧ SR F G' H' σ e := by
  refine ⟨⟨a.ext.1, fun y o z => (a.ext.2 y o z).imp id fun q => ?_⟩, fun y o z => a.fr y o (s.prot y o z) (fun c => by rw [(hc y c).1] at z; cases z), a.sub, s.len, fun j d q => ?_, fun j b d q => ?_, s.dis⟩
  · cases w : F.Pr y with
    | none => rfl
    | some u => rw [s.prot y u w] at q; cases q
  · obtain ⟨v, h1, h2⟩ := s.va j d q
    exact ⟨v, h1, Rp.mono a.ext.1 _ _ h2⟩
  · obtain ⟨p, z1, z2, z3, z4, z5⟩ := s.ce j b d q
    have nc : ¬ IsC vs sls p := fun c => (hc p c).2 j b d q z1
    obtain ⟨o, ho⟩ := z5.here
    refine ⟨p, z1, z2, z3, ?_, z5.mono a.ext.1 fun o' ho' => a.fr p o' ho' nc⟩
    cases w : G' p with
    | none => rfl
    | some u =>
      rcases a.ext.2 p u w with q | q
      · rw [z4] at q; cases q
      · rw [ho] at q; cases q
end

/-! ### the call of a def, through what stands before it -/
section
variable {X : Cx} {k n : Nat} {f C : Addr} {fd : FuncData} {ps ks : List Str} {sp : Sp} {E : L2.St → XK} {x m : Str} {p pos apos : Pos} {e o : Expr} {es : List Expr} {kws : List Keyword} {to tf : TE} {t tk : TA} {g : List Value → List Value} {gV : List V → List V}
/-- C(e, ..): a new instance and its dict, then __init__ -/
def tMakeG (C : Addr) (n : Nat) (sp : Sp) (gV : List V → List V) (E : L2.St → XK) (tf : TE) (t : TA) : TE := fun σ H Q => tf σ H fun c H0 => c = .ref C ∧ t σ H0 fun vs H1 => vs.length = n ∧
  ∀ x dx, H1 x = none → H1 dx = none → dx ≠ x → sp (gV (.ref x :: vs)) (upd (upd H1 dx (.own x)) x (.ins C dx [])) (fun v H2 => v = .non ∧ Q (.ref x) H2) (E σ)
theorem run_makeG {pins : List (Addr × Obj)} {σ : L2.St} {H : Hp} {s : Shared} {Q : VK} {us ws : List Value} {vs : List V} (M : Mk X.K C f) (F : FnG X.prog X.w X.K X.mg X.base k f fd ps sp) (hr : Room (k + 1) X.A) (gd : X.A.guards = some []) (hb : Bd X.K fd ps ks n g gV)
    (hx : PassesAt (L2.CX X.prog X.w) X σ (E σ)) (I : Inv X pins σ H s) (lu : us.length + 1 = n) (lw : ws.length = ks.length) (r : Vals vs (us ++ ws))
    (h : ∀ x dx, H x = none → H dx = none → dx ≠ x → sp (gV (.ref x :: vs)) (upd (upd H dx (.own x)) x (.ins C dx [])) (fun v H2 => v = .non ∧ Q (.ref x) H2) (E σ)) :
    wpAny (model X.prog X.w) X.A (call (.ref C) us (ks.zip ws)) (L2.EP X pins σ Q) X.xe s := by
  have hq := h (s.heap.objs.size + 1) s.heap.objs.size (I.hok.fresh (Nat.le_succ _)) (I.hok.fresh (Nat.le_refl _)) (Nat.ne_of_lt (Nat.lt_succ_self _))
  have I2 := Inv.made (C := C) I
  have r2 : Vals (V.ref (s.heap.objs.size + 1) :: vs) ((Value.ref (s.heap.objs.size + 1) :: us) ++ ws) := .cons rfl r
  refine wpAny_call (make_map (f := f) I.kIn M.makes M.init (beq_iff_eq.mp M.fn) (codeAny_mono (F.go _ X.stack _ _ ⟨Value.ref (s.heap.objs.size + 1) :: us, ks.zip ws⟩ (g ((Value.ref (s.heap.objs.size + 1) :: us) ++ ws)) _ _ (E σ) (hr.make C us (ks.zip ws)) gd
    (I2.env0.make C us (ks.zip ws)) (hb.to _ _ ws I2.kIn lu lw) (hb.rel r2) hq) fun r s' hq' => ?_))
  cases r with
  | error e => exact hx pins _ _ e s' I2 hq'
  | ok fl =>
    cases fl with
    | ret u =>
      obtain ⟨v, H', I3, rv, ev, q3⟩ := I2.after hq'
      subst ev
      exact ⟨rv, ⟨V.ref (s.heap.objs.size + 1), H', I3, rfl, q3⟩⟩
    | next => exact False.elim hq'
    | brk => exact False.elim hq'
    | cont => exact False.elim hq'
theorem pe_makeG (M : Mk X.K C f) (F : FnG X.prog X.w X.K X.mg X.base k f fd ps sp) (hr : Room (k + 1) X.A) (gd : X.A.guards = some []) (hf : PE X (.Name x p) tf) (hb : Bd X.K fd ps [] (n + 1) g gV) (hx : ∀ σ, PassesAt (L2.CX X.prog X.w) X σ (E σ))
    (ha : PA X (e :: es) t) (he : starEach (e :: es) X.env = (false, eval e X.env) :: starEach es X.env := by rfl) (hpl : (backTo pos (starEach es X.env)).any (·.1) = false := by rfl) :
    PE X (.Call (.Name x p) (e :: es) [] pos) (tMakeG C n sp gV E tf t) := by
  refine ⟨fun pins s σ H Q I h => ?_⟩
  refine wpAny_Call_Name_kw (thn (hf.run pins s σ H _ I h) fun u s1 ⟨c, H1, I1, rc, ec, q1⟩ => ?_)
  subst ec
  obtain rfl : u = Value.ref C := rc
  refine PySem.W.callWith_K (h₀ := X.base) I.ok.mod.kin M.kp (thn (ha.run pos pins s1 σ H1 _ I1 q1) fun us s2 ⟨vs, H2, I2, r, l, q⟩ => ⟨I2.kIn, ?_⟩) he hpl
  exact run_makeG (us := us) (ws := []) M F hr gd hb (hx σ) I2 (by rw [← l, r.length]) rfl (by rw [List.append_nil]; exact r) q

/-- the receiver: an instance of C without an attribute m of its own -/
def tIns (C : Addr) (m : Str) (to : TE) : TE := fun σ H Q => to σ H fun x H1 => (∃ a dx fs, x = .ref a ∧ H1 a = some (.ins C dx fs) ∧ fs.lookup m = none) ∧ Q x H1
/-- the receiver: the class at C -/
def tIsC (C : Addr) (to : TE) : TE := fun σ H Q => to σ H fun x H1 => x = .ref C ∧ Q x H1
/-- o.m(e, ..) -/
theorem pe_methG {pl : Sem Bool} (he : PE X o to) (c : Cls X.K C) (hm : Meth X.K C m f) (F : FnG X.prog X.w X.K X.mg X.base k f fd ps sp) (hr : Room k X.A) (gd : X.A.guards = some []) (hb : Bd X.K fd ps [] n g gV) (hx : ∀ σ, PassesAt (L2.CX X.prog X.w) X σ (E σ)) (ha : PA X (e :: es) t)
    (hst : starEach (e :: es) X.env = (false, eval e X.env) :: starEach es X.env := by rfl) (hpl : (backTo pos (starEach es X.env)).any (·.1) = false := by rfl)
    (ht : eval (.Call (.Attribute o m apos) (e :: es) [] pos) X.env = (do
      let ov ← eval o X.env
      standAt apos.atName
      let (f, first) ← holding [ov] (getMethod ov m pl)
      callWith pos f first (backTo pos (starEach (e :: es) X.env)) (backToKw pos (keywordEach [] X.env))) := by rfl) :
    PE X (.Call (.Attribute o m apos) (e :: es) [] pos) (tCallG n sp gV E (tCons (tIns C m to) t)) := by
  refine ⟨fun pins s σ H Q I h => ?_⟩
  refine PySem.W.methodCall_KW (pl := pl) (thn (he.run pins s σ H _ I h) fun u s1 ⟨x, H1, I1, rx, ⟨a, dx, fs, ex, ea, l⟩, q⟩ => ?_) ht
  subst ex
  obtain rfl : u = Value.ref a := rx
  refine getmeth_ok I1 ea c hm l ?_
  refine PySem.W.callWith_K (first := [.ref a]) (h₀ := X.base) I.ok.mod.kin hm.kp (thn (ha.run pos pins s1 σ H1 _ I1 q) fun us s2 ⟨vs, H2, I2, r, l2, q2⟩ => ⟨I2.kIn, ?_⟩) hst hpl
  exact run_fng (us := .ref a :: us) (ws := []) F hr gd hb (hx σ) I2 (by rw [← l2]; simp [r.length]) rfl (by rw [List.append_nil]; exact .cons rfl r) q2
/-- o.m() -/
theorem pe_methG0 {pl : Sem Bool} (he : PE X o to) (c : Cls X.K C) (hm : Meth X.K C m f) (F : FnG X.prog X.w X.K X.mg X.base k f fd ps sp) (hr : Room k X.A) (gd : X.A.guards = some []) (hb : Bd X.K fd ps [] n g gV) (hx : ∀ σ, PassesAt (L2.CX X.prog X.w) X σ (E σ))
    (ht : eval (.Call (.Attribute o m apos) [] [] pos) X.env = (do
      let ov ← eval o X.env
      standAt apos.atName
      let (f, first) ← holding [ov] (getMethod ov m pl)
      callWith pos f first (backTo pos (starEach [] X.env)) (backToKw pos (keywordEach [] X.env))) := by rfl) :
    PE X (.Call (.Attribute o m apos) [] [] pos) (tCallG n sp gV E (tCons (tIns C m to) tNil)) := by
  refine ⟨fun pins s σ H Q I h => ?_⟩
  refine PySem.W.methodCall_KW (pl := pl) (thn (he.run pins s σ H _ I h) fun u s1 ⟨x, H1, I1, rx, ⟨a, dx, fs, ex, ea, l⟩, l2, q⟩ => ?_) ht
  subst ex
  obtain rfl : u = Value.ref a := rx
  refine getmeth_ok I1 ea c hm l ?_
  exact PySem.W.callWith_K0 (first := [.ref a]) I1.kIn hm.kp (run_fng (us := [.ref a]) (ws := []) (xs := [.ref a]) F hr gd hb (hx σ) I1 l2 rfl (.cons rfl .nil) q)
/-- o.m(k = v, ..) -/
theorem pe_methGk {pl : Sem Bool} (he : PE X o to) (c : Cls X.K C) (hm : Meth X.K C m f) (F : FnG X.prog X.w X.K X.mg X.base k f fd ps sp) (hr : Room k X.A) (gd : X.A.guards = some []) (hb : Bd X.K fd ps ks 1 g gV) (hx : ∀ σ, PassesAt (L2.CX X.prog X.w) X σ (E σ)) (hkw : PK X kws tk)
    (hn : n = ks.length + 1) (hall : (backToKw pos (keywordEach kws X.env)).all (·.1.isSome) = true := by rfl) (hks : (backToKw pos (keywordEach kws X.env)).filterMap (·.1) = ks := by rfl)
    (hpl : ((backTo pos (starEach [] X.env)).any (·.1) || (backToKw pos (keywordEach kws X.env)).any (·.1.isNone)) = false := by rfl)
    (ht : eval (.Call (.Attribute o m apos) [] kws pos) X.env = (do
      let ov ← eval o X.env
      standAt apos.atName
      let (f, first) ← holding [ov] (getMethod ov m pl)
      callWith pos f first (backTo pos (starEach [] X.env)) (backToKw pos (keywordEach kws X.env))) := by rfl) :
    PE X (.Call (.Attribute o m apos) [] kws pos) (tCallG n sp gV E (tCons (tIns C m to) tk)) := by
  refine ⟨fun pins s σ H Q I h => ?_⟩
  refine PySem.W.methodCall_KW (pl := pl) (thn (he.run pins s σ H _ I h) fun u s1 ⟨x, H1, I1, rx, ⟨a, dx, fs, ex, ea, l⟩, q⟩ => ?_) ht
  subst ex
  obtain rfl : u = Value.ref a := rx
  refine getmeth_ok I1 ea c hm l ?_
  refine PySem.W.callWith_KW0 (first := [.ref a]) (h₀ := X.base) I.ok.mod.kin hm.kp hall (thn (hkw.run pos pins s1 σ H1 _ I1 q) fun ws s2 ⟨ys, H2, I2, r, l2, q2⟩ => ⟨I2.kIn, ?_⟩) hpl
  rw [hks]
  have lw : ws.length = ks.length := by
    have : ys.length + 1 = n := l2
    rw [← r.length]; omega
  exact run_fng (us := [.ref a]) (xs := .ref a :: ys) F hr gd hb (hx σ) I2 rfl lw (.cons rfl r) q2

/-! ### through a class -/
/-- C.m is a staticmethod -/
structure CSta (K : PySem.W.Frag) (C : Addr) (mc : Value) (m : Str) (p g : Addr) : Prop where
  at_ : PySem.W.findCls K (.ref C) mc m = some (.get (.builtin "staticmethod.__get__") (.ref p) .none (.ref C))
  rc : ∃ rest, PySem.W.recIn K p "staticmethod" = some (.ref g :: rest)
  kp : PySem.W.keepIn K (.ref g) = true
variable {mc : Value} {q0 : Addr}
theorem getsta_ok {pins : List (Addr × Obj)} {σ : L2.St} {H : Hp} {s : Shared} {A : Around} {E0 : Value → Shared → Prop} {pl : Sem Bool} {Q : Value × List Value → Shared → Prop} (I : Inv X pins σ H s) (r : ClX.CRead X.K C mc) (c : CSta X.K C mc m q0 f)
    (h : ∀ s', Inv X pins σ H s' → Q (.ref f, []) s') : wpAny (model X.prog X.w) A (getMethod (.ref C) m pl) Q E0 s := by
  obtain ⟨rest, hp⟩ := c.rc
  refine PySem.W.method_cls I.kIn r.ga (PySem.W.cls_bind I.kIn r.rd c.at_ (wpAny_call (PySem.W.sm_get (s := { s with toks := s.toks + 1 }) I.kIn hp (PySem.W.handed_on rfl ?_))))
  exact h _ (I.tok _)
/-- C.m(e, ..), a staticmethod -/
theorem pe_staG {pl : Sem Bool} {np : Pos} (hg : Gl X x) (hmg : X.mg x = some (.ref C)) (r : ClX.CRead X.K C mc) (c : CSta X.K C mc m q0 f) (F : FnG X.prog X.w X.K X.mg X.base k f fd ps sp) (hr : Room k X.A) (gd : X.A.guards = some []) (hb : Bd X.K fd ps [] n g gV) (hx : ∀ σ, PassesAt (L2.CX X.prog X.w) X σ (E σ)) (ha : PA X (e :: es) t)
    (hdb : (x == ("__debug__" : Str)) = false := by decide)
    (hst : starEach (e :: es) X.env = (false, eval e X.env) :: starEach es X.env := by rfl) (hpl : (backTo pos (starEach es X.env)).any (·.1) = false := by rfl)
    (ht : eval (.Call (.Attribute (.Name x np) m apos) (e :: es) [] pos) X.env = (do
      let ov ← eval (.Name x np) X.env
      standAt apos.atName
      let (f, first) ← holding [ov] (getMethod ov m pl)
      callWith pos f first (backTo pos (starEach (e :: es) X.env)) (backToKw pos (keywordEach [] X.env))) := by rfl) :
    PE X (.Call (.Attribute (.Name x np) m apos) (e :: es) [] pos) (tCallG n sp gV E t) := by
  refine ⟨fun pins s σ H Q I h => ?_⟩
  refine PySem.W.methodCall_KW (pl := pl) (ld_glob I hg hmg ?_ hdb) ht
  refine getsta_ok I r c fun s1 I1 => ?_
  refine PySem.W.callWith_K (first := []) (h₀ := X.base) I.ok.mod.kin c.kp (thn (ha.run pos pins s1 σ H _ I1 h) fun us s2 ⟨vs, H2, I2, r, l2, q2⟩ => ⟨I2.kIn, ?_⟩) hst hpl
  exact run_fng (us := us) (ws := []) F hr gd hb (hx σ) I2 (by rw [← l2, r.length]) rfl (by rw [List.append_nil]; exact r) q2

/-- the call of a bound classmethod's record -/
theorem run_cmG {pins : List (Addr × Obj)} {σ : L2.St} {H : Hp} {s : Shared} {q : Addr} {Q : VK} {us ws : List Value} {xs : List V} (F : FnG X.prog X.w X.K X.mg X.base k f fd ps sp) (hr : Room k X.A) (gd : X.A.guards = some []) (hb : Bd X.K fd ps ks n g gV) (hx : PassesAt (L2.CX X.prog X.w) X σ (E σ))
    (I : Inv X ((q, PySem.W.methodObj (.ref f) (.ref C)) :: pins) σ H s) (lu : us.length + 1 = n) (lw : ws.length = ks.length) (r : Vals xs (us ++ ws)) (h : sp (gV (.ref C :: xs)) H Q (E σ)) : wpAny (model X.prog X.w) X.A (call (.ref q) us (ks.zip ws)) (L2.EP X pins σ Q) X.xe s := by
  have r2 : Vals (V.ref C :: xs) ((Value.ref C :: us) ++ ws) := .cons rfl r
  have z : wpAny (model X.prog X.w) X.A (call (.ref q) us (ks.zip ws)) (L2.EP X ((q, PySem.W.methodObj (.ref f) (.ref C)) :: pins) σ Q) X.xe s := by
    refine wpAny_call (PySem.W.method_call (ClX.pin_at I) (codeAny_mono (F.go X.A X.stack s H ⟨Value.ref C :: us, ks.zip ws⟩ (g ((Value.ref C :: us) ++ ws)) _ Q (E σ) hr gd I.env0 (hb.to s _ ws I.kIn lu lw) (hb.rel r2) h) fun r s' z => ?_))
    cases r with
    | error e => exact hx _ H s e s' I z
    | ok fl =>
      cases fl with
      | next => exact z.elim
      | brk => exact z.elim
      | cont => exact z.elim
      | ret u => exact I.after z
  exact thn z fun _ _ y => ClX.unpinE y
theorem callWith_MKW0 {M : Model} {A : Around} {K : PySem.W.Frag} {q g : Addr} {self : Value} {env : PySem.Env} {pos : Pos} {first : List Value} {Q : Value → Shared → Prop} {E : Value → Shared → Prop} {s : Shared} {kws : List Keyword} (hf : PySem.W.fnIn K g = true) (hall : (backToKw pos (keywordEach kws env)).all (·.1.isSome) = true)
    (h : wpAny M A (evalAll ((backToKw pos (keywordEach kws env)).map (·.2))) (fun ks s₂ => PySem.W.MethP K q g self s₂.heap ∧ wpAny M A (call (.ref q) (first ++ []) (((backToKw pos (keywordEach kws env)).filterMap (·.1)).zip ks)) Q E s₂) E s)
    (hplain : ((backTo pos (starEach [] env)).any (·.1) || (backToKw pos (keywordEach kws env)).any (·.1.isNone)) = false := by rfl) :
    wpAny M A (callWith pos (.ref q) first (backTo pos (starEach [] env)) (backToKw pos (keywordEach kws env))) Q E s :=
  PySem.W.callWith_of hplain (PySem.W.keeps_M hf) (evalArgs_kw2_nil hall h)
/-- o.m(e, ..), o the class at C, m a classmethod -/
theorem pe_cmG {pl : Sem Bool} (he : PE X o to) (r : ClX.CRead X.K C mc) (c : ClX.CMet X.K C mc m q0 f) (F : FnG X.prog X.w X.K X.mg X.base k f fd ps sp) (hr : Room k X.A) (gd : X.A.guards = some []) (hb : Bd X.K fd ps [] n g gV) (hx : ∀ σ, PassesAt (L2.CX X.prog X.w) X σ (E σ)) (ha : PA X (e :: es) t)
    (hst : starEach (e :: es) X.env = (false, eval e X.env) :: starEach es X.env := by rfl) (hpl : (backTo pos (starEach es X.env)).any (·.1) = false := by rfl)
    (ht : eval (.Call (.Attribute o m apos) (e :: es) [] pos) X.env = (do
      let ov ← eval o X.env
      standAt apos.atName
      let (f, first) ← holding [ov] (getMethod ov m pl)
      callWith pos f first (backTo pos (starEach (e :: es) X.env)) (backToKw pos (keywordEach [] X.env))) := by rfl) :
    PE X (.Call (.Attribute o m apos) (e :: es) [] pos) (tCallG n sp gV E (tCons (tIsC C to) t)) := by
  refine ⟨fun pins s σ H Q I h => ?_⟩
  refine PySem.W.methodCall_KW (pl := pl) (thn (he.run pins s σ H _ I h) fun u s1 ⟨x, H1, I1, rx, ex, q⟩ => ?_) ht
  subst ex
  obtain rfl : u = Value.ref C := rx
  refine ClX.getmethcm_ok I1 r c fun s2 I2 => ?_
  refine ClX.callwith_cm I2 (ClX.base_none I1 (Nat.le_refl _)) c.fi (thn (ha.run pos _ s2 σ H1 _ I2 q) fun us s3 ⟨vs, H2, I3, rv, l2, q2⟩ => ⟨⟨ClX.pin_at I3, I3.kIn⟩, ?_⟩) hst hpl
  exact run_cmG (us := us) (ws := []) (xs := vs) F hr gd hb (hx σ) I3 (by rw [← l2]; simp [rv.length]) rfl (by rw [List.append_nil]; exact rv) q2
/-- o.m() -/
theorem pe_cmG0 {pl : Sem Bool} (he : PE X o to) (r : ClX.CRead X.K C mc) (c : ClX.CMet X.K C mc m q0 f) (F : FnG X.prog X.w X.K X.mg X.base k f fd ps sp) (hr : Room k X.A) (gd : X.A.guards = some []) (hb : Bd X.K fd ps [] n g gV) (hx : ∀ σ, PassesAt (L2.CX X.prog X.w) X σ (E σ))
    (ht : eval (.Call (.Attribute o m apos) [] [] pos) X.env = (do
      let ov ← eval o X.env
      standAt apos.atName
      let (f, first) ← holding [ov] (getMethod ov m pl)
      callWith pos f first (backTo pos (starEach [] X.env)) (backToKw pos (keywordEach [] X.env))) := by rfl) :
    PE X (.Call (.Attribute o m apos) [] [] pos) (tCallG n sp gV E (tCons (tIsC C to) tNil)) := by
  refine ⟨fun pins s σ H Q I h => ?_⟩
  refine PySem.W.methodCall_KW (pl := pl) (thn (he.run pins s σ H _ I h) fun u s1 ⟨x, H1, I1, rx, ex, l2, q⟩ => ?_) ht
  subst ex
  obtain rfl : u = Value.ref C := rx
  refine ClX.getmethcm_ok I1 r c fun s2 I2 => ?_
  exact PySem.W.callWith_M0 (K := X.K) (first := []) ⟨ClX.pin_at I2, I2.kIn⟩ c.fi (run_cmG (us := []) (ws := []) (xs := []) F hr gd hb (hx σ) I2 l2 rfl .nil q)
/-- o.m(k = v, ..) -/
theorem pe_cmGk {pl : Sem Bool} (he : PE X o to) (r : ClX.CRead X.K C mc) (c : ClX.CMet X.K C mc m q0 f) (F : FnG X.prog X.w X.K X.mg X.base k f fd ps sp) (hr : Room k X.A) (gd : X.A.guards = some []) (hb : Bd X.K fd ps ks 1 g gV) (hx : ∀ σ, PassesAt (L2.CX X.prog X.w) X σ (E σ)) (hkw : PK X kws tk)
    (hn : n = ks.length + 1) (hall : (backToKw pos (keywordEach kws X.env)).all (·.1.isSome) = true := by rfl) (hks : (backToKw pos (keywordEach kws X.env)).filterMap (·.1) = ks := by rfl)
    (hpl : ((backTo pos (starEach [] X.env)).any (·.1) || (backToKw pos (keywordEach kws X.env)).any (·.1.isNone)) = false := by rfl)
    (ht : eval (.Call (.Attribute o m apos) [] kws pos) X.env = (do
      let ov ← eval o X.env
      standAt apos.atName
      let (f, first) ← holding [ov] (getMethod ov m pl)
      callWith pos f first (backTo pos (starEach [] X.env)) (backToKw pos (keywordEach kws X.env))) := by rfl) :
    PE X (.Call (.Attribute o m apos) [] kws pos) (tCallG n sp gV E (tCons (tIsC C to) tk)) := by
  refine ⟨fun pins s σ H Q I h => ?_⟩
  refine PySem.W.methodCall_KW (pl := pl) (thn (he.run pins s σ H _ I h) fun u s1 ⟨x, H1, I1, rx, ex, q⟩ => ?_) ht
  subst ex
  obtain rfl : u = Value.ref C := rx
  refine ClX.getmethcm_ok I1 r c fun s2 I2 => ?_
  refine callWith_MKW0 (K := X.K) (first := []) c.fi hall (thn (hkw.run pos _ s2 σ H1 _ I2 q) fun ws s3 ⟨ys, H2, I3, rv, l2, q2⟩ => ⟨⟨ClX.pin_at I3, I3.kIn⟩, ?_⟩) hpl
  rw [hks]
  have lw : ws.length = ks.length := by
    have : ys.length + 1 = n := l2
    rw [← rv.length]; omega
  exact run_cmG (us := []) (xs := ys) F hr gd hb (hx σ) I3 rfl lw rv q2

/-! ### a property -/
def E0 : XK := fun _ _ _ => False
def tProG (C : Addr) (sp : Sp) (to : TE) : TE := fun σ H Q => to σ H fun x H1 => ∃ a dx fs, x = .ref a ∧ H1 a = some (.ins C dx fs) ∧ sp [.ref a] H1 Q E0
theorem pe_proG (he : PE X o to) (c : Cls X.K C) (hp : PropOf X.K C m q0 f) (F : FnG X.prog X.w X.K X.mg X.base k f fd ps sp) (hr : Room (k + 1) X.A) (gd : X.A.guards = some []) (hb : Bd X.K fd ps [] 1 (· ++ []) (· ++ []))
    (hab : attributeBase o m X.env (eval o X.env) = eval o X.env := by rfl) : PE X (.Attribute o m pos) (tProG C sp to) := by
  refine ⟨fun pins s σ H Q I h => ?_⟩
  refine attr_of hab (thn (he.run pins s σ H _ I h) fun u s1 ⟨x, H1, I1, rx, a, dx, fs, ex, ea, q⟩ => ?_)
  subst ex
  obtain rfl : u = Value.ref a := rx
  obtain ⟨mA, O, _, _, _, _⟩ := ins_get I1.hok ea
  obtain ⟨od, J, _⟩ := O.look
  obtain ⟨rest, hrec⟩ := hp.rec_
  have I2 := I1.tok (s1.toks + 1)
  have hc : (PySem.W.clsIn X.K C).isSome = true := by
    obtain ⟨cd, hc, _⟩ := PySem.W.any_some c.hd
    rw [hc]
    rfl
  refine PySem.W.get_bind I1.kIn J (PySem.W.plainGet_of (c.get m)).1 (PySem.W.findObj_data hc hp.at_ hp.get hp.tak) (PySem.W.plainGet_of (c.get m)).2 (wpAny_call (PySem.W.prop_get (s := { s1 with toks := s1.toks + 1 }) I1.kIn hrec ?_))
  have r1 : Vals [V.ref a] [Value.ref a] := .cons rfl .nil
  refine codeAny_mono (F.go X.A.in1 X.stack { s1 with toks := s1.toks + 1 } H1 ⟨[.ref a], []⟩ [.ref a] [.ref a] Q E0 hr.in1 gd I2.env0.in1 (hb.to _ [.ref a] [] I2.kIn rfl rfl) (hb.rel r1) q) fun r s' z => ?_
  cases r with
  | error er =>
    obtain ⟨_, _, _, _, _, _, _, _, _, _, _, _, y⟩ := z
    exact y.elim
  | ok fl =>
    cases fl with
    | ret u =>
      obtain ⟨v, H', I3, rv, q3⟩ := I2.after z
      show wpAny _ _ (handedOut u) _ _ _
      rw [PySem.W.handedOut_of (handed_of rv)]
      exact wpAny_pure ⟨v, H', I3, rv, q3⟩
    | next => exact False.elim z
    | brk => exact False.elim z
    | cont => exact False.elim z
end
end DL
set_option Elab.async false
set_option linter.all false
set_option maxRecDepth 100000
set_option maxHeartbeats 4000000
/-! the same with mirrors -/
namespace DL
open PySem PySem.Spec PyProof.Rows L2
theorem Bd.kwN {K : PySem.W.Frag} {x qual : Str} {sd : Stmt} {f : Addr} {fd : FuncData} (F : Fun K x qual sd f fd) {ps ks : List Str} {p : List Nat} {n : Nat}
    (h : ∀ (kV doc pm : Value) (an : Option Addr) (cdv ct : Value) (us ws : List Value), us.length = n → ws.length = ks.length → bindArgs (PySem.W.fnOf x qual (defArgs sd) (defBody sd) (defScope sd) .none kV doc pm an cdv ct) ⟨us, ks.zip ws⟩ = pure (ps.zip (permL p (us ++ ws)))) : Bd K fd ps ks n (permL p) (permL p) where
  to := fun sh us ws _ l1 l2 => by
    obtain ⟨oc, od, kV, doc, pm, an, cdv, ct, osl, rfl, lk, hcode⟩ := F.ex
    exact .of_eq (h kV doc pm an cdv ct us ws l1 l2)
  rel := fun r => vals_perm r p
@[simp] def isO (l : List Nat) : D → Bool
  | .obj c _ => l.contains c
  | _ => false
@[simp] def isK (c : Nat) : D → Bool
  | .cls c' => c == c'
  | _ => false
def fIns (l : List Nat) (fo : FE) : FE := fun e => do
  let (p, e1) ← fo e
  let d ← R.of (look e1 p)
  if isO l d then .ok (p, e1) else .no
def fIsC (c : Nat) (fo : FE) : FE := fun e => do
  let (p, e1) ← fo e
  let d ← R.of (look e1 p)
  if isK c d then .ok (p, e1) else .no
section
variable {T : Tb} {W : WX} {X : Cx} {to te : TE} {fo fe : FE} {ta : TA} {fa : FA} {C f q0 : Addr} {nm : Str} {mc : Value} {l : List Nat} {c c0 n k : Nat} {fd : FuncData} {ps ks : List Str} {m : FM} {ms : List Bool} {g : List Value → List Value} {o e : Expr} {es : List Expr} {kws : List Keyword} {p pos apos : Pos} {perm : List D → List D} {gV : List V → List V}
abbrev RunE (T : Tb) (W : WX) (t : TE) (f : FE) : Prop := ∀ (Pr : Hp) (A : Nat → Option Addr) (G H : Hp) (σ : St) (e : Env) (Q : VK), SR ⟨T, Pr, A⟩ G H σ e → OkE ⟨T, Pr, A⟩ W σ G Q (rPV ⟨T, Pr, A⟩ σ) (f e) → t σ H Q
/-- c is a number of the class at C, whose instances have no m of their own -/
def NoM (T : Tb) (C : Addr) (m : Str) (l : List Nat) : Prop := ∀ c ∈ l, (T.cls c).1 = C ∧ ixF m (T.cls c).2 = none
theorem ins_run (hl : NoM T C nm l) (ho : RunE T W to fo) : RunE T W (tIns C nm to) (fIns l fo) := fun Pr A G H σ e Q s h => by
  refine ho Pr A G H σ e _ s (h.first fun p1 e1 v1 G1 H1 x1 s1 q1 h1 => ?_)
  obtain ⟨d, l1, h2⟩ := of_ok h1
  by_cases q : isO l d = true
  · rw [if_pos q] at h2
    refine ⟨?_, h2 v1 G1 H1 Ext.refl s1 q1⟩
    cases d with
    | obj c vs =>
      obtain ⟨a, dx, fs, rfl, g1, g2, g3⟩ := pk_obj s1.sub (look_ok s1 q1 l1)
      obtain ⟨k1, k2⟩ := hl c (by simpa using q)
      exact ⟨a, dx, fs, rfl, by rw [g1, k1], lookup_ixF0 (by rw [g2]; exact k2)⟩
    | _ => cases q
  · rw [if_neg q] at h2; exact h2.elim
theorem isC_run (hC : (T.cls c).1 = C) (ho : RunE T W to fo) : RunE T W (tIsC C to) (fIsC c fo) := fun Pr A G H σ e Q s h => by
  refine ho Pr A G H σ e _ s (h.first fun p1 e1 v1 G1 H1 x1 s1 q1 h1 => ?_)
  obtain ⟨d, l1, h2⟩ := of_ok h1
  by_cases q : isK c d = true
  · rw [if_pos q] at h2
    refine ⟨?_, h2 v1 G1 H1 Ext.refl s1 q1⟩
    cases d with
    | cls c' =>
      have z := look_ok s1 q1 l1
      have e : c = c' := by simpa using q
      subst e
      rcases z with z | ⟨_, _, z⟩
      · simp only [Rp] at z; rw [z, hC]
      · exact z.elim
    | _ => cases q
  · rw [if_neg q] at h2; exact h2.elim
theorem ar_ins {fr : FA} {n : Nat} (h : Ar fr n) : Ar (fCons fe fr) (n + 1) := ar_cons h
theorem se_cls {x : Str} {pos : Pos} (hg : Gl X x) (hm : X.mg x = some (.ref C)) (hC : (T.cls c).1 = C) (hd : (x == ("__debug__" : Str)) = false := by decide) : SE T W X (.Name x pos) (tC (.ref C)) (fC (.cls c)) :=
  se_gl hg hm rfl (fun _ => by simp only [Rp]; rw [hC]) hd
/-! methods -/
theorem se_meth (Fn : FnG X.prog X.w X.K X.mg X.base k f fd ps (spD T n m)) (tk : Takes X W) (hr : Room k X.A) (gd : X.A.guards = some []) (c : Cls X.K C) (hm : Meth X.K C nm f) (hb : Bd X.K fd ps [] ms.length g (· ++ [])) (hl : NoM T C nm l) (ho : SE T W X o to fo) (ha : SA T W X (e :: es) ta fa) (hz : Ar (fCons (fIns l fo) fa) ms.length)
    (hn : ms.length = n := by rfl) (hst : starEach (e :: es) X.env = (false, eval e X.env) :: starEach es X.env := by rfl) (hpl : (backTo pos (starEach es X.env)).any (·.1) = false := by rfl) {pl : Sem Bool}
    (ht : eval (.Call (.Attribute o nm apos) (e :: es) [] pos) X.env = (do
      let ov ← eval o X.env
      standAt apos.atName
      let (f, first) ← holding [ov] (getMethod ov nm pl)
      callWith pos f first (backTo pos (starEach (e :: es) X.env)) (backToKw pos (keywordEach [] X.env))) := by rfl) :
    SE T W X (.Call (.Attribute o nm apos) (e :: es) [] pos) (tCallG ms.length (spD T n m) (· ++ []) (WE W) (tCons (tIns C nm to) ta)) (fCall m ms [] (fCons (fIns l fo) fa)) :=
  ⟨pe_methG ho.1 c hm Fn hr gd hb (fun σ => passAt tk σ) ha.1 hst hpl ht, fcall_run (cons_run (ins_run hl ho.2) ha.2) (fun _ => RpL.nil) (fun vs h => by rw [List.append_nil, h]; exact hn) hz⟩
theorem se_meth0 (Fn : FnG X.prog X.w X.K X.mg X.base k f fd ps (spD T n m)) (tk : Takes X W) (hr : Room k X.A) (gd : X.A.guards = some []) (c : Cls X.K C) (hm : Meth X.K C nm f) (hb : Bd X.K fd ps [] ms.length g (· ++ [])) (hl : NoM T C nm l) (ho : SE T W X o to fo) (hn : ms.length = n := by rfl) (h1 : ms.length = 1 := by rfl) {pl : Sem Bool}
    (ht : eval (.Call (.Attribute o nm apos) [] [] pos) X.env = (do
      let ov ← eval o X.env
      standAt apos.atName
      let (f, first) ← holding [ov] (getMethod ov nm pl)
      callWith pos f first (backTo pos (starEach [] X.env)) (backToKw pos (keywordEach [] X.env))) := by rfl) :
    SE T W X (.Call (.Attribute o nm apos) [] [] pos) (tCallG ms.length (spD T n m) (· ++ []) (WE W) (tCons (tIns C nm to) tNil)) (fCall m ms [] (fCons (fIns l fo) fNil)) :=
  ⟨pe_methG0 ho.1 c hm Fn hr gd hb (fun σ => passAt tk σ) ht, fcall_run (cons_run (ins_run hl ho.2) (sa_nil (X := X)).2) (fun _ => RpL.nil) (fun vs h => by rw [List.append_nil, h]; exact hn) (by rw [h1]; exact ar_cons ar_nil)⟩
theorem se_methK {tkw : TA} {fk : FA} (Fn : FnG X.prog X.w X.K X.mg X.base k f fd ps (spD T n m)) (tks : Takes X W) (hr : Room k X.A) (gd : X.A.guards = some []) (c : Cls X.K C) (hm : Meth X.K C nm f) (hb : Bd X.K fd ps ks 1 g gV) (hl : NoM T C nm l) (ho : SE T W X o to fo)
    (hp : ∀ G ds xs, RpL T G ds xs → ds.length = ks.length + 1 → RpL T G (perm ds) (gV xs) ∧ (perm ds).length = n) (ha : SK T W X kws tkw fk) (hz : Ar fk ks.length) (hall : (backToKw pos (keywordEach kws X.env)).all (·.1.isSome) = true := by rfl) (hks : (backToKw pos (keywordEach kws X.env)).filterMap (·.1) = ks := by rfl)
    (hpl : ((backTo pos (starEach [] X.env)).any (·.1) || (backToKw pos (keywordEach kws X.env)).any (·.1.isNone)) = false := by rfl) {pl : Sem Bool}
    (ht : eval (.Call (.Attribute o nm apos) [] kws pos) X.env = (do
      let ov ← eval o X.env
      standAt apos.atName
      let (f, first) ← holding [ov] (getMethod ov nm pl)
      callWith pos f first (backTo pos (starEach [] X.env)) (backToKw pos (keywordEach kws X.env))) := by rfl) :
    SE T W X (.Call (.Attribute o nm apos) [] kws pos) (tCallG (ks.length + 1) (spD T n m) gV (WE W) (tCons (tIns C nm to) tkw)) (fCallK m perm (fCons (fIns l fo) fk)) :=
  ⟨pe_methGk ho.1 c hm Fn hr gd hb (fun σ => passAt tks σ) ha.1 rfl hall hks hpl ht, fcallK_run (cons_run (ins_run hl ho.2) ha.2) hp (ar_cons hz)⟩
/-! classmethods -/
theorem se_cm (Fn : FnG X.prog X.w X.K X.mg X.base k f fd ps (spD T n m)) (tk : Takes X W) (hr : Room k X.A) (gd : X.A.guards = some []) (r : ClX.CRead X.K C mc) (cm : ClX.CMet X.K C mc nm q0 f) (hb : Bd X.K fd ps [] ms.length g (· ++ [])) (hC : (T.cls c).1 = C) (ho : SE T W X o to fo) (ha : SA T W X (e :: es) ta fa) (hz : Ar (fCons (fIsC c fo) fa) ms.length)
    (hn : ms.length = n := by rfl) (hst : starEach (e :: es) X.env = (false, eval e X.env) :: starEach es X.env := by rfl) (hpl : (backTo pos (starEach es X.env)).any (·.1) = false := by rfl) {pl : Sem Bool}
    (ht : eval (.Call (.Attribute o nm apos) (e :: es) [] pos) X.env = (do
      let ov ← eval o X.env
      standAt apos.atName
      let (f, first) ← holding [ov] (getMethod ov nm pl)
      callWith pos f first (backTo pos (starEach (e :: es) X.env)) (backToKw pos (keywordEach [] X.env))) := by rfl) :
    SE T W X (.Call (.Attribute o nm apos) (e :: es) [] pos) (tCallG ms.length (spD T n m) (· ++ []) (WE W) (tCons (tIsC C to) ta)) (fCall m ms [] (fCons (fIsC c fo) fa)) :=
  ⟨pe_cmG ho.1 r cm Fn hr gd hb (fun σ => passAt tk σ) ha.1 hst hpl ht, fcall_run (cons_run (isC_run hC ho.2) ha.2) (fun _ => RpL.nil) (fun vs h => by rw [List.append_nil, h]; exact hn) hz⟩
theorem se_cm0 (Fn : FnG X.prog X.w X.K X.mg X.base k f fd ps (spD T n m)) (tk : Takes X W) (hr : Room k X.A) (gd : X.A.guards = some []) (r : ClX.CRead X.K C mc) (cm : ClX.CMet X.K C mc nm q0 f) (hb : Bd X.K fd ps [] ms.length g (· ++ [])) (hC : (T.cls c).1 = C) (ho : SE T W X o to fo) (hn : ms.length = n := by rfl) (h1 : ms.length = 1 := by rfl) {pl : Sem Bool}
    (ht : eval (.Call (.Attribute o nm apos) [] [] pos) X.env = (do
      let ov ← eval o X.env
      standAt apos.atName
      let (f, first) ← holding [ov] (getMethod ov nm pl)
      callWith pos f first (backTo pos (starEach [] X.env)) (backToKw pos (keywordEach [] X.env))) := by rfl) :
    SE T W X (.Call (.Attribute o nm apos) [] [] pos) (tCallG ms.length (spD T n m) (· ++ []) (WE W) (tCons (tIsC C to) tNil)) (fCall m ms [] (fCons (fIsC c fo) fNil)) :=
  ⟨pe_cmG0 ho.1 r cm Fn hr gd hb (fun σ => passAt tk σ) ht, fcall_run (cons_run (isC_run hC ho.2) (sa_nil (X := X)).2) (fun _ => RpL.nil) (fun vs h => by rw [List.append_nil, h]; exact hn) (by rw [h1]; exact ar_cons ar_nil)⟩
theorem se_cmK {tkw : TA} {fk : FA} (Fn : FnG X.prog X.w X.K X.mg X.base k f fd ps (spD T n m)) (tks : Takes X W) (hr : Room k X.A) (gd : X.A.guards = some []) (r : ClX.CRead X.K C mc) (cm : ClX.CMet X.K C mc nm q0 f) (hb : Bd X.K fd ps ks 1 g gV) (hC : (T.cls c).1 = C) (ho : SE T W X o to fo)
    (hp : ∀ G ds xs, RpL T G ds xs → ds.length = ks.length + 1 → RpL T G (perm ds) (gV xs) ∧ (perm ds).length = n) (ha : SK T W X kws tkw fk) (hz : Ar fk ks.length) (hall : (backToKw pos (keywordEach kws X.env)).all (·.1.isSome) = true := by rfl) (hks : (backToKw pos (keywordEach kws X.env)).filterMap (·.1) = ks := by rfl)
    (hpl : ((backTo pos (starEach [] X.env)).any (·.1) || (backToKw pos (keywordEach kws X.env)).any (·.1.isNone)) = false := by rfl) {pl : Sem Bool}
    (ht : eval (.Call (.Attribute o nm apos) [] kws pos) X.env = (do
      let ov ← eval o X.env
      standAt apos.atName
      let (f, first) ← holding [ov] (getMethod ov nm pl)
      callWith pos f first (backTo pos (starEach [] X.env)) (backToKw pos (keywordEach kws X.env))) := by rfl) :
    SE T W X (.Call (.Attribute o nm apos) [] kws pos) (tCallG (ks.length + 1) (spD T n m) gV (WE W) (tCons (tIsC C to) tkw)) (fCallK m perm (fCons (fIsC c fo) fk)) :=
  ⟨pe_cmGk ho.1 r cm Fn hr gd hb (fun σ => passAt tks σ) ha.1 rfl hall hks hpl ht, fcallK_run (cons_run (isC_run hC ho.2) ha.2) hp (ar_cons hz)⟩
/-! staticmethods -/
theorem se_sta {x : Str} {np : Pos} (Fn : FnG X.prog X.w X.K X.mg X.base k f fd ps (spD T n m)) (tk : Takes X W) (hr : Room k X.A) (gd : X.A.guards = some []) (hg : Gl X x) (hmg : X.mg x = some (.ref C)) (r : ClX.CRead X.K C mc) (cs : CSta X.K C mc nm q0 f) (hb : Bd X.K fd ps [] ms.length g (· ++ [])) (ha : SA T W X (e :: es) ta fa) (hz : Ar fa ms.length)
    (hn : ms.length = n := by rfl) (hdb : (x == ("__debug__" : Str)) = false := by decide) (hst : starEach (e :: es) X.env = (false, eval e X.env) :: starEach es X.env := by rfl) (hpl : (backTo pos (starEach es X.env)).any (·.1) = false := by rfl) {pl : Sem Bool}
    (ht : eval (.Call (.Attribute (.Name x np) nm apos) (e :: es) [] pos) X.env = (do
      let ov ← eval (.Name x np) X.env
      standAt apos.atName
      let (f, first) ← holding [ov] (getMethod ov nm pl)
      callWith pos f first (backTo pos (starEach (e :: es) X.env)) (backToKw pos (keywordEach [] X.env))) := by rfl) :
    SE T W X (.Call (.Attribute (.Name x np) nm apos) (e :: es) [] pos) (tCallG ms.length (spD T n m) (· ++ []) (WE W) ta) (fCall m ms [] fa) :=
  ⟨pe_staG hg hmg r cs Fn hr gd hb (fun σ => passAt tk σ) ha.1 hdb hst hpl ht, fcall_run ha.2 (fun _ => RpL.nil) (fun vs h => by rw [List.append_nil, h]; exact hn) hz⟩
/-! constants of a class -/
theorem se_cval {v : V} {u : Value} {d : D} {x : Str} {np : Pos} (hg : Gl X x) (hm : X.mg x = some (.ref C)) (r : ClX.CRead X.K C mc) (cv : ClX.CVal X.K C mc nm v u) (hv : ∀ G, Rp T G d v) (hd : (x == ("__debug__" : Str)) = false := by decide) (hab : attributeBase (.Name x np) nm X.env (eval (.Name x np) X.env) = eval (.Name x np) X.env := by rfl) :
    SE T W X (.Attribute (.Name x np) nm pos) (ClX.tCVal X.K (tC (.ref C)) nm) (fC d) :=
  ⟨ClX.pe_cval (pe_glob hg hm rfl hd) hab, fun Pr A G H σ e Q s h => ⟨C, mc, v, u, rfl, r, cv, h v G H Ext.refl s (hv G)⟩⟩

/-! properties -/
def propK (e2 : Env) : R (PV × List Sl) → R (PV × Env)
  | .ok (.d d', _) => .ok (.d d', e2)
  | .ok (.nw d', _) => .ok (.nw d', e2)
  | _ => .no
def fProp (l : List Nat) (m : FM) (fo : FE) : FE := fun e => do
  let (p, e1) ← fo e
  let d0 ← R.of (look e1 p)
  if isO l d0 then do
    let (d, e2) ← settle e1 p
    propK e2 (m [.va d])
  else .no
theorem prop_run (hl : NoM T C nm l) (ho : RunE T W to fo) : RunE T W (tProG C (spD T 1 m) to) (fProp l m fo) := fun Pr A G H σ e Q s h => by
  refine ho Pr A G H σ e _ s (h.first fun p1 e1 v1 G1 H1 x1 s1 q1 h1 => ?_)
  obtain ⟨d0, l1, h2⟩ := of_ok h1
  by_cases q : isO l d0 = true
  rotate_left
  · rw [if_neg q] at h2; exact h2.elim
  rw [if_pos q] at h2
  cases d0 with
  | obj c vs =>
    obtain ⟨a, dx, fs, rfl, g1, g2, g3⟩ := pk_obj s1.sub (look_ok s1 q1 l1)
    obtain ⟨k1, k2⟩ := hl c (by simpa using q)
    obtain ⟨⟨d, e2⟩, l3, h3⟩ := no_of (fun _ _ _ => settle_nx) h2
    obtain ⟨G2, x2, s2, r2⟩ := settle_ok s1 q1 l3
    refine ⟨a, dx, fs, rfl, by rw [g1, k1], rfl, G2, [.va d], s2.sub, rfl, ?_, ?_⟩
    · refine ⟨fun i d' z => ?_, fun i b d' z => ?_, fun i j b d' b' d2 p z => ?_⟩
      · cases i with
        | zero => cases z; exact ⟨_, rfl, r2⟩
        | succ i => cases i <;> cases z
      · cases i with
        | zero => cases z
        | succ i => cases i <;> cases z
      · cases i with
        | zero => cases z
        | succ i => cases i <;> cases z
    · have h4 := h3.ext x2
      dsimp only at h4
      have nc : ∀ q, IsC [V.ref a] [.va d] q → Pr q = none ∧ Off σ e2 q := fun q ⟨i, d', z, _⟩ => by
        cases i with
        | zero => cases z
        | succ i => cases i <;> cases z
      revert h4
      cases m [.va d] with
      | no => exact fun h => h
      | ex c d s' => exact fun h => h.elim
      | ok b =>
        obtain ⟨pv, s'⟩ := b
        intro h4 v G' H' a r
        obtain ⟨xx, ss⟩ := sr_aft (F := ⟨T, Pr, A⟩) s2 nc a
        cases pv with
        | d d => exact h4 v G' H' xx ss r
        | sl i => exact r.elim
        | nw d =>
          obtain ⟨p, rfl, r1, r2, r3⟩ := r
          have f1 := s2.fresh r1
          exact h4 _ G' H' xx ss ⟨p, rfl, f1.1, r2, f1.2.2, r3⟩
  | _ => cases q
theorem se_prop (Fn : FnG X.prog X.w X.K X.mg X.base k f fd ps (spD T 1 m)) (hr : Room (k + 1) X.A) (gd : X.A.guards = some []) (c : Cls X.K C) (hp : PropOf X.K C nm q0 f) (hb : Bd X.K fd ps [] 1 (· ++ []) (· ++ [])) (hl : NoM T C nm l) (ho : SE T W X o to fo)
    (hab : attributeBase o nm X.env (eval o X.env) = eval o X.env := by rfl) : SE T W X (.Attribute o nm pos) (tProG C (spD T 1 m) to) (fProp l m fo) :=
  ⟨pe_proG ho.1 c hp Fn hr gd hb hab, prop_run hl ho.2⟩

/-! a new instance -/
def makeK (e3 : Env) : R (PV × List Sl) → R (PV × Env)
  | .ok (.d .non, .ce true d :: _) => .ok (.nw d, e3)
  | .ex c d _ => .ex c d e3
  | _ => .no
def fMake (c c0 : Nat) (m : FM) (fo : FE) (fa : FA) : FE := fun e => do
  let (_, e1) ← fIsC c fo e
  let (ps, e2) ← fa e1
  let (ds, e3) ← settleL e2 ps
  makeK e3 (m (.ce true (.obj c0 []) :: ds.map Sl.va))
theorem make_run {N : Nat} (hC : (T.cls c).1 = C) (h0 : (T.cls c0).1 = C) (hn0 : (T.cls c0).2 = []) (ho : RunE T W to fo) (qa : ∀ (Pr : Hp) (A : Nat → Option Addr) (G H : Hp) (σ : St) (e : Env) (Q : List V → Hp → Prop), SR ⟨T, Pr, A⟩ G H σ e → OkE ⟨T, Pr, A⟩ W σ G Q (fun G' _ _ ps vs => PVL ⟨T, Pr, A⟩ G' σ ps vs) (fa e) → ta σ H Q)
    (hz : Ar fa N) : RunE T W (tMakeG C N (spD T (N + 1) m) (· ++ []) (WE W) to ta) (fMake c c0 m fo fa) := fun Pr A G H σ e Q s h => by
  refine isC_run hC ho Pr A G H σ e (fun x H0 => ta σ H0 fun vs H1 => vs.length = N ∧ ∀ x dx, H1 x = none → H1 dx = none → dx ≠ x → spD T (N + 1) m ((.ref x :: vs) ++ []) (upd (upd H1 dx (.own x)) x (.ins C dx [])) (fun v H2 => v = .non ∧ Q (.ref x) H2) (WE W σ)) s (h.first fun p1 e1 v1 G1 H1 x1 s1 q1 h1 => ?_)
  refine qa Pr A G1 H1 σ e1 _ s1 ?_
  dsimp only at h1
  cases q0 : fa e1 with
  | no => rw [q0] at h1; exact h1
  | ex c d e' => rw [q0] at h1; exact h1
  | ok b =>
    obtain ⟨ps, e2⟩ := b
    intro vs G2 H2 x2 s2 q2
    rw [q0] at h1
    simp only [R.bind_ok] at h1
    have h1 := h1.ext x2
    obtain ⟨⟨ds, e3⟩, l3, h3⟩ := no_of (fun _ _ _ => settleL_nx) h1
    obtain ⟨G3, x3, s3, q3⟩ := settleL_ok s2 q2 l3
    have hN := hz _ _ _ q0
    have hvs : vs.length = N := by rw [PVL.length q2]; exact hN
    refine ⟨hvs, fun x dx nx ndx ne => ?_⟩
    have fx := s3.fresh nx
    have fdx := s3.fresh ndx
    let H3 : Hp := upd (upd H2 dx (.own x)) x (.ins C dx [])
    have sb : Sub H2 H3 := (Sub.new ndx).trans (Sub.new (by rw [upd_ne (Ne.symm ne)]; exact nx))
    have s4 : SR ⟨T, Pr, A⟩ G3 H3 σ e3 := s3.grow sb
    have hx3 : H3 x = some (.ins C dx []) := upd_same
    have hlen : ds.length = N := by rw [← RpL.length q3]; exact hvs
    rw [List.append_nil]
    have hcell : ∀ {i : Nat} {b : Bool} {d : D}, gt (Sl.ce true (D.obj c0 []) :: ds.map Sl.va) i = .ce b d → i = 0 ∧ b = true ∧ d = .obj c0 [] := fun {i b d} z => by
      cases i with
      | zero => cases z; exact ⟨rfl, rfl, rfl⟩
      | succ i =>
        exfalso
        replace z : gt (ds.map Sl.va) i = .ce b d := z
        clear q3 hlen l3 h3
        induction ds generalizing i with
        | nil => cases z
        | cons d0 ds ih =>
          cases i with
          | zero => cases z
          | succ i => exact ih i z
    refine ⟨by rw [List.length_cons, hvs], G3, .ce true (.obj c0 []) :: ds.map Sl.va, s4.sub, by rw [List.length_cons, List.length_map, hlen], ?_, ?_⟩
    · refine ⟨fun i d z => ?_, fun i b d z => ?_, fun i j b d b' d' p z1 z2 _ _ => by rw [(hcell z1).1, (hcell z2).1]⟩
      · cases i with
        | zero => cases z
        | succ i =>
          replace z : gt (ds.map Sl.va) i = .va d := z
          have hd : ds[i]? = some d := by
            clear q3 hlen l3 h3 hcell
            induction ds generalizing i with
            | nil => cases z
            | cons d0 ds ih =>
              cases i with
              | zero => cases z; rfl
              | succ i => simpa using ih i z
          obtain ⟨v, g1, g2⟩ := q3.get hd
          exact ⟨v, by simpa using g1, g2⟩
      · obtain ⟨rfl, rfl, rfl⟩ := hcell z
        exact ⟨rfl, x, rfl, fx.2.1, dx, [], by rw [h0]; exact hx3, hn0.symm, RpL.nil⟩
    · have h4 := h3.ext x3
      dsimp only at h4
      have isx : ∀ q, IsC (V.ref x :: vs) (.ce true (.obj c0 []) :: ds.map Sl.va) q → Pr q = none ∧ Off σ e3 q := fun q ⟨i, d', z, y⟩ => by
        obtain ⟨rfl, _, _⟩ := hcell z
        cases y
        exact ⟨fx.1, fx.2.2⟩
      revert h4
      cases m (.ce true (.obj c0 []) :: ds.map Sl.va) with
      | no => exact fun h => h
      | ex c d s' =>
        intro h4 dct v f G' H' a r nm y
        obtain ⟨xx, ss⟩ := sr_aft (F := ⟨T, Pr, A⟩) s4 isx a
        exact h4 dct v f G' H' xx ss r nm y
      | ok b =>
        obtain ⟨pv, s'⟩ := b
        intro h4 v G' H' a r
        obtain ⟨xx, ss⟩ := sr_aft (F := ⟨T, Pr, A⟩) s4 isx a
        obtain ⟨x', d', y1, y2, y3, y4⟩ := a.cel 0 _ rfl
        cases y1
        cases pv with
        | sl i => exact h4.elim
        | nw d => exact h4.elim
        | d d =>
          cases d with
          | non =>
            cases s' with
            | nil => exact h4.elim
            | cons z0 zr =>
              have y2' : z0 = .ce true d' := y2
              subst y2'
              refine ⟨by have r : Rp T G' .non v := r; simpa only [Rp] using r, h4 (.ref x) G' H' xx ss ⟨x, rfl, fx.1, y3, fx.2.2, y4⟩⟩
          | _ => exact h4.elim
theorem se_make {x : Str} {N : Nat} (Fn : FnG X.prog X.w X.K X.mg X.base k f fd ps (spD T (N + 1) m)) (tk : Takes X W) (hr : Room (k + 1) X.A) (gd : X.A.guards = some []) (M : Mk X.K C f) (hb : Bd X.K fd ps [] (N + 1) g (· ++ [])) (hC : (T.cls c).1 = C) (h0 : (T.cls c0).1 = C) (hn0 : (T.cls c0).2 = [])
    (ho : SE T W X (.Name x p) to fo) (ha : SA T W X (e :: es) ta fa) (hz : Ar fa N) (he : starEach (e :: es) X.env = (false, eval e X.env) :: starEach es X.env := by rfl) (hpl : (backTo pos (starEach es X.env)).any (·.1) = false := by rfl) :
    SE T W X (.Call (.Name x p) (e :: es) [] pos) (tMakeG C N (spD T (N + 1) m) (· ++ []) (WE W) to ta) (fMake c c0 m fo fa) :=
  ⟨pe_makeG M Fn hr gd ho.1 hb (fun σ => passAt tk σ) ha.1 he hpl, make_run hC h0 hn0 ho.2 ha.2 hz⟩
end
end DL
set_option Elab.async false
set_option linter.all false
set_option maxRecDepth 100000
set_option maxHeartbeats 4000000
namespace DL
open PySem PySem.Spec PyProof.Rows L2
/-- except C as e: l.append(..) -/
def kApp (i j : Nat) (g : Env → D → Option RV) : Nat → D → Env → Oc := fun _ d e => if i < e.length then (match g (st e i .un) d, gt (st e i .un) j with
  | some (.at d1), .ce b (.lst l) => if l.length < LIM then .nx (st (st e i .un) j (.ce b (.lst (l ++ [d1])))) else .no
  | some (.ls l1), .ce b (.lst l) => if l.length < LIM then .nx (st (st e i .un) j (.ce b (.lst (l ++ [.lst l1])))) else .no
  | _, _ => .no) else .no
section
variable {T : Tb} {W : WX} {X : Cx} {hds : List ExceptHandler} {l : List Hd} {ms : List HM} {mt : Nat → Option Bool} {x : Str} {cv : Value} {np pos' p1 : Pos}
theorem try_app {n : Str} {i j c0 : Nat} {x' y : Expr} {te : Addr → Value → Option Addr → TE} {g : Env → D → Option RV} (hi : X.N[i]? = some n) (hln : X.env.kindOf n = some .local) (hc : Names X x cv) (hs : ∀ c b, mt c = some b → PySem.W.exmOne T.K (.ref (T.cls c).1) cv = some b)
    (h1 : ∀ c, mt c = some true → c = c0) (hx : ∀ a cls d, AX T X i a cls d c0 y (te a cls d) g)
    (hpx : ∀ (a : Addr) (oe : Obj) (pn : List (Addr × Obj)) (u : TA), PA (X.suite a ((a, oe) :: pn)) [y] u → PE (X.suite a ((a, oe) :: pn)) x' (tBM T.K "list" rAppend (tVar j) u)) (r : TryOk T W X hds l ms)
    (hsw : ∀ (a : Addr) (oe : Obj) (pn : List (Addr × Obj)), swapsWith x' none p1.line (X.suite a ((a, oe) :: pn)).env = pure false := by intro _ _ _; rfl)
    (hst : ∀ (a : Addr) (oe : Obj) (pn : List (Addr × Obj)), starEach [y] (X.suite a ((a, oe) :: pn)).env = (false, eval y (X.suite a ((a, oe) :: pn)).env) :: starEach [] (X.suite a ((a, oe) :: pn)).env := by intro _ _ _; rfl) :
    TryOk T W X (.ExceptHandler (some (.Name x np)) (some n) [.Expr x' p1] pos' :: hds) ((some i, cv, fun a cls d => tDrop (tBM T.K "list" rAppend (tVar j) (tCons (te a cls d) tNil))) :: l) ((mt, kApp i j g) :: ms) := by
  refine ⟨.named hi hln hc (fun a oe cls d pn hz hf => pss_one (ps_expr (hpx a oe pn _ (pa_cons ((hx a cls d).1 oe pn hz hf) pa_nil (hst a oe pn))) (hsw a oe pn))) r.hs, .cons ⟨hs, fun Pr A G H σ e D c d a dct v f s r nm y free hm q => ?_⟩ r.ms⟩
  have := h1 c hm
  subst this
  unfold kApp at q
  dsimp only at q
  by_cases hi : i < e.length
  rotate_left
  · rw [if_neg hi] at q; exact q.elim
  rw [if_pos hi] at q
  rw [s.len] at hi
  have s0 := set_un (x := some (V.ref a)) s i
  have sN := set_un (x := none) s i
  have ss : (σ.set i (some (V.ref a))).set i none = σ.set i none := List.set_set ..
  split at q
  · rename_i d1 b l0 hg hcell
    split at q
    rotate_left
    · exact q.elim
    rename_i hl
    obtain ⟨p, z1, z2, z3, z4, z5⟩ := s0.ce j b _ hcell
    obtain ⟨p', y1, _⟩ := sN.ce j b _ hcell
    have hij : i ≠ j := fun z => by
      subst z
      rw [gt_st, if_pos ⟨rfl, by rw [s.len]; exact hi⟩] at hcell
      cases hcell
    have z1' := z1
    rw [List.getElem?_set_ne hij] at z1'
    have y1' : (σ.set i none)[j]? = some (some (.ref p)) := by rw [List.getElem?_set_ne hij]; exact z1'
    refine ⟨.ref p, z1, tyV_of s0.sub (.inr ⟨p, rfl, z5⟩) rfl, ?_⟩
    refine (hx a _ _).2 Pr A G H (σ.set i (some (.ref a))) (st e i .un) v f dct d _ _ s0 s.sub (List.getElem?_set_self hi) rfl nm rfl y r hg ?_
    intro w hw
    obtain ⟨xs, g1, g2⟩ := z5
    refine ⟨p, xs, w, rfl, rfl, g1, by rw [RpL.length g2]; exact Nat.lt_of_lt_of_le hl lim_le, ?_⟩
    show D.nx ((σ.set i (some (V.ref a))).set i none) _
    rw [ss]
    exact q _ G _ Ext.refl (upd_cell sN hcell y1' ⟨_, upd_same, g2.append (RpL.cons hw RpL.nil)⟩)
  · rename_i l1 b l0 hg hcell
    split at q
    rotate_left
    · exact q.elim
    rename_i hl
    obtain ⟨p, z1, z2, z3, z4, z5⟩ := s0.ce j b _ hcell
    have hij : i ≠ j := fun z => by
      subst z
      rw [gt_st, if_pos ⟨rfl, by rw [s.len]; exact hi⟩] at hcell
      cases hcell
    have z1' := z1
    rw [List.getElem?_set_ne hij] at z1'
    have y1' : (σ.set i none)[j]? = some (some (.ref p)) := by rw [List.getElem?_set_ne hij]; exact z1'
    refine ⟨.ref p, z1, tyV_of s0.sub (.inr ⟨p, rfl, z5⟩) rfl, ?_⟩
    refine (hx a _ _).2 Pr A G H (σ.set i (some (.ref a))) (st e i .un) v f dct d _ _ s0 s.sub (List.getElem?_set_self hi) rfl nm rfl y r hg ?_
    intro p2 xs2 hp2 hx2
    obtain ⟨xs, g1, g2⟩ := z5
    have ne : p ≠ p2 := fun z => by rw [z, hp2] at g1; cases g1
    obtain ⟨f1, f2, f3⟩ := sN.fresh hp2
    have sN2 := (sN.grow (Sub.new (o := .lst xs2) hp2)).froz upd_same f2 f3
    refine ⟨p, xs, .ref p2, rfl, rfl, by rw [upd_ne ne]; exact g1, by rw [RpL.length g2]; exact Nat.lt_of_lt_of_le hl lim_le, ?_⟩
    show D.nx ((σ.set i (some (V.ref a))).set i none) _
    rw [ss]
    have hr : Rp T (upd G p2 (.lst xs2)) (.lst l1) (.ref p2) := by
      simp only [Rp]
      exact ⟨p2, xs2, rfl, upd_same, RpL.mono (Sub.new f2) _ _ hx2⟩
    exact q _ _ _ (ext_new f2 f1) (upd_cell sN2 hcell y1' ⟨_, upd_same, (RpL.mono (Sub.new f2) _ _ g2).append (RpL.cons hr RpL.nil)⟩)
  · exact q.elim
end
end DL
set_option Elab.async false
set_option linter.all false
set_option maxRecDepth 100000
set_option maxHeartbeats 4000000
/-! weakest preconditions of DLC's mirrors -/
namespace DL
open PySem PySem.Spec PyProof.Rows L2
def WIs (b : Bool) (K : Prop) : Prop := b = true ∧ K
theorem wis {b : Bool} {K : Prop} (h : b = true) (k : K) : WIs b K := ⟨h, k⟩
def nsl : PV → Bool
  | .sl _ => false
  | _ => true
def WMk (p : PV) (s : List Sl) (K : D → Prop) : Prop := ∃ d r, p = .d .non ∧ s = .ce true d :: r ∧ K d
theorem wmk {p : PV} {s r : List Sl} {d : D} {K : D → Prop} (h1 : p = .d .non) (h2 : s = .ce true d :: r) (k : K d) : WMk p s K := ⟨d, r, h1, h2, k⟩
def WMp (ds : List D) (K : List Sl → Prop) : Prop := K (ds.map Sl.va)
theorem wmp0 {K : List Sl → Prop} (h : K []) : WMp [] K := h
theorem wmp1 {a : D} {K : List Sl → Prop} (h : K [.va a]) : WMp [a] K := h
theorem wmp2 {a b : D} {K : List Sl → Prop} (h : K [.va a, .va b]) : WMp [a, b] K := h
theorem wmp3 {a b c : D} {K : List Sl → Prop} (h : K [.va a, .va b, .va c]) : WMp [a, b, c] K := h
theorem wmp4 {a b c d : D} {K : List Sl → Prop} (h : K [.va a, .va b, .va c, .va d]) : WMp [a, b, c, d] K := h
theorem wck2 {m : FM} {perm : List D → List D} {ps : List PV} {e e2 : Env} {ds ds' : List D} {Q : PV → Env → Prop} {X : XP} (h1 : settleL e ps = .ok (ds, e2)) (h2 : perm ds = ds') (h4 : WMp ds' fun sl => WPE (m sl) (fun p _ => Q p e2) (fun c d _ => X c d e2)) : WCk m perm ps e Q X := wck h1 (by rw [h2]; exact h4)
def WSo (i : Nat) (l : List (Nat × Nat × Nat)) (d : D) (e : Env) (N : Env → Prop) : Prop := ∃ b c vs c' n ws, gt e i = .ce b (.obj c vs) ∧ l.lookup c = some (c', n) ∧ setN n vs d = some ws ∧ N (st e i (.ce b (.obj c' ws)))
theorem wso {i : Nat} {l : List (Nat × Nat × Nat)} {d : D} {e : Env} {N : Env → Prop} {b : Bool} {c c' n : Nat} {vs ws : List D} (h1 : gt e i = .ce b (.obj c vs)) (h2 : l.lookup c = some (c', n)) (h3 : setN n vs d = some ws) (k : N (st e i (.ce b (.obj c' ws)))) : WSo i l d e N := ⟨b, c, vs, c', n, ws, h1, h2, h3, k⟩
theorem q_fld {l : List (Nat × Nat)} {c n : Nat} {vs : List D} {d : D} (h1 : l.lookup c = some n) (h2 : vs[n]? = some d) : oFld l (.obj c vs) = some (.at d) := by
  simp only [oFld, h1, h2, Option.map]
theorem wr_fld {l : List (Nat × Nat)} {c n : Nat} {vs : List D} {d : D} {e : Env} {Q : PV → Env → Prop} (h1 : l.lookup c = some n) (h2 : vs[n]? = some d) (k : Q (.d d) e) : WR (oFld l (.obj c vs)) Q e := wr_at (q_fld h1 h2) k
section
variable {fo fe : FE} {fa : FA} {m : FM} {l : List Nat} {c c0 i : Nat} {e : Env} {Q : PV → Env → Prop} {X : XP} {N B C : Env → Prop} {Rt : PV → Env → Prop}
theorem we_ins (h : WPE (fo e) (fun p e1 => WO (look e1 p) fun d => WIs (isO l d) (Q p e1)) X) : WPE (fIns l fo e) Q X := by
  unfold fIns
  refine WPE.bind (h.mono (fun p e1 h => ?_) fun _ _ _ h => h)
  obtain ⟨d, h1, h2, h3⟩ := h
  simp only [h1, R.of, R.bind_ok, h2, if_true]
  exact ⟨h3⟩
theorem we_isC (h : WPE (fo e) (fun p e1 => WO (look e1 p) fun d => WIs (isK c d) (Q p e1)) X) : WPE (fIsC c fo e) Q X := by
  unfold fIsC
  refine WPE.bind (h.mono (fun p e1 h => ?_) fun _ _ _ h => h)
  obtain ⟨d, h1, h2, h3⟩ := h
  simp only [h1, R.of, R.bind_ok, h2, if_true]
  exact ⟨h3⟩
theorem we_prop (h : WPE (fo e) (fun p e1 => WO (look e1 p) fun d0 => WIs (isO l d0) (WPE (settle e1 p) (fun d e2 => WPE (m [.va d]) (fun p' _ => WIs (nsl p') (Q p' e2)) (fun _ _ _ => False)) X)) X) : WPE (fProp l m fo e) Q X := by
  unfold fProp
  refine WPE.bind (h.mono (fun p e1 h => ?_) fun _ _ _ h => h)
  obtain ⟨d, h1, h2, h3⟩ := h
  simp only [h1, R.of, R.bind_ok, h2, if_true]
  refine WPE.bind (h3.mono (fun d e2 h => ?_) fun _ _ _ h => h)
  dsimp only
  revert h
  cases m [.va d] with
  | no => exact fun h => h.out.elim
  | ex c d e => exact fun h => h.out.elim
  | ok a =>
    obtain ⟨p', s'⟩ := a
    intro h
    obtain ⟨h4, h5⟩ := h.out
    cases p' with
    | sl i => cases h4
    | d d => exact ⟨h5⟩
    | nw d => exact ⟨h5⟩
theorem we_make (h : WPE (fo e) (fun p e1 => WO (look e1 p) fun d0 => WIs (isK c d0) (WPE (fa e1) (fun ps e2 => WPE (settleL e2 ps) (fun ds e3 => WMp ds fun sl => WPE (m (.ce true (.obj c0 []) :: sl)) (fun p' s' => WMk p' s' fun d => Q (.nw d) e3) (fun c d _ => X c d e3)) X) X)) X) : WPE (fMake c c0 m fo fa e) Q X := by
  unfold fMake fIsC
  refine WPE.bind (WPE.bind (h.mono (fun p e1 h => ?_) fun _ _ _ h => h))
  obtain ⟨d, h1, h2, h3⟩ := h
  simp only [h1, R.of, R.bind_ok, h2, if_true]
  refine ⟨?_⟩
  refine WPE.bind (h3.mono (fun ps e2 h => ?_) fun _ _ _ h => h)
  refine WPE.bind (h.mono (fun ds e3 h => ?_) fun _ _ _ h => h)
  unfold WMp at h
  dsimp only
  revert h
  cases m (.ce true (.obj c0 []) :: ds.map Sl.va) with
  | no => exact fun h => h.out.elim
  | ex c d e => exact fun h => ⟨h.out⟩
  | ok a =>
    obtain ⟨p', s'⟩ := a
    intro h
    obtain ⟨d', r, h4, h5, h6⟩ := h.out
    subst h4
    subst h5
    exact ⟨h6⟩
theorem ws_setF {l : List (Nat × Nat × Nat)} (h : WPE (fe e) (fun p e1 => WPE (settle e1 p) (fun d e2 => WSo i l d e2 fun e3 => WN e3 N) X) X) : WPS (fSetF i l fe e) N Rt B C X := by
  unfold fSetF
  refine ws_to (h.mono (fun p e1 h => ?_) fun _ _ _ h => h)
  refine ws_to (h.mono (fun d e2 h => ?_) fun _ _ _ h => h)
  obtain ⟨b, c, vs, c', n, ws, h1, h2, h3, h4⟩ := h
  dsimp only
  rw [h1]
  dsimp only
  rw [h2]
  dsimp only
  rw [h3]
  exact ⟨h4⟩
def rvA : RV → Option D
  | .at d => some d
  | .ls l => some (.lst l)
  | _ => none
theorem ws_kapp {i j c : Nat} {g : Env → D → Option RV} {rv : RV} {b : Bool} {l : List D} {d d1 : D} (h : i < e.length) (h1 : g (st e i .un) d = some rv) (h2 : gt (st e i .un) j = .ce b (.lst l)) (h3 : rvA rv = some d1) (h4 : l.length < LIM) (k : WN (st (st e i .un) j (.ce b (.lst (l ++ [d1])))) N) : WPS (kApp i j g c d e) N Rt B C X := by
  unfold kApp
  rw [if_pos h, h1, h2]
  cases rv with
  | «at» d0 => cases h3; dsimp only; rw [if_pos h4]; exact ⟨k⟩
  | ls l0 => cases h3; dsimp only; rw [if_pos h4]; exact ⟨k⟩
  | _ => cases h3
end
end DL
set_option Elab.async false
set_option linter.all false
set_option maxRecDepth 100000
set_option maxHeartbeats 4000000
/-! == by an own __eq__ of instances; isinstance(x, C), C an own class -/
namespace DL
open PySem PySem.Spec PyProof.Rows L2
/-- x == y by C's own __eq__, y an instance of C, too; the answer is a truth value -/
def rOwn (C : Addr) (sp : Sp) : R2 := fun x y H Q => ∃ a b dx dy fs gs, x = .ref a ∧ y = .ref b ∧ H a = some (.ins C dx fs) ∧ H b = some (.ins C dy gs) ∧ sp [.ref a, .ref b] H (fun v H' => (∃ z, v = .bl z) ∧ Q v H') E0
section
variable {X : Cx} {k : Nat} {f C : Addr} {fd : FuncData} {ps : List Str} {sp : Sp}
theorem op_own (hm : Meth X.K C "__eq__" f) (F : FnG X.prog X.w X.K X.mg X.base k f fd ps sp) (hr : Room k X.A) (gd : X.A.guards = some []) (hb : Bd X.K fd ps [] 2 (· ++ []) (· ++ [])) : OpR X (compareOp .Eq) (rOwn C sp) := by
  rintro pins s σ H x y v u Q I rx ry ⟨a, b, dx, dy, fs, gs, rfl, rfl, ha, hb', hq⟩
  cases rx
  cases ry
  obtain ⟨mA, J, _⟩ := ins_get I.hok ha
  obtain ⟨mB, J', _⟩ := ins_get I.hok hb'
  obtain ⟨od, J, _⟩ := J.look
  obtain ⟨od', J', _⟩ := J'.look
  obtain ⟨m, hF⟩ := I.fr
  show wpAny _ _ (richCompare .Eq _ _) _ _ _
  refine PySem.W.cmp_K (op := .Eq) (tb := .ref C) hr.units0 hF I.ok.mod.kin J J'.type (by simp [PySem.W.notFirst]) hm.at_ hm.fn ?_
  have r2 : Vals [V.ref a, V.ref b] [Value.ref a, Value.ref b] := .cons rfl (.cons rfl .nil)
  refine wpAny_call (codeAny_mono (F.go X.A X.stack s H ⟨[.ref a, .ref b], []⟩ [.ref a, .ref b] [.ref a, .ref b] _ E0 hr gd I.env0 (hb.to s [.ref a, .ref b] [] I.kIn rfl rfl) (hb.rel r2) hq) fun r s' z => ?_)
  cases r with
  | error er =>
    obtain ⟨_, _, _, _, _, _, _, _, _, _, _, _, y⟩ := z
    exact y.elim
  | ok fl =>
    cases fl with
    | ret w =>
      obtain ⟨v, H', I3, rv, ⟨bb, rfl⟩, q3⟩ := I.after z
      cases rv
      exact ⟨V.bl bb, H', I3, rfl, q3⟩
    | next => exact False.elim z
    | brk => exact False.elim z
    | cont => exact False.elim z
end
def eqK (e2 : Env) : R (PV × List Sl) → R (PV × Env)
  | .ok (.d (.bl b), _) => .ok (.d (.bl b), e2)
  | _ => .no
def fOwn (l : List Nat) (m : FM) (fa fb : FE) : FE := fun e => do
  let (pa, e1) ← fa e
  let (pb, e2) ← fb e1
  let d1 ← R.of (look e2 (hold pa))
  let d2 ← R.of (look e2 (hold pb))
  if (isO l d1 && isO l d2) = true then do
    let (ds, e3) ← settleL e2 [hold pa, hold pb]
    eqK e3 (m (ds.map Sl.va))
  else .no
section
variable {T : Tb} {W : WX} {X : Cx} {ta tb : TE} {fa fb : FE} {C f : Addr} {l : List Nat} {k : Nat} {fd : FuncData} {ps : List Str} {m : FM} {a b : Expr} {pos : Pos}
theorem pvl_hold {F : Fx} {G H : Hp} {σ : St} {e : Env} {p : PV} {v : V} (h : PVR F G H σ e (hold p) v) : (match hold p with | .d d => Rp F.T G d v | .sl i => σ[i]? = some (some v) | .nw _ => False) := by
  cases p <;> exact h
theorem own_run (hl : NoM T C "__eq__" l) (ra : RunE T W ta fa) (rb : RunE T W tb fb) : RunE T W (tOp (rOwn C (spD T 2 m)) ta tb) (fOwn l m fa fb) := fun Pr A G H σ e Q s h => by
  refine ra Pr A G H σ e _ s (h.first fun p1 e1 v1 G1 H1 x1 s1 q1 h1 => ?_)
  obtain ⟨G2, x2, s2, q2⟩ := hold_ok s1 q1
  refine rb Pr A G2 H1 σ e1 _ s2 ((h1.ext x2).first fun p2 e2 v2 G3 H3 x3 s3 q3 h3 => ?_)
  obtain ⟨G4, x4, s4, q4⟩ := hold_ok s3 q3
  have h3 := h3.ext x4
  obtain ⟨da, l1, h4⟩ := of_ok h3
  obtain ⟨db, l2, h5⟩ := of_ok h4
  have qa := PVR.stay (H' := H3) (e' := e2) q2 (x3.trans x4).1
  have pk1 := look_ok s4 qa l1
  have pk2 := look_ok s4 q4 l2
  by_cases q : (isO l da && isO l db) = true
  rotate_left
  · rw [if_neg q] at h5; exact h5.elim
  rw [if_pos q] at h5
  obtain ⟨o1, o2⟩ := Bool.and_eq_true_iff.mp q
  cases da with
  | obj c1 vs1 =>
    cases db with
    | obj c2 vs2 =>
      obtain ⟨a, dx, fs, rfl, g1, _, _⟩ := pk_obj s4.sub pk1
      obtain ⟨b, dy, gs, rfl, k1, _, _⟩ := pk_obj s4.sub pk2
      rw [(hl c1 (by simpa using o1)).1] at g1
      rw [(hl c2 (by simpa using o2)).1] at k1
      obtain ⟨⟨ds, e3⟩, l3, h6⟩ := no_of (fun _ _ _ => settleL_nx) h5
      have pvl : PVL ⟨T, Pr, A⟩ G4 σ [hold p1, hold p2] [.ref a, .ref b] := ⟨_, _, rfl, pvl_hold qa, _, _, rfl, pvl_hold q4, rfl⟩
      obtain ⟨G5, x5, s5, q5⟩ := settleL_ok s4 pvl l3
      have hlen : ds.length = 2 := by rw [← RpL.length q5]; rfl
      have ak : ArgOk T G5 H3 [] [] := ⟨fun i d z => (by cases z), fun i b d z => (by cases z), fun i j b d b2 d2 p z _ _ _ => (by cases z)⟩
      have ak2 := ak.app rfl q5
      refine ⟨a, b, dx, dy, fs, gs, rfl, rfl, g1, k1, rfl, G5, ds.map Sl.va, s5.sub, by rw [List.length_map]; exact hlen, ak2, ?_⟩
      have h7 := h6.ext x5
      dsimp only at h7
      revert h7
      cases m (ds.map Sl.va) with
      | no => exact fun h => h
      | ex c d s' => exact fun h => h.elim
      | ok z =>
        obtain ⟨pv, s'⟩ := z
        intro h7 v G' H' a r
        obtain ⟨xx, ss⟩ := call_aft (ps := []) (vs := []) (sls := []) s5 rfl rfl a
        rw [upds_nil] at ss
        cases pv with
        | d d =>
          cases d with
          | bl z =>
            have r' : Rp T G' (.bl z) v := r
            have hv : v = .bl z := by simpa only [Rp] using r'
            exact ⟨⟨z, hv⟩, h7 v G' H' xx ss r⟩
          | _ => exact h7.elim
        | _ => exact h7.elim
    | _ => cases o2
  | _ => cases o1
theorem se_own (hm : Meth X.K C "__eq__" f) (Fn : FnG X.prog X.w X.K X.mg X.base k f fd ps (spD T 2 m)) (hr : Room k X.A) (gd : X.A.guards = some []) (hb : Bd X.K fd ps [] 2 (· ++ []) (· ++ [])) (hl : NoM T C "__eq__" l) (ha : SE T W X a ta fa) (hb' : SE T W X b tb fb)
    (hq : behindInMarks .Eq b = false := by first | exact nobehind _ (by decide) (by decide) | rfl) : SE T W X (.Compare a [.Eq] [b] pos) (tOp (rOwn C (spD T 2 m)) ta tb) (fOwn l m fa fb) :=
  ⟨pe_cmpR (op_own hm Fn hr gd hb) ha.1 hb'.1 hq, own_run hl ha.2 hb'.2⟩
theorem st_own (hm : Meth X.K C "__eq__" f) (Fn : FnG X.prog X.w X.K X.mg X.base k f fd ps (spD T 2 m)) (hr : Room k X.A) (gd : X.A.guards = some []) (hb : Bd X.K fd ps [] 2 (· ++ []) (· ++ [])) (hl : NoM T C "__eq__" l) (ha : SE T W X a ta fa) (hb' : SE T W X b tb fb)
    (hq : behindInMarks .Eq b = false := by first | exact nobehind _ (by decide) (by decide) | rfl) : ST T W X (.Compare a [.Eq] [b] pos) (tB (tOp (rOwn C (spD T 2 m)) ta tb)) (fTst (fOwn l m fa fb)) := by
  have S := se_own (pos := pos) hm Fn hr gd hb hl ha hb' hq
  refine ⟨pt_cmpR (op_own hm Fn hr gd hb) ha.1 hb'.1 hq, fun Pr A G H σ e Q s h => ?_⟩
  refine S.2 Pr A G H σ e _ s (h.first fun p1 e1 v1 G1 H1 x1 s1 q1 h1 => ?_)
  dsimp only at h1
  split at h1
  · rename_i k hk
    exact ⟨k, bl_of s1 q1 hk, h1 k G1 H1 Ext.refl s1 rfl⟩
  · exact h1.elim
end
/-! ### isinstance(x, C) -/
/-- what the library asks of an instance of the class number c, and the answer -/
structure InsAt (K : PySem.W.Frag) (T : Tb) (C : Addr) (c : Nat) (b : Bool) : Prop where
  cl : Cls K (T.cls c).1
  ha : PySem.W.findIn K (.ref (T.cls c).1) "__class__" = some (some (.builtin "object.__class__"))
  hn : PySem.W.specialIn K (.builtin "object.__class__") "__get__" = some (some (.builtin "getset_descriptor.__get__"))
  tk : PySem.W.takesIn K (.builtin "object.__class__") = some true
  ob : PySem.W.mroIn K (T.cls c).1 (.type "object") = some true
  kit : PySem.W.kitOne K (.ref (T.cls c).1) (.ref C) = some b
theorem in_nil {K : PySem.W.Frag} {T : Tb} {C : Addr} : ∀ c b, ([] : List (Nat × Bool)).lookup c = some b → InsAt K T C c b := fun _ _ h => by cases h
theorem in_cons {K : PySem.W.Frag} {T : Tb} {C : Addr} {a : Nat} {z : Bool} {l : List (Nat × Bool)} (h : InsAt K T C a z) (r : ∀ c b, l.lookup c = some b → InsAt K T C c b) : ∀ c b, ((a, z) :: l).lookup c = some b → InsAt K T C c b := fun c b q => by
  simp only [List.lookup] at q
  split at q
  · rename_i e
    cases q
    rw [eq_of_beq e]
    exact h
  · exact r c b q
theorem kit_same {K : PySem.W.Frag} {C : Addr} : PySem.W.kitOne K (.ref C) (.ref C) = some true := by
  unfold PySem.W.kitOne
  rw [if_pos (by simp)]
@[simp] def oIsO (l : List (Nat × Bool)) : D → Option Bool
  | .obj c _ => l.lookup c
  | _ => none
def fIsO (l : List (Nat × Bool)) (fa : FE) : FE := fun e => do
  let (p, e1) ← fa e
  let d ← R.of (look e1 p)
  let b ← R.of (oIsO l d)
  .ok (.d (.bl b), e1)
section
variable {T : Tb} {W : WX} {X : Cx} {ta : TE} {fa : FE} {C : Addr} {l : List (Nat × Bool)} {a : Expr} {pos : Pos}
theorem se_isO {p q : Pos} {y : Str} (hK : X.K = T.K) (hg : Gl X "isinstance") (hm : X.mg "isinstance" = none) (hg2 : Gl X y) (hm2 : X.mg y = some (.ref C)) (hl : ∀ c b, l.lookup c = some b → InsAt T.K T C c b) (ha : SE T W X a ta fa) (hdb : (y == ("__debug__" : Str)) = false := by decide)
    (he : starEach (a :: [.Name y q]) X.env = (false, eval a X.env) :: starEach [.Name y q] X.env := by rfl) (he2 : starEach (.Name y q :: []) X.env = (false, eval (.Name y q) X.env) :: starEach [] X.env := by rfl) (hpl : (backTo pos (starEach [.Name y q] X.env)).any (·.1) = false := by rfl) :
    SE T W X (.Call (.Name "isinstance" p) [a, .Name y q] [] pos) (tCB (rIsi T.K) (tCons ta (tCons (tC (.ref C)) tNil))) (fIsO l fa) := by
  refine ⟨pe_callB (hK ▸ call_isi) hg hm PyProof.Rows.Boot.«isinstance» (pa_cons ha.1 (pa_cons (pe_glob hg2 hm2 rfl hdb) pa_nil he2) he) (by decide) (by decide) he hpl, fun Pr A G H σ e Q s h => ?_⟩
  refine ha.2 Pr A G H σ e _ s (h.first fun p1 e1 v1 G1 H1 x1 s1 q1 h1 => ?_)
  obtain ⟨d, l1, h2⟩ := of_ok h1
  obtain ⟨b, l2, h3⟩ := of_ok h2
  have rb : rPV ⟨T, Pr, A⟩ σ G1 H1 e1 (.d (.bl b)) (.bl b) := by show Rp _ _ _ _; simp only [Rp]
  cases d with
  | obj c vs =>
    obtain ⟨z1, z2, z3, z4, z5, z6⟩ := hl c b l2
    obtain ⟨a, dx, fs, rfl, g1, _, _⟩ := pk_obj s1.sub (look_ok s1 q1 l1)
    exact (show rIsi T.K [.ref a, .ref C] H1 Q from ⟨.ref a, .ref C, _, _, b, rfl, .own C, .base (.ins g1 z1 z2 z3 z4 z5), z6, h3 (.bl b) G1 H1 Ext.refl s1 rb⟩)
  | _ => cases l2
end
/-! ### weakest preconditions -/
def WEq (p : PV) (K : Bool → Prop) : Prop := ∃ b, p = .d (.bl b) ∧ K b
theorem weq {b : Bool} {K : Bool → Prop} (h : K b) : WEq (.d (.bl b)) K := ⟨b, rfl, h⟩
section
variable {fa fb : FE} {m : FM} {l : List Nat} {l2 : List (Nat × Bool)} {e : Env} {Q : PV → Env → Prop} {X : XP}
theorem we_own (h : WPE (fa e) (fun pa e1 => WPE (fb e1) (fun pb e2 => WO (look e2 (hold pa)) fun d1 => WO (look e2 (hold pb)) fun d2 => WIs (isO l d1 && isO l d2) (WPE (settleL e2 [hold pa, hold pb]) (fun ds e3 => WMp ds fun sl => WPE (m sl) (fun p _ => WEq p fun b => Q (.d (.bl b)) e3) (fun _ _ _ => False)) X)) X) X) : WPE (fOwn l m fa fb e) Q X := by
  unfold fOwn
  refine WPE.bind (h.mono (fun p e1 h => ?_) fun _ _ _ h => h)
  refine WPE.bind (h.mono (fun p2 e2 h => ?_) fun _ _ _ h => h)
  obtain ⟨d1, h1, d2, h2, h3, h4⟩ := h
  simp only [h1, h2, R.of, R.bind_ok, h3, if_true]
  refine WPE.bind (h4.mono (fun ds e3 h => ?_) fun _ _ _ h => h)
  unfold WMp at h
  dsimp only
  revert h
  cases m (ds.map Sl.va) with
  | no => exact fun h => h.out.elim
  | ex c d e => exact fun h => h.out.elim
  | ok a =>
    obtain ⟨p', s'⟩ := a
    intro h
    obtain ⟨b, h5, h6⟩ := h.out
    cases h5
    exact ⟨h6⟩
theorem we_isO (h : WPE (fa e) (fun p e1 => WO (look e1 p) fun d => WO (oIsO l2 d) fun b => Q (.d (.bl b)) e1) X) : WPE (fIsO l2 fa e) Q X := by
  unfold fIsO
  refine WPE.bind (h.mono (fun p e1 h => ?_) fun _ _ _ h => h)
  obtain ⟨d, h1, b, h2, h3⟩ := h
  simp only [h1, h2, R.of, R.bind_ok]; exact ⟨h3⟩
end
/-! ### cuts -/
theorem fSeq_assoc (f g h : FS) : fSeq (fSeq f g) h = fSeq f (fSeq g h) := by
  funext e
  rw [fSeq_ev, fSeq_ev, fSeq_ev]
  cases f e with
  | nx e => dsimp only; rw [fSeq_ev]
  | bk e => rfl
  | ct e => rfl
  | rt p e => rfl
  | ex c d e => rfl
  | no => rfl
theorem ws_cut {f g : FS} {e : Env} {N B C : Env → Prop} {Rt : PV → Env → Prop} {X : XP} (I : Env → Prop) (h1 : WPS (f e) I Rt B C X) (h2 : ∀ e, I e → WPS (g e) N Rt B C X) : WPS (fSeq f g e) N Rt B C X :=
  ws_seq (h1.mono h2 (fun _ _ h => h) (fun _ h => h) (fun _ h => h) fun _ _ _ h => h)
end DL
set_option Elab.async false
set_option linter.all false
set_option maxRecDepth 100000
set_option maxHeartbeats 4000000
namespace K24
open PySem PySem.Spec PyProof.Rows L2 DL
abbrev x_LeakError : Nat := 0
abbrev x_InvalidWord : Nat := 1
abbrev x_InvalidProgram : Nat := 2
abbrev x_InvalidCore : Nat := 3
abbrev x_LimitExceeded : Nat := 4
abbrev x_Effect : Nat := 5
def b_law_words : FS := (fSeq (fSet 2 (fLst (fCons (fC (.str [])) fNil)))
    (fSeq (fSet 3 (fLst (fCons (fC (.str [])) fNil)))
    (fSeq (fW [0, 1, 3, 4, 5, 6, 7] (fPre [4, 5, 6, 7] (fFor (gN 4) (fRg1 (fCons (fV 1) fNil)) (fW [4, 5, 6, 7] (fSeq (fSet 5 (fLst fNil))
    (fSeq (fW [3, 6, 7] (fPre [4, 6, 7] (fFor (gN 6) (fItA (fV 3)) (fW [6, 7] (fSet 5 (fBin oAdd (fV 5) (fLc [7] (gN 7) (fItA (fV 0)) fYes (fBin oAdd (fV 6) (fV 7)))))))))
    (fSeq (fSet 3 (fV 5))
    (fSet 2 (fBin oAdd (fV 2) (fV 5))))))))))
    (fRet (fV 2)))))
def m_law_words : FM := mDef 8 b_law_words
theorem w_law_words {s0 s1 : Sl} {Q : PV → DL.Env → Prop} {X : XP} (h : WPS (b_law_words [s0, s1, .un, .un, .un, .un, .un, .un]) (fun e => WO (fin [s0, s1] e) (Q (.d .non))) (fun p e => (∀ i, p ≠ .sl i) ∧ WO (fin [s0, s1] e) (Q p)) (fun _ => False) (fun _ => False) (fun c d e => WO (fin [s0, s1] e) (X c d))) : WPE (m_law_words [s0, s1]) Q X := we_def rfl h
def b_law_pool : FS := (fSeq (fSet 2 (fBin oIx (fBin oAdd (fSl oSl (fV 0) (fPart (fV 1)) (fPart (fBin oAdd (fV 1) (fC (.int 1))))) (fLst (fCons (fC (.int 0)) fNil))) (fC (.int 0))))
    (fSeq (fSet 3 (fCB oMax2 (fCons (fV 2) (fCons (fBin oSub (fUn oNeg (fC (.int 1))) (fV 2)) fNil))))
    (fSeq (fSet 4 (fBin oMod (fBin oMul (fBin oAdd (fBin oAdd (fBin oAdd (fBin oMod (fV 3) (fC (.int 2147483629))) (fBin oMul (fBin oMul (fC (.int 7919)) (fV 1)) (fV 1))) (fBin oMul (fC (.int 31)) (fV 1))) (fC (.int 17))) (fC (.int 48271))) (fC (.int 2147483647))))
    (fRet (fLst (fCons (fBin oMul (fV 3) (fCB oInt (fCons (fBin oGe (fV 3) (fBin oPow (fC (.int 10)) (fC (.int 18)))) fNil))) (fCons (fBin oMod (fBin oMul (fV 4) (fV 4)) (fC (.int 2147483629))) fNil)))))))
def m_law_pool : FM := mDef 5 b_law_pool
theorem w_law_pool {s0 s1 : Sl} {Q : PV → DL.Env → Prop} {X : XP} (h : WPS (b_law_pool [s0, s1, .un, .un, .un]) (fun e => WO (fin [s0, s1] e) (Q (.d .non))) (fun p e => (∀ i, p ≠ .sl i) ∧ WO (fin [s0, s1] e) (Q p)) (fun _ => False) (fun _ => False) (fun c d e => WO (fin [s0, s1] e) (X c d))) : WPE (m_law_pool [s0, s1]) Q X := we_def rfl h
def b_law_take : FS := (fSeq (fW [2] (fIf (fTst (fBin oGt (fBin oIx (fV 0) (fC (.int 0))) (fC (.int 0)))) (fSeq (fSet 2 (fBin oMod (fBin oIx (fV 0) (fC (.int 0))) (fV 1)))
    (fSeq (fSti 0 oSetL (fC (.int 0)) (fBin oDiv (fBin oIx (fV 0) (fC (.int 0))) (fV 1)))
    (fRet (fV 2)))) fSkip))
    (fSeq (fSti 0 oSetL (fC (.int 1)) (fBin oMod (fBin oAdd (fBin oMul (fBin oIx (fV 0) (fC (.int 1))) (fC (.int 48271))) (fC (.int 12345))) (fC (.int 2147483647))))
    (fRet (fBin oMod (fBin oDiv (fBin oMod (fBin oMul (fBin oIx (fV 0) (fC (.int 1))) (fBin oIx (fV 0) (fC (.int 1)))) (fC (.int 2147483629))) (fC (.int 64))) (fV 1)))))
def m_law_take : FM := mDef 3 b_law_take
theorem w_law_take {s0 s1 : Sl} {Q : PV → DL.Env → Prop} {X : XP} (h : WPS (b_law_take [s0, s1, .un]) (fun e => WO (fin [s0, s1] e) (Q (.d .non))) (fun p e => (∀ i, p ≠ .sl i) ∧ WO (fin [s0, s1] e) (Q p)) (fun _ => False) (fun _ => False) (fun c d e => WO (fin [s0, s1] e) (X c d))) : WPE (m_law_take [s0, s1]) Q X := we_def rfl h
def b_law_program : FS := (fSeq (fSet 3 (fSl oSl (fC (.str [97, 65, 98, 66, 99, 67, 100, 68, 101, 69, 102, 70, 103, 71, 104, 72])) fNoPart (fPart (fBin oMul (fC (.int 2)) (fV 2)))))
    (fRet (fMt "str" oJoin (fC (.str [])) (fCons (fLc [4] (gN 4) (fRg1 (fCons (fCall m_law_take [true, false] [] (fCons (fV 0) (fCons (fBin oAdd (fV 1) (fC (.int 1))) fNil))) fNil)) fYes (fBin oIx (fV 3) (fCall m_law_take [true, false] [] (fCons (fV 0) (fCons (fBin oMul (fC (.int 2)) (fV 2)) fNil))))) fNil))))
def m_law_program : FM := mDef 5 b_law_program
theorem w_law_program {s0 s1 s2 : Sl} {Q : PV → DL.Env → Prop} {X : XP} (h : WPS (b_law_program [s0, s1, s2, .un, .un]) (fun e => WO (fin [s0, s1, s2] e) (Q (.d .non))) (fun p e => (∀ i, p ≠ .sl i) ∧ WO (fin [s0, s1, s2] e) (Q p)) (fun _ => False) (fun _ => False) (fun c d e => WO (fin [s0, s1, s2] e) (X c d))) : WPE (m_law_program [s0, s1, s2]) Q X := we_def rfl h
def b_Effect_eq : FS := (fSeq (fIf (fNot (fTst (fIsO [(5, true)] (fV 1)))) (fRet (fC (.bl false))) fSkip)
    (fRet (fBin (oEq id) (fTup (fCons (fUn (oFld [(5, 0)]) (fV 0)) (fCons (fUn (oFld [(5, 1)]) (fV 0)) (fCons (fUn (oFld [(5, 2)]) (fV 0)) fNil)))) (fTup (fCons (fUn (oFld [(5, 0)]) (fV 1)) (fCons (fUn (oFld [(5, 1)]) (fV 1)) (fCons (fUn (oFld [(5, 2)]) (fV 1)) fNil)))))))
def m_Effect_eq : FM := mDef 2 b_Effect_eq
theorem w_Effect_eq {s0 s1 : Sl} {Q : PV → DL.Env → Prop} {X : XP} (h : WPS (b_Effect_eq [s0, s1]) (fun e => WO (fin [s0, s1] e) (Q (.d .non))) (fun p e => (∀ i, p ≠ .sl i) ∧ WO (fin [s0, s1] e) (Q p)) (fun _ => False) (fun _ => False) (fun c d e => WO (fin [s0, s1] e) (X c d))) : WPE (m_Effect_eq [s0, s1]) Q X := we_def rfl h
def b_is_program : FS := (fSeq (fIf (fOr (fNot (fTst (fIs .str (fV 0)))) (fTst (fBin oGt (fCB oLen (fCons (fV 0) fNil)) (fC (.int 400))))) (fRet (fC (.bl false))) fSkip)
    (fRet (fCB oAll (fCons (fLc [1] (gN 1) (fItA (fV 0)) fYes (fBin (oIn id) (fV 1) (fBin oAdd (fC (.str [97, 98, 99, 100, 101, 102, 103, 104])) (fMt0 "str" oUpper (fC (.str [97, 98, 99, 100, 101, 102, 103, 104])))))) fNil))))
def m_is_program : FM := mDef 2 b_is_program
theorem w_is_program {s0 : Sl} {Q : PV → DL.Env → Prop} {X : XP} (h : WPS (b_is_program [s0, .un]) (fun e => WO (fin [s0] e) (Q (.d .non))) (fun p e => (∀ i, p ≠ .sl i) ∧ WO (fin [s0] e) (Q p)) (fun _ => False) (fun _ => False) (fun c d e => WO (fin [s0] e) (X c d))) : WPE (m_is_program [s0]) Q X := we_def rfl h
def b_require_program : FS := (fIf (fNot (fTst (fCall m_is_program [false] [] (fCons (fV 0) fNil)))) (fRaise 2 (fV 0)) fSkip)
def m_require_program : FM := mDef 1 b_require_program
theorem w_require_program {s0 : Sl} {Q : PV → DL.Env → Prop} {X : XP} (h : WPS (b_require_program [s0]) (fun e => WO (fin [s0] e) (Q (.d .non))) (fun p e => (∀ i, p ≠ .sl i) ∧ WO (fin [s0] e) (Q p)) (fun _ => False) (fun _ => False) (fun c d e => WO (fin [s0] e) (X c d))) : WPE (m_require_program [s0]) Q X := we_def rfl h
def b_taken : FS := (fRet (fMt "str" oJoin (fC (.str [])) (fCons (fLc [1] (gN 1) (fItA (fV 0)) (fTst (fBin (oIn not) (fV 1) (fC (.str [97, 98, 99, 100, 101, 102, 103, 104])))) (fMt0 "str" oLower (fV 1))) fNil)))
def m_taken : FM := mDef 2 b_taken
theorem w_taken {s0 : Sl} {Q : PV → DL.Env → Prop} {X : XP} (h : WPS (b_taken [s0, .un]) (fun e => WO (fin [s0] e) (Q (.d .non))) (fun p e => (∀ i, p ≠ .sl i) ∧ WO (fin [s0] e) (Q p)) (fun _ => False) (fun _ => False) (fun c d e => WO (fin [s0] e) (X c d))) : WPE (m_taken [s0]) Q X := we_def rfl h
def b_put_items : FS := (fRet (fMt "str" oJoin (fC (.str [])) (fCons (fLc [1] (gN 1) (fItA (fV 0)) (fTst (fBin (oIn id) (fV 1) (fC (.str [97, 98, 99, 100, 101, 102, 103, 104])))) (fV 1)) fNil)))
def m_put_items : FM := mDef 2 b_put_items
theorem w_put_items {s0 : Sl} {Q : PV → DL.Env → Prop} {X : XP} (h : WPS (b_put_items [s0, .un]) (fun e => WO (fin [s0] e) (Q (.d .non))) (fun p e => (∀ i, p ≠ .sl i) ∧ WO (fin [s0] e) (Q p)) (fun _ => False) (fun _ => False) (fun c d e => WO (fin [s0] e) (X c d))) : WPE (m_put_items [s0]) Q X := we_def rfl h
def b_places : FS := (fSeq (fUp (fSet 2 (fC (.int 0))))
    (fSeq (fForG (gN 3) (fItA (fV 0)) (fSeq (fUp (fSet 4 (fMt "str" oFind2 (fV 1) (fCons (fV 3) (fCons (fV 2) fNil)))))
    (fSeq (fUp (fIf (fTst (fBin oLt (fV 4) (fC (.int 0)))) fRetN fSkip))
    (fSeq (fYield (fV 4))
    (fSeq (fUp (fSet 2 (fBin oAdd (fV 4) (fC (.int 1)))))
    fSkip)))))
    fSkip))
def m_places : List D → Option (List D) := mGen 5 b_places
theorem w_places {d0 d1 : D} {ys : List D} (h : WPS (b_places [.ce false (.lst []), .va d0, .va d1, .un, .un, .un]) (fun e => ∃ e', e = .ce false (.lst ys) :: e') (fun p e => p = .d .non ∧ ∃ e', e = .ce false (.lst ys) :: e') (fun _ => False) (fun _ => False) XF) : m_places [d0, d1] = some ys := mgen_eq (n := 5) h
def b_succeeds_from : FS := (fSeq (fSet 4 (fListG m_places (fCons (fSl oSl (fV 0) (fPart (fV 3)) fNoPart) (fCons (fV 1) fNil))))
    (fSeq (fIf (fTst (fBin oLt (fCB oLen (fCons (fV 4) fNil)) (fBin oSub (fCB oLen (fCons (fV 0) fNil)) (fV 3)))) (fRet (fC (.bl false))) fSkip)
    (fRet (fCB oAll (fCons (fLc [5, 6] (gT 2 (gsCons (gN 5) (gsCons (gN 6) gsNil))) (fItZ (fCons (fV 4) (fCons (fSl oSl (fV 2) (fPart (fV 3)) fNoPart) fNil))) fYes (fBin oLt (fV 5) (fV 6))) fNil)))))
def m_succeeds_from : FM := mDef 7 b_succeeds_from
theorem w_succeeds_from {s0 s1 s2 s3 : Sl} {Q : PV → DL.Env → Prop} {X : XP} (h : WPS (b_succeeds_from [s0, s1, s2, s3, .un, .un, .un]) (fun e => WO (fin [s0, s1, s2, s3] e) (Q (.d .non))) (fun p e => (∀ i, p ≠ .sl i) ∧ WO (fin [s0, s1, s2, s3] e) (Q p)) (fun _ => False) (fun _ => False) (fun c d e => WO (fin [s0, s1, s2, s3] e) (X c d))) : WPE (m_succeeds_from [s0, s1, s2, s3]) Q X := we_def rfl h
def b_core_of : FS := (fSeq (fPar 3 4 (fCons (fC (.int 0)) (fCons (fCB oLen (fCons (fV 0) fNil)) fNil)))
    (fSeq (fW [0, 1, 2, 4, 5] (fPre [5] (fWhile FUEL (fTst (fBin oLt (fV 3) (fV 4))) (fW [5] (fSeq (fSet 5 (fBin oDiv (fBin oAdd (fV 3) (fV 4)) (fC (.int 2))))
    (fIf (fTst (fCall m_succeeds_from [false, false, false, false] [] (fCons (fV 0) (fCons (fV 1) (fCons (fV 2) (fCons (fV 5) fNil)))))) (fSet 4 (fV 5)) (fSet 3 (fBin oAdd (fV 5) (fC (.int 1))))))))))
    (fRet (fV 3))))
def m_core_of : FM := mDef 6 b_core_of
theorem w_core_of {s0 s1 s2 : Sl} {Q : PV → DL.Env → Prop} {X : XP} (h : WPS (b_core_of [s0, s1, s2, .un, .un, .un]) (fun e => WO (fin [s0, s1, s2] e) (Q (.d .non))) (fun p e => (∀ i, p ≠ .sl i) ∧ WO (fin [s0, s1, s2] e) (Q p)) (fun _ => False) (fun _ => False) (fun c d e => WO (fin [s0, s1, s2] e) (X c d))) : WPE (m_core_of [s0, s1, s2]) Q X := we_def rfl h
def b_counts : FS := (fSeq (fSet 1 (fLst fNil))
    (fSeq (fSet 2 (fC (.int 0)))
    (fSeq (fW [0, 2, 3] (fPre [3] (fFor (gN 3) (fItA (fV 0)) (fW [3] (fIf (fTst (fBin (oIn id) (fV 3) (fC (.str [97, 98, 99, 100, 101, 102, 103, 104])))) (fAug 2 oAugAdd (fC (.int 1))) (fDrop (fMu 1 "list" oApp (fCons (fV 2) fNil))))))))
    (fRet (fV 1)))))
def m_counts : FM := mDef 4 b_counts
theorem w_counts {s0 : Sl} {Q : PV → DL.Env → Prop} {X : XP} (h : WPS (b_counts [s0, .un, .un, .un]) (fun e => WO (fin [s0] e) (Q (.d .non))) (fun p e => (∀ i, p ≠ .sl i) ∧ WO (fin [s0] e) (Q p)) (fun _ => False) (fun _ => False) (fun c d e => WO (fin [s0] e) (X c d))) : WPE (m_counts [s0]) Q X := we_def rfl h
def b_triple : FS := (fSeq (fPar 1 2 (fCons (fCall m_taken [false] [] (fCons (fV 0) fNil)) (fCons (fCall m_put_items [false] [] (fCons (fV 0) fNil)) fNil)))
    (fRet (fTup (fCons (fV 1) (fCons (fV 2) (fCons (fCall m_core_of [false, false, false] [] (fCons (fV 1) (fCons (fV 2) (fCons (fCall m_counts [false] [] (fCons (fV 0) fNil)) fNil)))) fNil))))))
def m_triple : FM := mDef 3 b_triple
theorem w_triple {s0 : Sl} {Q : PV → DL.Env → Prop} {X : XP} (h : WPS (b_triple [s0, .un, .un]) (fun e => WO (fin [s0] e) (Q (.d .non))) (fun p e => (∀ i, p ≠ .sl i) ∧ WO (fin [s0] e) (Q p)) (fun _ => False) (fun _ => False) (fun c d e => WO (fin [s0] e) (X c d))) : WPE (m_triple [s0]) Q X := we_def rfl h
def b_equivalent : FS := (fSeq (fDrop (fCall m_require_program [false] [] (fCons (fV 0) fNil)))
    (fSeq (fDrop (fCall m_require_program [false] [] (fCons (fV 1) fNil)))
    (fRet (fBin (oEq id) (fCall m_triple [false] [] (fCons (fV 0) fNil)) (fCall m_triple [false] [] (fCons (fV 1) fNil))))))
def m_equivalent : FM := mDef 2 b_equivalent
theorem w_equivalent {s0 s1 : Sl} {Q : PV → DL.Env → Prop} {X : XP} (h : WPS (b_equivalent [s0, s1]) (fun e => WO (fin [s0, s1] e) (Q (.d .non))) (fun p e => (∀ i, p ≠ .sl i) ∧ WO (fin [s0, s1] e) (Q p)) (fun _ => False) (fun _ => False) (fun c d e => WO (fin [s0, s1] e) (X c d))) : WPE (m_equivalent [s0, s1]) Q X := we_def rfl h
def b_Effect_takes : FS := (fRet (fUn (oFld [(5, 0)]) (fV 0)))
def m_Effect_takes : FM := mDef 1 b_Effect_takes
theorem w_Effect_takes {s0 : Sl} {Q : PV → DL.Env → Prop} {X : XP} (h : WPS (b_Effect_takes [s0]) (fun e => WO (fin [s0] e) (Q (.d .non))) (fun p e => (∀ i, p ≠ .sl i) ∧ WO (fin [s0] e) (Q p)) (fun _ => False) (fun _ => False) (fun c d e => WO (fin [s0] e) (X c d))) : WPE (m_Effect_takes [s0]) Q X := we_def rfl h
def b_is_word : FS := (fRet (fAndV (fIs .str (fV 0)) (fAndV (fBin oLe (fCB oLen (fCons (fV 0) fNil)) (fC (.int 400))) (fCB oAll (fCons (fLc [1] (gN 1) (fItA (fV 0)) fYes (fBin (oIn id) (fV 1) (fC (.str [97, 98, 99, 100, 101, 102, 103, 104])))) fNil)))))
def m_is_word : FM := mDef 2 b_is_word
theorem w_is_word {s0 : Sl} {Q : PV → DL.Env → Prop} {X : XP} (h : WPS (b_is_word [s0, .un]) (fun e => WO (fin [s0] e) (Q (.d .non))) (fun p e => (∀ i, p ≠ .sl i) ∧ WO (fin [s0] e) (Q p)) (fun _ => False) (fun _ => False) (fun c d e => WO (fin [s0] e) (X c d))) : WPE (m_is_word [s0]) Q X := we_def rfl h
def b_require_word : FS := (fIf (fNot (fTst (fCall m_is_word [false] [] (fCons (fV 0) fNil)))) (fRaise 1 (fV 0)) fSkip)
def m_require_word : FM := mDef 1 b_require_word
theorem w_require_word {s0 : Sl} {Q : PV → DL.Env → Prop} {X : XP} (h : WPS (b_require_word [s0]) (fun e => WO (fin [s0] e) (Q (.d .non))) (fun p e => (∀ i, p ≠ .sl i) ∧ WO (fin [s0] e) (Q p)) (fun _ => False) (fun _ => False) (fun c d e => WO (fin [s0] e) (X c d))) : WPE (m_require_word [s0]) Q X := we_def rfl h
def b_is_integer : FS := (fRet (fAndV (fIs .int (fV 0)) (fNotV (fIs .bool (fV 0)))))
def m_is_integer : FM := mDef 1 b_is_integer
theorem w_is_integer {s0 : Sl} {Q : PV → DL.Env → Prop} {X : XP} (h : WPS (b_is_integer [s0]) (fun e => WO (fin [s0] e) (Q (.d .non))) (fun p e => (∀ i, p ≠ .sl i) ∧ WO (fin [s0] e) (Q p)) (fun _ => False) (fun _ => False) (fun c d e => WO (fin [s0] e) (X c d))) : WPE (m_is_integer [s0]) Q X := we_def rfl h
def b_is_within : FS := (fRet (fBin (oEq id) (fCB oLen (fCons (fListG m_places (fCons (fV 0) (fCons (fV 1) fNil))) fNil)) (fCB oLen (fCons (fV 0) fNil))))
def m_is_within : FM := mDef 2 b_is_within
theorem w_is_within {s0 s1 : Sl} {Q : PV → DL.Env → Prop} {X : XP} (h : WPS (b_is_within [s0, s1]) (fun e => WO (fin [s0, s1] e) (Q (.d .non))) (fun p e => (∀ i, p ≠ .sl i) ∧ WO (fin [s0, s1] e) (Q p)) (fun _ => False) (fun _ => False) (fun c d e => WO (fin [s0, s1] e) (X c d))) : WPE (m_is_within [s0, s1]) Q X := we_def rfl h
def b_Effect_is_core : FS := (fSeq (fDrop (fCall m_require_word [false] [] (fCons (fV 0) fNil)))
    (fSeq (fDrop (fCall m_require_word [false] [] (fCons (fV 1) fNil)))
    (fRet (fAndV (fCall m_is_integer [false] [] (fCons (fV 2) fNil)) (fAndV (fChain oLe oLe (fC (.int 0)) (fV 2) (fCB oLen (fCons (fV 0) fNil))) (fCall m_is_within [false, false] [] (fCons (fSl oSl (fV 0) (fPart (fV 2)) fNoPart) (fCons (fV 1) fNil))))))))
def m_Effect_is_core : FM := mDef 3 b_Effect_is_core
theorem w_Effect_is_core {s0 s1 s2 : Sl} {Q : PV → DL.Env → Prop} {X : XP} (h : WPS (b_Effect_is_core [s0, s1, s2]) (fun e => WO (fin [s0, s1, s2] e) (Q (.d .non))) (fun p e => (∀ i, p ≠ .sl i) ∧ WO (fin [s0, s1, s2] e) (Q p)) (fun _ => False) (fun _ => False) (fun c d e => WO (fin [s0, s1, s2] e) (X c d))) : WPE (m_Effect_is_core [s0, s1, s2]) Q X := we_def rfl h
def b_Effect_init : FS := (fSeq (fDrop (fCall m_require_word [false] [] (fCons (fV 1) fNil)))
    (fSeq (fDrop (fCall m_require_word [false] [] (fCons (fV 2) fNil)))
    (fSeq (fIf (fNot (fTst (fCall m_Effect_is_core [false, false, false] [] (fCons (fV 1) (fCons (fV 2) (fCons (fV 3) fNil)))))) (fRaise 3 (fV 3)) fSkip)
    (fSeq (fIf (fTst (fBin oGt (fBin oAdd (fCB oLen (fCons (fV 1) fNil)) (fCB oLen (fCons (fV 2) fNil))) (fC (.int 400)))) (fRaise 4 (fC (.int 400))) fSkip)
    (fSeq (fSetF 0 [(6, 7, 0)] (fV 1))
    (fSeq (fSetF 0 [(7, 8, 1)] (fV 2))
    (fSetF 0 [(8, 5, 2)] (fV 3))))))))
def m_Effect_init : FM := mDef 4 b_Effect_init
theorem w_Effect_init {s0 s1 s2 s3 : Sl} {Q : PV → DL.Env → Prop} {X : XP} (h : WPS (b_Effect_init [s0, s1, s2, s3]) (fun e => WO (fin [s0, s1, s2, s3] e) (Q (.d .non))) (fun p e => (∀ i, p ≠ .sl i) ∧ WO (fin [s0, s1, s2, s3] e) (Q p)) (fun _ => False) (fun _ => False) (fun c d e => WO (fin [s0, s1, s2, s3] e) (X c d))) : WPE (m_Effect_init [s0, s1, s2, s3]) Q X := we_def rfl h
def b_Effect_of : FS := (fSeq (fDrop (fCall m_require_program [false] [] (fCons (fV 1) fNil)))
    (fSeq (fTgt (gT 3 (gsCons (gN 2) (gsCons (gN 3) (gsCons (gN 4) gsNil)))) (fCall m_triple [false] [] (fCons (fV 1) fNil)))
    (fRet (fMake 5 6 m_Effect_init (fV 0) (fCons (fV 2) (fCons (fV 3) (fCons (fV 4) fNil)))))))
def m_Effect_of : FM := mDef 5 b_Effect_of
theorem w_Effect_of {s0 s1 : Sl} {Q : PV → DL.Env → Prop} {X : XP} (h : WPS (b_Effect_of [s0, s1, .un, .un, .un]) (fun e => WO (fin [s0, s1] e) (Q (.d .non))) (fun p e => (∀ i, p ≠ .sl i) ∧ WO (fin [s0, s1] e) (Q p)) (fun _ => False) (fun _ => False) (fun c d e => WO (fin [s0, s1] e) (X c d))) : WPE (m_Effect_of [s0, s1]) Q X := we_def rfl h
def b_law_best : FS := (fSeq (fW [0, 2] (fPre [2] (fFor (gN 2) (fItA (fV 0)) (fW [2] (fIf (fTst (fBin (oIn id) (fV 2) (fC (.str [97, 98, 99, 100, 101, 102, 103, 104])))) (fSet 1 (fBin oAdd (fV 1) (fV 2))) (fIf (fTst (fBin (oIn id) (fMt0 "str" oLower (fV 2)) (fV 1))) (fSet 1 (fSl oSl (fV 1) (fPart (fBin oAdd (fMt "str" oIndex (fV 1) (fCons (fMt0 "str" oLower (fV 2)) fNil)) (fC (.int 1)))) fNoPart)) (fRet (fC .non))))))))
    (fRet (fV 1)))
def m_law_best : FM := mDef 3 b_law_best
theorem w_law_best {s0 s1 : Sl} {Q : PV → DL.Env → Prop} {X : XP} (h : WPS (b_law_best [s0, s1, .un]) (fun e => WO (fin [s0, s1] e) (Q (.d .non))) (fun p e => (∀ i, p ≠ .sl i) ∧ WO (fin [s0, s1] e) (Q p)) (fun _ => False) (fun _ => False) (fun c d e => WO (fin [s0, s1] e) (X c d))) : WPE (m_law_best [s0, s1]) Q X := we_def rfl h
def b_law : FS := (fSeq (fSet 1 (fCall m_law_words [false, false] [] (fCons (fC (.str [97, 98, 99])) (fCons (fC (.int 6)) fNil))))
    (fSeq (fW [0, 1, 2, 3, 4, 5, 6, 7, 8, 9, 10] (fPre [2, 3, 4, 5, 6, 7, 8, 9, 10] (fFor (gN 2) (fRg1 (fCons (fCB oMax2 (fCons (fC (.int 1)) (fCons (fCB oMin2 (fCons (fC (.int 12)) (fCons (fCB oLen (fCons (fV 0) fNil)) fNil))) fNil))) fNil)) (fW [2, 3, 4, 5, 6, 7, 8, 9, 10] (fSeq (fSet 3 (fCall m_law_pool [false, false] [] (fCons (fV 0) (fCons (fV 2) fNil))))
    (fSeq (fSet 4 (fCall m_law_program [true, false, false] [] (fCons (fV 3) (fCons (fC (.int 5)) (fCons (fC (.int 2)) fNil)))))
    (fSeq (fSet 5 (fCall m_law_take [true, false] [] (fCons (fV 3) (fCons (fC (.int 5)) fNil))))
    (fSeq (fSet 6 (fBin oAdd (fBin oAdd (fSl oSl (fV 4) fNoPart (fPart (fV 5))) (fUn oRevB (fSl oSl (fV 4) (fPart (fV 5)) (fPart (fBin oAdd (fV 5) (fC (.int 2))))))) (fSl oSl (fV 4) (fPart (fBin oAdd (fV 5) (fC (.int 2)))) fNoPart)))
    (fSeq (fIf (fTst (fBin (oEq id) (fCall m_law_take [true, false] [] (fCons (fV 3) (fCons (fC (.int 3)) fNil))) (fC (.int 0)))) (fSet 6 (fCall m_law_program [true, false, false] [] (fCons (fV 3) (fCons (fC (.int 5)) (fCons (fC (.int 2)) fNil))))) fSkip)
    (fSeq (fSet 7 (fBin oAdd (fC (.int 1)) (fCB oMin2 (fCons (fCB oLen (fCons (fProp [5] m_Effect_takes (fCall m_Effect_of [false, false] [] (fCons (fIsC 5 (fC (.cls 5))) (fCons (fV 4) fNil)))) fNil)) (fCons (fCB oLen (fCons (fProp [5] m_Effect_takes (fCall m_Effect_of [false, false] [] (fCons (fIsC 5 (fC (.cls 5))) (fCons (fV 6) fNil)))) fNil)) fNil)))))
    (fSeq (fSet 8 (fLc [10] (gN 10) (fItA (fV 1)) (fTst (fBin oLe (fCB oLen (fCons (fV 10) fNil)) (fV 7))) (fV 10)))
    (fSeq (fSet 9 (fBin (oEq id) (fLc [10] (gN 10) (fItA (fV 8)) (fTst (fBin (oEq not) (fCall m_law_best [false, false] [] (fCons (fV 4) (fCons (fV 10) fNil))) (fCall m_law_best [false, false] [] (fCons (fV 6) (fCons (fV 10) fNil))))) (fV 10)) (fLst fNil)))
    (fIf (fOr (fTst (fBin (oEq not) (fOwn [5] m_Effect_eq (fCall m_Effect_of [false, false] [] (fCons (fIsC 5 (fC (.cls 5))) (fCons (fV 4) fNil))) (fCall m_Effect_of [false, false] [] (fCons (fIsC 5 (fC (.cls 5))) (fCons (fV 6) fNil)))) (fV 9))) (fTst (fBin (oEq not) (fCB oRepr (fCons (fCall m_equivalent [false, false] [] (fCons (fV 4) (fCons (fV 6) fNil))) fNil)) (fCB oRepr (fCons (fV 9) fNil))))) (fRet (fC (.bl false))) fSkip)))))))))))))
    (fRet (fAndV (fBin (oIsB id) (fCall m_equivalent [false, false] [] (fCons (fC (.str [97, 65])) (fCons (fC (.str [])) fNil))) (fC (.bl false))) (fBin (oIsB id) (fCallK m_equivalent (permL [1, 0]) (fCons (fC (.str [97, 65, 65])) (fCons (fC (.str [65, 97, 65])) fNil))) (fC (.bl true)))))))
def m_law : FM := mDef 11 b_law
theorem w_law {s0 : Sl} {Q : PV → DL.Env → Prop} {X : XP} (h : WPS (b_law [s0, .un, .un, .un, .un, .un, .un, .un, .un, .un, .un]) (fun e => WO (fin [s0] e) (Q (.d .non))) (fun p e => (∀ i, p ≠ .sl i) ∧ WO (fin [s0] e) (Q p)) (fun _ => False) (fun _ => False) (fun c d e => WO (fin [s0] e) (X c d))) : WPE (m_law [s0]) Q X := we_def rfl h
end K24
set_option Elab.async false
set_option linter.all false
set_option maxRecDepth 100000
set_option maxHeartbeats 4000000
namespace K24
open PySem PySem.Spec PyProof.Rows L2 DL
local macro_rules | `(tactic| ked_read) => `(tactic| (try simp only [List.length_append, List.length_cons, List.length_nil, List.length_map, List.length_drop, List.length_take, List.length_replicate, List.length_range, List.length_reverse, List.length_tail, List.length_eraseIdx, LIM] at *) <;> omega)
local macro_rules | `(tactic| kln_le) => `(tactic| first | (with_reducible exact rfl) | (with_reducible assumption) | omega | (simp only [List.length_append, List.length_cons, List.length_nil, List.length_map, List.length_drop, List.length_take, List.length_range, List.length_reverse, LIM] <;> omega) | ((with_reducible apply cMul_l); omega) | ((with_reducible apply cMul_r); omega) | (with_reducible exact isI_iff.mpr (by omega)) | ((with_reducible show cPow _ _ = true); decide))
local macro_rules | `(tactic| keq_rows) => `(tactic| (simp only [List.length_cons, List.length_nil] <;> omega))
local macro_rules | `(tactic| ke_read) => `(tactic| ((repeat' first | kct_strs | (with_reducible refine et_and ?_ (fun _ => ?_)) | (with_reducible refine et_or ?_ (fun _ => ?_)) | ((with_reducible apply et_not)) | ((with_reducible apply et_tst)) | ((with_reducible apply ed_V); (· exact rfl)) | ((with_reducible apply ed_S); (· exact rfl)) | ((with_reducible apply ed_C)) | ((with_reducible apply el_nil)) | ((with_reducible apply el_cons)) | ((with_reducible apply epa_no)) | ((with_reducible apply epa_pt)) | ((with_reducible apply ed_notV)) | (with_reducible refine ed_andV ?_ (fun _ => ?_)) | (with_reducible refine ed_orV ?_ (fun _ => ?_)) | (with_reducible apply ed_is) | (with_reducible apply ed_binA) | (with_reducible apply ed_unA) | (with_reducible apply ed_cbA) | ((with_reducible apply ed_slA)) | (with_reducible apply ed_mt0A) | (with_reducible apply ed_mtA) | (with_reducible refine q_addI) | (with_reducible refine (q_addS ?_)) | (with_reducible refine q_augI) | (with_reducible refine (q_augS ?_)) | (with_reducible refine q_sub) | (with_reducible refine q_neg) | (with_reducible refine (q_mul ?_)) | (with_reducible refine (q_mulS ?_ ?_ ?_)) | (with_reducible refine (q_mod ?_)) | (with_reducible refine (q_div ?_ ?_)) | (with_reducible refine (q_pow ?_)) | (with_reducible refine q_lt) | (with_reducible refine q_le) | (with_reducible refine q_gt) | (with_reducible refine q_ge) | (with_reducible refine q_eqI) | (with_reducible refine q_neI) | (with_reducible refine q_eqS) | (with_reducible refine q_neS) | (with_reducible refine q_eqB) | (with_reducible refine q_neB) | (with_reducible refine q_eqNS) | (with_reducible refine q_eqSN) | (with_reducible refine q_eqNN) | (with_reducible refine q_neNS) | (with_reducible refine q_neSN) | (with_reducible refine q_neNN) | (with_reducible refine q_isNN) | (with_reducible refine q_isNS) | (with_reducible refine q_isNI) | (with_reducible refine q_isNL) | (with_reducible refine q_isNT) | (with_reducible refine q_ntNN) | (with_reducible refine q_ntNS) | (with_reducible refine q_ntNI) | (with_reducible refine q_ntNL) | (with_reducible refine q_ntNT) | (with_reducible refine q_isT) | (with_reducible refine q_isF) | (with_reducible refine q_ntT) | (with_reducible refine q_ntF) | (with_reducible refine q_inI) | (with_reducible refine q_niI) | (with_reducible refine q_inC) | (with_reducible refine q_niC) | (with_reducible refine q_lenM) | (with_reducible refine q_lenF) | (with_reducible refine q_lenL) | (with_reducible refine q_lenT) | (with_reducible refine (q_lenS ?_)) | (with_reducible refine q_max) | (with_reducible refine q_min) | (with_reducible refine q_intI) | (with_reducible refine q_intB) | (with_reducible refine q_all) | (with_reducible refine q_any) | (with_reducible refine (q_joinC ?_)) | (with_reducible refine (q_join0 ?_)) | (with_reducible refine (q_joinW ?_)) | (with_reducible refine (q_join ?_)) | (with_reducible refine (q_low1 ?_)) | (with_reducible refine (q_upp1 ?_)) | (with_reducible refine (q_low ?_ ?_)) | (with_reducible refine (q_upp ?_ ?_)) | (with_reducible refine q_find) | (with_reducible refine (q_find2 ?_)) | (with_reducible refine (q_sSd ?_ ?_)) | (with_reducible refine (q_sSt ?_ ?_)) | (with_reducible refine (q_sSb ?_ ?_ ?_)) | (with_reducible refine (q_sS ?_)) | (with_reducible refine (q_revBS ?_)) | (with_reducible refine (q_addM ?_)) | (with_reducible refine (q_addL ?_)) | (with_reducible refine (q_mulL ?_ ?_ ?_)) | (with_reducible refine (q_sMd ?_)) | (with_reducible refine (q_sMt ?_)) | (with_reducible refine (q_sMb ?_ ?_)) | (with_reducible refine q_sM) | (with_reducible refine q_sF) | (with_reducible refine q_sL) | (with_reducible refine (q_listS ?_)) | (with_reducible refine q_listL) | (with_reducible refine q_listT) | (with_reducible refine (q_sort ?_)) | (with_reducible refine q_revM) | (with_reducible refine q_rev) | (with_reducible refine q_revBM) | (with_reducible refine q_revBL) | (with_reducible refine (q_rgL1 ?_)) | (with_reducible refine (q_rgL2 ?_)) | (with_reducible apply q_fld; exact rfl; exact rfl) | (with_reducible apply q_ixT; exact rfl) | (with_reducible apply q_ixL; exact rfl) | (with_reducible refine q_ixM ?_ ?_) | (with_reducible refine q_ixC ?_ ?_ ?_) | ((with_reducible show isD _ _ = some _); exact rfl) | ((with_reducible show isTy _ _ = true); exact rfl) | kln_le); done))
local macro_rules | `(tactic| kat_tups) => `(tactic| first | kct_strs | ((with_reducible show WN _ _); first | ((with_reducible apply wn); (· first | (simp only [DL.st, DL.wipeE, DL.back, DL.upds, DL.gt]; exact rfl) | exact rfl))) | ((with_reducible show WN2 _ _ _); first | ((with_reducible apply wn2); (· first | (simp only [DL.st, DL.wipeE, DL.back, DL.upds, DL.gt]; exact rfl) | exact rfl))) | ((with_reducible show WPS _ _ _ _ _ _); first | ((with_reducible apply ws_seq)) | ((with_reducible apply ws_set)) | ((with_reducible apply ws_setF)) | ((with_reducible apply ws_skip)) | ((with_reducible apply ws_pass)) | ((with_reducible apply ws_brk)) | ((with_reducible apply ws_cnt)) | ((with_reducible apply ws_retN)) | ((with_reducible apply ws_drop)) | ((with_reducible apply ws_ret)) | ((with_reducible apply ws_sti)) | ((with_reducible apply ws_raise)) | ((with_reducible apply ws_tgt)) | ((with_reducible apply ws_parC)) | ((with_reducible apply ws_par)) | ((with_reducible apply ws_for)) | ((with_reducible apply ws_try)) | ((with_reducible apply ws_W)) | ((with_reducible apply ws_P)) | ((with_reducible apply ws_up)) | ((with_reducible apply ws_forG)) | ((with_reducible apply wkplain)) | ((with_reducible apply wh_n)) | ((with_reducible apply ws_ifP (ft := fAnd _ _)); · ke_read) | ((with_reducible apply ws_ifP (ft := fOr _ _)); · ke_read) | ((with_reducible apply ws_if)) | ((with_reducible apply ws_aug); (· exact rfl)) | ((with_reducible apply ws_yield)) | ((with_reducible apply ws_kapp); (· keq_rows); (· exact rfl); (· exact rfl); (· exact rfl)) | ((with_reducible apply wh_t); (· exact rfl)) | ((with_reducible apply wh_f); (· exact rfl)) | ((with_reducible apply wkret); (· keq_rows))) | ((with_reducible show WPE _ _ _); first | ((with_reducible apply we_bin)) | ((with_reducible apply we_Vd); (· exact rfl)) | ((with_reducible apply we_Vs); (· exact rfl)) | ((with_reducible apply we_C)) | ((with_reducible apply we_cons)) | ((with_reducible apply we_nil)) | ((with_reducible apply we_own)) | ((with_reducible apply we_isO)) | ((with_reducible apply we_ins)) | ((with_reducible apply we_isC)) | ((with_reducible apply we_prop)) | ((with_reducible apply we_make)) | ((with_reducible apply we_Y)) | ((with_reducible apply we_cb)) | ((with_reducible apply we_un)) | ((with_reducible apply we_lst)) | ((with_reducible apply we_tup)) | ((with_reducible apply we_tst)) | ((with_reducible apply we_not)) | ((with_reducible apply we_notV)) | ((with_reducible apply we_part)) | ((with_reducible apply we_sl)) | ((with_reducible apply we_mt0)) | ((with_reducible apply we_mt)) | ((with_reducible apply we_is)) | ((with_reducible apply we_itA)) | ((with_reducible apply we_rg1)) | ((with_reducible apply we_rg2)) | ((with_reducible apply we_itE)) | ((with_reducible apply we_itZ)) | ((with_reducible apply we_call)) | ((with_reducible apply we_callK)) | ((with_reducible apply we_lc)) | ((with_reducible apply we_noP)) | ((with_reducible apply we_dic0)) | ((with_reducible apply we_chain)) | ((with_reducible apply we_listG)) | ((with_reducible apply we_orT)) | ((with_reducible apply we_andT)) | ((with_reducible apply we_and)) | ((with_reducible apply we_or)) | ((with_reducible apply we_andV)) | ((with_reducible apply we_orV)) | ((with_reducible apply we_ifE)) | ((with_reducible apply we_mu); (· exact rfl); (· exact rfl)) | ((with_reducible apply we_pop); (· exact rfl)) | ((with_reducible apply we_sett); (· exact rfl)) | ((with_reducible apply we_settL); (· exact rfl))) | ((with_reducible show WR _ _ _); first | (with_reducible refine wr_at q_addI ?_) | (with_reducible refine wr_at (q_addS ?_) ?_) | (with_reducible refine wr_at q_augI ?_) | (with_reducible refine wr_at (q_augS ?_) ?_) | (with_reducible refine wr_at q_sub ?_) | (with_reducible refine wr_at q_neg ?_) | (with_reducible refine wr_at (q_mul ?_) ?_) | (with_reducible refine wr_at (q_mulS ?_ ?_ ?_) ?_) | (with_reducible refine wr_at (q_mod ?_) ?_) | (with_reducible refine wr_at (q_div ?_ ?_) ?_) | (with_reducible refine wr_at (q_pow ?_) ?_) | (with_reducible refine wr_at q_lt ?_) | (with_reducible refine wr_at q_le ?_) | (with_reducible refine wr_at q_gt ?_) | (with_reducible refine wr_at q_ge ?_) | (with_reducible refine wr_at q_eqI ?_) | (with_reducible refine wr_at q_neI ?_) | (with_reducible refine wr_at q_eqS ?_) | (with_reducible refine wr_at q_neS ?_) | (with_reducible refine wr_at q_eqB ?_) | (with_reducible refine wr_at q_neB ?_) | (with_reducible refine wr_at q_eqNS ?_) | (with_reducible refine wr_at q_eqSN ?_) | (with_reducible refine wr_at q_eqNN ?_) | (with_reducible refine wr_at q_neNS ?_) | (with_reducible refine wr_at q_neSN ?_) | (with_reducible refine wr_at q_neNN ?_) | (with_reducible refine wr_at q_isNN ?_) | (with_reducible refine wr_at q_isNS ?_) | (with_reducible refine wr_at q_isNI ?_) | (with_reducible refine wr_at q_isNL ?_) | (with_reducible refine wr_at q_isNT ?_) | (with_reducible refine wr_at q_ntNN ?_) | (with_reducible refine wr_at q_ntNS ?_) | (with_reducible refine wr_at q_ntNI ?_) | (with_reducible refine wr_at q_ntNL ?_) | (with_reducible refine wr_at q_ntNT ?_) | (with_reducible refine wr_at q_isT ?_) | (with_reducible refine wr_at q_isF ?_) | (with_reducible refine wr_at q_ntT ?_) | (with_reducible refine wr_at q_ntF ?_) | (with_reducible refine wr_at q_inI ?_) | (with_reducible refine wr_at q_niI ?_) | (with_reducible refine wr_at q_inC ?_) | (with_reducible refine wr_at q_niC ?_) | (with_reducible refine wr_at q_lenM ?_) | (with_reducible refine wr_at q_lenF ?_) | (with_reducible refine wr_at q_lenL ?_) | (with_reducible refine wr_at q_lenT ?_) | (with_reducible refine wr_at (q_lenS ?_) ?_) | (with_reducible refine wr_at q_max ?_) | (with_reducible refine wr_at q_min ?_) | (with_reducible refine wr_at q_intI ?_) | (with_reducible refine wr_at q_intB ?_) | (with_reducible refine wr_at q_all ?_) | (with_reducible refine wr_at q_any ?_) | (with_reducible refine wr_at (q_joinC ?_) ?_) | (with_reducible refine wr_at (q_join0 ?_) ?_) | (with_reducible refine wr_at (q_joinW ?_) ?_) | (with_reducible refine wr_at (q_join ?_) ?_) | (with_reducible refine wr_at (q_low1 ?_) ?_) | (with_reducible refine wr_at (q_upp1 ?_) ?_) | (with_reducible refine wr_at (q_low ?_ ?_) ?_) | (with_reducible refine wr_at (q_upp ?_ ?_) ?_) | (with_reducible refine wr_at q_find ?_) | (with_reducible refine wr_at (q_find2 ?_) ?_) | (with_reducible refine wr_at (q_sSd ?_ ?_) ?_) | (with_reducible refine wr_at (q_sSt ?_ ?_) ?_) | (with_reducible refine wr_at (q_sSb ?_ ?_ ?_) ?_) | (with_reducible refine wr_at (q_sS ?_) ?_) | (with_reducible refine wr_at (q_revBS ?_) ?_) | (with_reducible refine wr_ls (q_addM ?_) ?_) | (with_reducible refine wr_ls (q_addL ?_) ?_) | (with_reducible refine wr_ls (q_mulL ?_ ?_ ?_) ?_) | (with_reducible refine wr_ls (q_sMd ?_) ?_) | (with_reducible refine wr_ls (q_sMt ?_) ?_) | (with_reducible refine wr_ls (q_sMb ?_ ?_) ?_) | (with_reducible refine wr_ls q_sM ?_) | (with_reducible refine wr_ls q_sF ?_) | (with_reducible refine wr_ls q_sL ?_) | (with_reducible refine wr_ls (q_listS ?_) ?_) | (with_reducible refine wr_ls q_listL ?_) | (with_reducible refine wr_ls q_listT ?_) | (with_reducible refine wr_ls (q_sort ?_) ?_) | (with_reducible refine wr_ls q_revM ?_) | (with_reducible refine wr_ls q_rev ?_) | (with_reducible refine wr_ls q_revBM ?_) | (with_reducible refine wr_ls q_revBL ?_) | (with_reducible refine wr_ls (q_rgL1 ?_) ?_) | (with_reducible refine wr_ls (q_rgL2 ?_) ?_) | ((with_reducible apply wr_ixT); (· exact rfl)) | ((with_reducible apply wr_ixL); (· exact rfl)) | ((with_reducible apply wr_ixS); (· exact rfl)) | (with_reducible refine wr_at (q_ixM ?_ ?_) ?_) | (with_reducible refine wr_at (q_ixC ?_ ?_ ?_) ?_) | ((with_reducible apply wr_minL); (· with_reducible assumption)) | ((with_reducible apply wr_maxL); (· with_reducible assumption)) | ((with_reducible apply wr_index); (· exact rfl)) | ((with_reducible apply wr_repr); (· with_reducible assumption)) | ((with_reducible apply wr_fld); (· exact rfl); (· exact rfl))) | ((with_reducible show WO _ _); first | ((with_reducible apply wo); (· exact rfl)) | ((with_reducible apply wo_up)) | ((with_reducible apply wtru); (· exact rfl); (· exact rfl)) | ((with_reducible apply wtruS); (· exact rfl))) | ((with_reducible show WI _ _ _); first | ((with_reducible apply wi_t)) | ((with_reducible apply wi_f)) | ((with_reducible apply wi_nt)) | ((with_reducible apply wi_nf)) | ((with_reducible apply wi_not)) | (with_reducible refine wi_eqt (by with_reducible assumption) ?_) | (with_reducible refine wi_eqf (by with_reducible assumption) ?_) | (with_reducible refine wi_dect (by first | (with_reducible assumption) | ked_read) ?_) | (with_reducible refine wi_decf (by first | (with_reducible assumption) | ked_read) ?_) | (with_reducible refine wi_dec (fun _ => ?_) (fun _ => ?_)) | (with_reducible refine wi_and (fun _ _ => ?_) (fun _ => ?_)) | (with_reducible refine wi_or (fun _ => ?_) (fun _ _ => ?_)) | (with_reducible refine wi_gen (fun _ => ?_) (fun _ => ?_))) | ((with_reducible apply weq)) | ((with_reducible apply wmu_app); (· exact rfl)) | ((with_reducible apply wmu_ext); (· exact rfl)) | ((with_reducible apply wmu_popM); (· exact rfl)) | ((with_reducible apply wmu_popA); (· exact rfl)) | ((with_reducible apply wsti_L); (· exact rfl)) | ((with_reducible apply wlg); (· exact rfl)) | ((with_reducible apply wce); (· exact rfl)) | ((with_reducible apply wpt)) | ((with_reducible apply wpar); (· exact rfl)) | ((with_reducible apply witE)) | ((with_reducible apply witZ)) | ((with_reducible apply wt); (· exact rfl)) | ((with_reducible apply wret); (· exact rfl)) | ((with_reducible apply wca0); (· exact rfl); (· exact rfl); (· exact rfl)) | ((with_reducible apply wca); (· exact rfl); (· exact rfl); (· exact rfl)) | ((with_reducible apply wck2); (· exact rfl); (· (simp only [DL.permL, List.filterMap_cons, List.filterMap_nil, List.getElem?_cons_zero, List.getElem?_cons_succ]; exact rfl))) | ((with_reducible apply wck); (· exact rfl)) | ((with_reducible apply wrt_d); (· exact rfl)) | ((with_reducible apply wrt_n); (· exact rfl)) | ((with_reducible apply witS); (· exact rfl)) | ((with_reducible apply wit_l); (· exact rfl)) | ((with_reducible apply wit_f); (· exact rfl)) | ((with_reducible apply Exists.intro); (with_reducible apply And.intro); · exact rfl) | ((with_reducible apply Exists.intro); (with_reducible apply Exists.intro); (with_reducible apply And.intro); · exact rfl) | ((with_reducible apply wis); (· exact rfl)) | ((with_reducible apply wmk); (· exact rfl); (· exact rfl)) | ((with_reducible apply wso); (· exact rfl); (· exact rfl); (· exact rfl)) | ((with_reducible apply wmp0)) | ((with_reducible apply wmp1)) | ((with_reducible apply wmp2)) | ((with_reducible apply wmp3)) | ((with_reducible apply wmp4)) | ((with_reducible apply wrg1)) | ((with_reducible apply wrg2)) | ((with_reducible apply And.intro)) | ((with_reducible apply wc_pure); (· kln_le); (· (intro _ _; kp_flats; done))) | ((with_reducible apply wc_rngP); (· kln_le); (· (intro _ _; kp_flats; done))) | ((with_reducible apply wc_filt); (· kln_le); (· (intro _ _; kp_flats; done))) | ((with_reducible apply wc_rngF); (· kln_le); (· (intro _ _; kp_flats; done))) | ((with_reducible show ∀ c, c ∈ _ → WO _ _); intro _ _) | ((with_reducible show ∀ c, c < _ → WO _ _); intro _ _) | ((with_reducible show @Eq (List Sl) _ _); exact rfl) | ((with_reducible show isTy _ _ = true); exact rfl) | kln_le)
local macro_rules | `(tactic| kp_flats) => `(tactic| repeat' kat_tups)
local macro_rules | `(tactic| kqd_all) => `(tactic| first | (with_reducible apply wc_pure) | (with_reducible apply wc_rngP) | (with_reducible apply wc_filt) | (with_reducible apply wc_rngF))
local macro_rules | `(tactic| kct_strs) => `(tactic| fail)
structure PoolOk (x y : Int) : Prop where
  x0 : 0 ≤ x
  y0 : 0 ≤ y
  y1 : y < 2147483647
abbrev pool (x y : Int) : Sl := .ce true (.lst [.int x, .int y])
abbrev poolF (x y : Int) : Sl := .ce false (.lst [.int x, .int y])
theorem sp_take {x y n : Int} {Q : PV → DL.Env → Prop} {X : XP} (hp : PoolOk x y) (n0 : 0 < n) (n1 : n < 1073741824)
    (k : ∀ d x' y', PoolOk x' y' → 0 ≤ d → d < n → Q (.d (.int d)) [pool x' y', .un]) : WPE (m_law_take [pool x y, .va (.int n)]) Q X := by
  obtain ⟨x0, y0, y1⟩ := hp
  refine w_law_take ?_
  unfold b_law_take
  kp_flats
  · exact k _ _ _ ⟨Int.ediv_nonneg x0 (by omega), y0, y1⟩ (Int.emod_nonneg _ (by omega)) (Int.emod_lt_of_pos _ n0)
  · exact k _ _ _ ⟨x0, by omega, by omega⟩ (Int.emod_nonneg _ (by omega)) (Int.emod_lt_of_pos _ n0)
theorem sp_pool {ns : List Int} {i : Int} {Q : PV → DL.Env → Prop} {X : XP} (hn : ns.length ≤ 63) (h0 : 0 ≤ i) (h1 : i < 1000)
    (k : ∀ x y, PoolOk x y → Q (.nw (.lst [.int x, .int y])) [.un, .un]) : WPE (m_law_pool [.va (.fro (ns.map D.int)), .va (.int i)]) Q X := by
  have hl := cut_lenE ns (some i) (some (i + 1))
  obtain ⟨v, hv⟩ : ∃ v, at? ((cut ns (some i) (some (i + 1))).map D.int ++ [D.int 0]) 0 = some (.int v) := by
    cases cut ns (some i) (some (i + 1)) with
    | nil => exact ⟨0, rfl⟩
    | cons c r => exact ⟨c, rfl⟩
  refine w_law_pool ?_
  unfold b_law_pool
  kp_flats
  refine wr_ixL hv ?_
  kp_flats
  refine k _ _ ⟨?_, Int.emod_nonneg _ (by omega), by have := Int.emod_lt_of_pos ((max v (-1 - v) % 2147483629 + 7919 * i * i + 31 * i + 17) * 48271 % 2147483647 * ((max v (-1 - v) % 2147483629 + 7919 * i * i + 31 * i + 17) * 48271 % 2147483647)) (show (0 : Int) < 2147483629 by omega); omega⟩
  split
  · omega
  · omega
local macro_rules | `(tactic| kct_strs) => `(tactic| (with_reducible apply sp_take))

end K24
set_option Elab.async false
set_option linter.all false
set_option maxRecDepth 100000
set_option maxHeartbeats 4000000
namespace K24
open PySem PySem.Spec PyProof.Rows L2 DL
local macro_rules | `(tactic| ked_read) => `(tactic| (try simp only [List.length_append, List.length_cons, List.length_nil, List.length_map, List.length_drop, List.length_take, List.length_replicate, List.length_range, List.length_reverse, List.length_tail, List.length_eraseIdx, LIM] at *) <;> omega)
local macro_rules | `(tactic| kln_le) => `(tactic| first | (with_reducible exact rfl) | (with_reducible assumption) | omega | (simp only [List.length_append, List.length_cons, List.length_nil, List.length_map, List.length_drop, List.length_take, List.length_range, List.length_reverse, LIM] <;> omega) | ((with_reducible apply cMul_l); omega) | ((with_reducible apply cMul_r); omega) | (with_reducible exact isI_iff.mpr (by omega)) | ((with_reducible show cPow _ _ = true); decide))
local macro_rules | `(tactic| keq_rows) => `(tactic| (simp only [List.length_cons, List.length_nil] <;> omega))
local macro_rules | `(tactic| ke_read) => `(tactic| ((repeat' first | kct_strs | (with_reducible refine et_and ?_ (fun _ => ?_)) | (with_reducible refine et_or ?_ (fun _ => ?_)) | ((with_reducible apply et_not)) | ((with_reducible apply et_tst)) | ((with_reducible apply ed_V); (· exact rfl)) | ((with_reducible apply ed_S); (· exact rfl)) | ((with_reducible apply ed_C)) | ((with_reducible apply el_nil)) | ((with_reducible apply el_cons)) | ((with_reducible apply epa_no)) | ((with_reducible apply epa_pt)) | ((with_reducible apply ed_notV)) | (with_reducible refine ed_andV ?_ (fun _ => ?_)) | (with_reducible refine ed_orV ?_ (fun _ => ?_)) | (with_reducible apply ed_is) | (with_reducible apply ed_binA) | (with_reducible apply ed_unA) | (with_reducible apply ed_cbA) | ((with_reducible apply ed_slA)) | (with_reducible apply ed_mt0A) | (with_reducible apply ed_mtA) | (with_reducible refine q_addI) | (with_reducible refine (q_addS ?_)) | (with_reducible refine q_augI) | (with_reducible refine (q_augS ?_)) | (with_reducible refine q_sub) | (with_reducible refine q_neg) | (with_reducible refine (q_mul ?_)) | (with_reducible refine (q_mulS ?_ ?_ ?_)) | (with_reducible refine (q_mod ?_)) | (with_reducible refine (q_div ?_ ?_)) | (with_reducible refine (q_pow ?_)) | (with_reducible refine q_lt) | (with_reducible refine q_le) | (with_reducible refine q_gt) | (with_reducible refine q_ge) | (with_reducible refine q_eqI) | (with_reducible refine q_neI) | (with_reducible refine q_eqS) | (with_reducible refine q_neS) | (with_reducible refine q_eqB) | (with_reducible refine q_neB) | (with_reducible refine q_eqNS) | (with_reducible refine q_eqSN) | (with_reducible refine q_eqNN) | (with_reducible refine q_neNS) | (with_reducible refine q_neSN) | (with_reducible refine q_neNN) | (with_reducible refine q_isNN) | (with_reducible refine q_isNS) | (with_reducible refine q_isNI) | (with_reducible refine q_isNL) | (with_reducible refine q_isNT) | (with_reducible refine q_ntNN) | (with_reducible refine q_ntNS) | (with_reducible refine q_ntNI) | (with_reducible refine q_ntNL) | (with_reducible refine q_ntNT) | (with_reducible refine q_isT) | (with_reducible refine q_isF) | (with_reducible refine q_ntT) | (with_reducible refine q_ntF) | (with_reducible refine q_inI) | (with_reducible refine q_niI) | (with_reducible refine q_inC) | (with_reducible refine q_niC) | (with_reducible refine q_lenM) | (with_reducible refine q_lenF) | (with_reducible refine q_lenL) | (with_reducible refine q_lenT) | (with_reducible refine (q_lenS ?_)) | (with_reducible refine q_max) | (with_reducible refine q_min) | (with_reducible refine q_intI) | (with_reducible refine q_intB) | (with_reducible refine q_all) | (with_reducible refine q_any) | (with_reducible refine (q_joinC ?_)) | (with_reducible refine (q_join0 ?_)) | (with_reducible refine (q_joinW ?_)) | (with_reducible refine (q_join ?_)) | (with_reducible refine (q_low1 ?_)) | (with_reducible refine (q_upp1 ?_)) | (with_reducible refine (q_low ?_ ?_)) | (with_reducible refine (q_upp ?_ ?_)) | (with_reducible refine q_find) | (with_reducible refine (q_find2 ?_)) | (with_reducible refine (q_sSd ?_ ?_)) | (with_reducible refine (q_sSt ?_ ?_)) | (with_reducible refine (q_sSb ?_ ?_ ?_)) | (with_reducible refine (q_sS ?_)) | (with_reducible refine (q_revBS ?_)) | (with_reducible refine (q_addM ?_)) | (with_reducible refine (q_addL ?_)) | (with_reducible refine (q_mulL ?_ ?_ ?_)) | (with_reducible refine (q_sMd ?_)) | (with_reducible refine (q_sMt ?_)) | (with_reducible refine (q_sMb ?_ ?_)) | (with_reducible refine q_sM) | (with_reducible refine q_sF) | (with_reducible refine q_sL) | (with_reducible refine (q_listS ?_)) | (with_reducible refine q_listL) | (with_reducible refine q_listT) | (with_reducible refine (q_sort ?_)) | (with_reducible refine q_revM) | (with_reducible refine q_rev) | (with_reducible refine q_revBM) | (with_reducible refine q_revBL) | (with_reducible refine (q_rgL1 ?_)) | (with_reducible refine (q_rgL2 ?_)) | (with_reducible apply q_fld; exact rfl; exact rfl) | (with_reducible apply q_ixT; exact rfl) | (with_reducible apply q_ixL; exact rfl) | (with_reducible refine q_ixM ?_ ?_) | (with_reducible refine q_ixC ?_ ?_ ?_) | ((with_reducible show isD _ _ = some _); exact rfl) | ((with_reducible show isTy _ _ = true); exact rfl) | kln_le); done))
local macro_rules | `(tactic| kat_tups) => `(tactic| first | kct_strs | ((with_reducible show WN _ _); first | ((with_reducible apply wn); (· first | (simp only [DL.st, DL.wipeE, DL.back, DL.upds, DL.gt]; exact rfl) | exact rfl))) | ((with_reducible show WN2 _ _ _); first | ((with_reducible apply wn2); (· first | (simp only [DL.st, DL.wipeE, DL.back, DL.upds, DL.gt]; exact rfl) | exact rfl))) | ((with_reducible show WPS _ _ _ _ _ _); first | ((with_reducible apply ws_seq)) | ((with_reducible apply ws_set)) | ((with_reducible apply ws_setF)) | ((with_reducible apply ws_skip)) | ((with_reducible apply ws_pass)) | ((with_reducible apply ws_brk)) | ((with_reducible apply ws_cnt)) | ((with_reducible apply ws_retN)) | ((with_reducible apply ws_drop)) | ((with_reducible apply ws_ret)) | ((with_reducible apply ws_sti)) | ((with_reducible apply ws_raise)) | ((with_reducible apply ws_tgt)) | ((with_reducible apply ws_parC)) | ((with_reducible apply ws_par)) | ((with_reducible apply ws_for)) | ((with_reducible apply ws_try)) | ((with_reducible apply ws_W)) | ((with_reducible apply ws_P)) | ((with_reducible apply ws_up)) | ((with_reducible apply ws_forG)) | ((with_reducible apply wkplain)) | ((with_reducible apply wh_n)) | ((with_reducible apply ws_ifP (ft := fAnd _ _)); · ke_read) | ((with_reducible apply ws_ifP (ft := fOr _ _)); · ke_read) | ((with_reducible apply ws_if)) | ((with_reducible apply ws_aug); (· exact rfl)) | ((with_reducible apply ws_yield)) | ((with_reducible apply ws_kapp); (· keq_rows); (· exact rfl); (· exact rfl); (· exact rfl)) | ((with_reducible apply wh_t); (· exact rfl)) | ((with_reducible apply wh_f); (· exact rfl)) | ((with_reducible apply wkret); (· keq_rows))) | ((with_reducible show WPE _ _ _); first | ((with_reducible apply we_bin)) | ((with_reducible apply we_Vd); (· exact rfl)) | ((with_reducible apply we_Vs); (· exact rfl)) | ((with_reducible apply we_C)) | ((with_reducible apply we_cons)) | ((with_reducible apply we_nil)) | ((with_reducible apply we_own)) | ((with_reducible apply we_isO)) | ((with_reducible apply we_ins)) | ((with_reducible apply we_isC)) | ((with_reducible apply we_prop)) | ((with_reducible apply we_make)) | ((with_reducible apply we_Y)) | ((with_reducible apply we_cb)) | ((with_reducible apply we_un)) | ((with_reducible apply we_lst)) | ((with_reducible apply we_tup)) | ((with_reducible apply we_tst)) | ((with_reducible apply we_not)) | ((with_reducible apply we_notV)) | ((with_reducible apply we_part)) | ((with_reducible apply we_sl)) | ((with_reducible apply we_mt0)) | ((with_reducible apply we_mt)) | ((with_reducible apply we_is)) | ((with_reducible apply we_itA)) | ((with_reducible apply we_rg1)) | ((with_reducible apply we_rg2)) | ((with_reducible apply we_itE)) | ((with_reducible apply we_itZ)) | ((with_reducible apply we_call)) | ((with_reducible apply we_callK)) | ((with_reducible apply we_lc)) | ((with_reducible apply we_noP)) | ((with_reducible apply we_dic0)) | ((with_reducible apply we_chain)) | ((with_reducible apply we_listG)) | ((with_reducible apply we_orT)) | ((with_reducible apply we_andT)) | ((with_reducible apply we_and)) | ((with_reducible apply we_or)) | ((with_reducible apply we_andV)) | ((with_reducible apply we_orV)) | ((with_reducible apply we_ifE)) | ((with_reducible apply we_mu); (· exact rfl); (· exact rfl)) | ((with_reducible apply we_pop); (· exact rfl)) | ((with_reducible apply we_sett); (· exact rfl)) | ((with_reducible apply we_settL); (· exact rfl))) | ((with_reducible show WR _ _ _); first | (with_reducible refine wr_at q_addI ?_) | (with_reducible refine wr_at (q_addS ?_) ?_) | (with_reducible refine wr_at q_augI ?_) | (with_reducible refine wr_at (q_augS ?_) ?_) | (with_reducible refine wr_at q_sub ?_) | (with_reducible refine wr_at q_neg ?_) | (with_reducible refine wr_at (q_mul ?_) ?_) | (with_reducible refine wr_at (q_mulS ?_ ?_ ?_) ?_) | (with_reducible refine wr_at (q_mod ?_) ?_) | (with_reducible refine wr_at (q_div ?_ ?_) ?_) | (with_reducible refine wr_at (q_pow ?_) ?_) | (with_reducible refine wr_at q_lt ?_) | (with_reducible refine wr_at q_le ?_) | (with_reducible refine wr_at q_gt ?_) | (with_reducible refine wr_at q_ge ?_) | (with_reducible refine wr_at q_eqI ?_) | (with_reducible refine wr_at q_neI ?_) | (with_reducible refine wr_at q_eqS ?_) | (with_reducible refine wr_at q_neS ?_) | (with_reducible refine wr_at q_eqB ?_) | (with_reducible refine wr_at q_neB ?_) | (with_reducible refine wr_at q_eqNS ?_) | (with_reducible refine wr_at q_eqSN ?_) | (with_reducible refine wr_at q_eqNN ?_) | (with_reducible refine wr_at q_neNS ?_) | (with_reducible refine wr_at q_neSN ?_) | (with_reducible refine wr_at q_neNN ?_) | (with_reducible refine wr_at q_isNN ?_) | (with_reducible refine wr_at q_isNS ?_) | (with_reducible refine wr_at q_isNI ?_) | (with_reducible refine wr_at q_isNL ?_) | (with_reducible refine wr_at q_isNT ?_) | (with_reducible refine wr_at q_ntNN ?_) | (with_reducible refine wr_at q_ntNS ?_) | (with_reducible refine wr_at q_ntNI ?_) | (with_reducible refine wr_at q_ntNL ?_) | (with_reducible refine wr_at q_ntNT ?_) | (with_reducible refine wr_at q_isT ?_) | (with_reducible refine wr_at q_isF ?_) | (with_reducible refine wr_at q_ntT ?_) | (with_reducible refine wr_at q_ntF ?_) | (with_reducible refine wr_at q_inI ?_) | (with_reducible refine wr_at q_niI ?_) | (with_reducible refine wr_at q_inC ?_) | (with_reducible refine wr_at q_niC ?_) | (with_reducible refine wr_at q_lenM ?_) | (with_reducible refine wr_at q_lenF ?_) | (with_reducible refine wr_at q_lenL ?_) | (with_reducible refine wr_at q_lenT ?_) | (with_reducible refine wr_at (q_lenS ?_) ?_) | (with_reducible refine wr_at q_max ?_) | (with_reducible refine wr_at q_min ?_) | (with_reducible refine wr_at q_intI ?_) | (with_reducible refine wr_at q_intB ?_) | (with_reducible refine wr_at q_all ?_) | (with_reducible refine wr_at q_any ?_) | (with_reducible refine wr_at (q_joinC ?_) ?_) | (with_reducible refine wr_at (q_join0 ?_) ?_) | (with_reducible refine wr_at (q_joinW ?_) ?_) | (with_reducible refine wr_at (q_join ?_) ?_) | (with_reducible refine wr_at (q_low1 ?_) ?_) | (with_reducible refine wr_at (q_upp1 ?_) ?_) | (with_reducible refine wr_at (q_low ?_ ?_) ?_) | (with_reducible refine wr_at (q_upp ?_ ?_) ?_) | (with_reducible refine wr_at q_find ?_) | (with_reducible refine wr_at (q_find2 ?_) ?_) | (with_reducible refine wr_at (q_sSd ?_ ?_) ?_) | (with_reducible refine wr_at (q_sSt ?_ ?_) ?_) | (with_reducible refine wr_at (q_sSb ?_ ?_ ?_) ?_) | (with_reducible refine wr_at (q_sS ?_) ?_) | (with_reducible refine wr_at (q_revBS ?_) ?_) | (with_reducible refine wr_ls (q_addM ?_) ?_) | (with_reducible refine wr_ls (q_addL ?_) ?_) | (with_reducible refine wr_ls (q_mulL ?_ ?_ ?_) ?_) | (with_reducible refine wr_ls (q_sMd ?_) ?_) | (with_reducible refine wr_ls (q_sMt ?_) ?_) | (with_reducible refine wr_ls (q_sMb ?_ ?_) ?_) | (with_reducible refine wr_ls q_sM ?_) | (with_reducible refine wr_ls q_sF ?_) | (with_reducible refine wr_ls q_sL ?_) | (with_reducible refine wr_ls (q_listS ?_) ?_) | (with_reducible refine wr_ls q_listL ?_) | (with_reducible refine wr_ls q_listT ?_) | (with_reducible refine wr_ls (q_sort ?_) ?_) | (with_reducible refine wr_ls q_revM ?_) | (with_reducible refine wr_ls q_rev ?_) | (with_reducible refine wr_ls q_revBM ?_) | (with_reducible refine wr_ls q_revBL ?_) | (with_reducible refine wr_ls (q_rgL1 ?_) ?_) | (with_reducible refine wr_ls (q_rgL2 ?_) ?_) | ((with_reducible apply wr_ixT); (· exact rfl)) | ((with_reducible apply wr_ixL); (· exact rfl)) | ((with_reducible apply wr_ixS); (· exact rfl)) | (with_reducible refine wr_at (q_ixM ?_ ?_) ?_) | (with_reducible refine wr_at (q_ixC ?_ ?_ ?_) ?_) | ((with_reducible apply wr_minL); (· with_reducible assumption)) | ((with_reducible apply wr_maxL); (· with_reducible assumption)) | ((with_reducible apply wr_index); (· exact rfl)) | ((with_reducible apply wr_repr); (· with_reducible assumption)) | ((with_reducible apply wr_fld); (· exact rfl); (· exact rfl))) | ((with_reducible show WO _ _); first | ((with_reducible apply wo); (· exact rfl)) | ((with_reducible apply wo_up)) | ((with_reducible apply wtru); (· exact rfl); (· exact rfl)) | ((with_reducible apply wtruS); (· exact rfl))) | ((with_reducible show WI _ _ _); first | ((with_reducible apply wi_t)) | ((with_reducible apply wi_f)) | ((with_reducible apply wi_nt)) | ((with_reducible apply wi_nf)) | ((with_reducible apply wi_not)) | (with_reducible refine wi_eqt (by with_reducible assumption) ?_) | (with_reducible refine wi_eqf (by with_reducible assumption) ?_) | (with_reducible refine wi_dect (by first | (with_reducible assumption) | ked_read) ?_) | (with_reducible refine wi_decf (by first | (with_reducible assumption) | ked_read) ?_) | (with_reducible refine wi_dec (fun _ => ?_) (fun _ => ?_)) | (with_reducible refine wi_and (fun _ _ => ?_) (fun _ => ?_)) | (with_reducible refine wi_or (fun _ => ?_) (fun _ _ => ?_)) | (with_reducible refine wi_gen (fun _ => ?_) (fun _ => ?_))) | ((with_reducible apply weq)) | ((with_reducible apply wmu_app); (· exact rfl)) | ((with_reducible apply wmu_ext); (· exact rfl)) | ((with_reducible apply wmu_popM); (· exact rfl)) | ((with_reducible apply wmu_popA); (· exact rfl)) | ((with_reducible apply wsti_L); (· exact rfl)) | ((with_reducible apply wlg); (· exact rfl)) | ((with_reducible apply wce); (· exact rfl)) | ((with_reducible apply wpt)) | ((with_reducible apply wpar); (· exact rfl)) | ((with_reducible apply witE)) | ((with_reducible apply witZ)) | ((with_reducible apply wt); (· exact rfl)) | ((with_reducible apply wret); (· exact rfl)) | ((with_reducible apply wca0); (· exact rfl); (· exact rfl); (· exact rfl)) | ((with_reducible apply wca); (· exact rfl); (· exact rfl); (· exact rfl)) | ((with_reducible apply wck2); (· exact rfl); (· (simp only [DL.permL, List.filterMap_cons, List.filterMap_nil, List.getElem?_cons_zero, List.getElem?_cons_succ]; exact rfl))) | ((with_reducible apply wck); (· exact rfl)) | ((with_reducible apply wrt_d); (· exact rfl)) | ((with_reducible apply wrt_n); (· exact rfl)) | ((with_reducible apply witS); (· exact rfl)) | ((with_reducible apply wit_l); (· exact rfl)) | ((with_reducible apply wit_f); (· exact rfl)) | ((with_reducible apply Exists.intro); (with_reducible apply And.intro); · exact rfl) | ((with_reducible apply Exists.intro); (with_reducible apply Exists.intro); (with_reducible apply And.intro); · exact rfl) | ((with_reducible apply wis); (· exact rfl)) | ((with_reducible apply wmk); (· exact rfl); (· exact rfl)) | ((with_reducible apply wso); (· exact rfl); (· exact rfl); (· exact rfl)) | ((with_reducible apply wmp0)) | ((with_reducible apply wmp1)) | ((with_reducible apply wmp2)) | ((with_reducible apply wmp3)) | ((with_reducible apply wmp4)) | ((with_reducible apply wrg1)) | ((with_reducible apply wrg2)) | ((with_reducible apply And.intro)) | ((with_reducible apply wc_pure); (· kln_le); (· (intro _ _; kp_flats; done))) | ((with_reducible apply wc_rngP); (· kln_le); (· (intro _ _; kp_flats; done))) | ((with_reducible apply wc_filt); (· kln_le); (· (intro _ _; kp_flats; done))) | ((with_reducible apply wc_rngF); (· kln_le); (· (intro _ _; kp_flats; done))) | ((with_reducible show ∀ c, c ∈ _ → WO _ _); intro _ _) | ((with_reducible show ∀ c, c < _ → WO _ _); intro _ _) | ((with_reducible show @Eq (List Sl) _ _); exact rfl) | ((with_reducible show isTy _ _ = true); exact rfl) | kln_le)
local macro_rules | `(tactic| kp_flats) => `(tactic| repeat' kat_tups)
local macro_rules | `(tactic| kqd_all) => `(tactic| first | (with_reducible apply wc_pure) | (with_reducible apply wc_rngP) | (with_reducible apply wc_filt) | (with_reducible apply wc_rngF))
local macro_rules | `(tactic| kct_strs) => `(tactic| fail)
local macro_rules | `(tactic| kct_strs) => `(tactic| (with_reducible apply sp_take))
abbrev moves : List Nat := [97, 65, 98, 66, 99, 67, 100, 68, 101, 69, 102, 70, 103, 71, 104, 72]
/-- a program's steps -/
def Prg (p : List Nat) : Prop := ∀ c ∈ p, c ∈ moves
theorem sp_program {x y n m : Int} {Q : PV → DL.Env → Prop} {X : XP} (hp : PoolOk x y) (n0 : 0 ≤ n) (n1 : n ≤ 400) (m0 : 1 ≤ m) (m1 : m ≤ 8)
    (k : ∀ x' y' p, PoolOk x' y' → (p.length : Int) ≤ n → Prg p → Q (.d (.str p)) [pool x' y', .un, .un]) : WPE (m_law_program [pool x y, .va (.int n), .va (.int m)]) Q X := by
  refine w_law_program ?_
  unfold b_law_program
  kp_flats
  intro d x1 y1 hp1 d0 d1
  kp_flats
  refine wc_rng (fun k acc e => ∃ (x y : Int) (u : List Nat), e = [pool x y, .va (.int n), .va (.int m), .va (.str (moves.take (2 * m).toNat)), .un] ∧ PoolOk x y ∧ acc = u.map (fun c => .str [c]) ∧ u.length = k ∧ Prg u) ?_ ?_ ?_ ?_
  · kp_flats
  · exact ⟨x1, y1, [], rfl, hp1, rfl, rfl, by intro c hc; cases hc⟩
  · rintro k acc e hk ⟨x, y, u, rfl, hp, rfl, hu, hI⟩
    kp_flats
    intro d' x2 y2 hp2 e0 e1
    have hl : d'.toNat < (moves.take (2 * m).toNat).length := by rw [List.length_take]; show _ < min _ 16; omega
    kp_flats
    exact ⟨x2, y2, u ++ [(moves.take (2 * m).toNat)[d'.toNat]!], rfl, hp2, by simp, by simp [hu], fun z hz => by
      rcases List.mem_append.mp hz with hz | hz
      · exact hI z hz
      · rw [List.mem_singleton] at hz; subst hz; exact List.mem_of_mem_take (getB_mem hl)⟩
  · rintro acc e ⟨x, y, u, rfl, hp, rfl, hu, hI⟩
    kp_flats
    exact k _ _ _ hp (by omega) hI
/-! places -/
def plc (w : List Nat) : List Nat → Nat → List Nat
  | [], _ => []
  | c :: r, s => match seek c (w.drop s) s with
    | none => []
    | some k => k :: plc w r (k + 1)
theorem plc_le (w : List Nat) : ∀ (p : List Nat) (s : Nat), (plc w p s).length ≤ p.length
  | [], s => Nat.le_refl _
  | c :: r, s => by
    unfold plc
    split
    · exact Nat.zero_le _
    · exact Nat.succ_le_succ (plc_le w r _)
theorem findN_none {w : List Nat} {c s : Nat} (h : seek c (w.drop s) s = none) : findN w c s = -1 := by unfold findN; rw [h]
theorem findN_some {w : List Nat} {c s k : Nat} (h : seek c (w.drop s) s = some k) : findN w c s = (k : Int) := by unfold findN; rw [h]
theorem sp_places {p w : List Nat} (hp : p.length ≤ 1000) (hw : w.length ≤ 1000) : m_places [.str p, .str w] = some ((plc w p 0).map fun (k : Nat) => D.int (k : Int)) := by
  refine w_places ?_
  unfold b_places
  kp_flats
  refine wl_map (f := fun c => D.str [c]) (l := p) (fun pre post e => ∃ (ys : List Nat) (s : Nat) (i j : Sl), e = [.ce false (.lst (ys.map fun (k : Nat) => D.int (k : Int))), .va (.str p), .va (.str w), .va (.int (s : Int)), i, j] ∧ (i = .un ∧ j = .un ∨ ∃ a b, i = .va a ∧ j = .va b) ∧ ys ++ plc w post s = plc w p 0 ∧ ys.length = pre.length) ?_ ?_ ?_
  · exact ⟨[], 0, _, _, rfl, .inl ⟨rfl, rfl⟩, rfl, rfl⟩
  · rintro pre c post e hq ⟨ys, s, i, j, rfl, hij, h1, h2⟩
    have hl : ys.length < 1000 := by
      rw [h2]
      have := congrArg List.length hq
      simp only [List.length_append, List.length_cons] at this
      omega
    cases hk : seek c (w.drop s) s with
    | none =>
      have hf : findN w c ((s : Int)).toNat = -1 := findN_none hk
      have hd : plc w (c :: post) s = [] := by simp only [plc, hk]
      rw [hd, List.append_nil] at h1
      rcases hij with ⟨rfl, rfl⟩ | ⟨a, b, rfl, rfl⟩
      all_goals
        kp_flats
        all_goals first
          | exact ⟨_, by rw [h1]⟩
          | (exfalso; rename_i h; exact h (by rw [hf]; decide))
    | some k =>
      have hf : findN w c ((s : Int)).toNat = (k : Int) := findN_some hk
      have hd : plc w (c :: post) s = k :: plc w post (k + 1) := by simp only [plc, hk]
      rw [hd] at h1
      rcases hij with ⟨rfl, rfl⟩ | ⟨a, b, rfl, rfl⟩
      all_goals
        kp_flats
        all_goals first
          | (exfalso; rename_i h; rw [hf] at h; omega)
          | (rw [List.length_map]; exact Nat.lt_of_lt_of_le hl (by decide))
          | exact ⟨ys ++ [k], k + 1, .va (.str [c]), .va (.int (findN w c ((s : Int)).toNat)), by rw [hf]; simp, .inr ⟨_, _, rfl, rfl⟩, by simpa using h1, by simp [h2]⟩
  · rintro e ⟨ys, s, i, j, rfl, hij, h1, h2⟩
    have hd : plc w [] s = [] := rfl
    rw [hd, List.append_nil] at h1
    kp_flats
    exact ⟨_, by rw [h1]⟩
end K24
set_option Elab.async false
set_option linter.all false
set_option maxRecDepth 100000
set_option maxHeartbeats 4000000
namespace K24
open PySem PySem.Spec PyProof.Rows L2 DL
local macro_rules | `(tactic| ked_read) => `(tactic| (try simp only [List.length_append, List.length_cons, List.length_nil, List.length_map, List.length_drop, List.length_take, List.length_replicate, List.length_range, List.length_reverse, List.length_tail, List.length_eraseIdx, LIM] at *) <;> omega)
local macro_rules | `(tactic| kln_le) => `(tactic| first | (with_reducible exact rfl) | (with_reducible assumption) | omega | (simp only [List.length_append, List.length_cons, List.length_nil, List.length_map, List.length_drop, List.length_take, List.length_range, List.length_reverse, LIM] <;> omega) | ((with_reducible apply cMul_l); omega) | ((with_reducible apply cMul_r); omega) | (with_reducible exact isI_iff.mpr (by omega)) | ((with_reducible show cPow _ _ = true); decide))
local macro_rules | `(tactic| keq_rows) => `(tactic| (simp only [List.length_cons, List.length_nil] <;> omega))
local macro_rules | `(tactic| ke_read) => `(tactic| ((repeat' first | kct_strs | (with_reducible refine et_and ?_ (fun _ => ?_)) | (with_reducible refine et_or ?_ (fun _ => ?_)) | ((with_reducible apply et_not)) | ((with_reducible apply et_tst)) | ((with_reducible apply ed_V); (· exact rfl)) | ((with_reducible apply ed_S); (· exact rfl)) | ((with_reducible apply ed_C)) | ((with_reducible apply el_nil)) | ((with_reducible apply el_cons)) | ((with_reducible apply epa_no)) | ((with_reducible apply epa_pt)) | ((with_reducible apply ed_notV)) | (with_reducible refine ed_andV ?_ (fun _ => ?_)) | (with_reducible refine ed_orV ?_ (fun _ => ?_)) | (with_reducible apply ed_is) | (with_reducible apply ed_binA) | (with_reducible apply ed_unA) | (with_reducible apply ed_cbA) | ((with_reducible apply ed_slA)) | (with_reducible apply ed_mt0A) | (with_reducible apply ed_mtA) | (with_reducible refine q_addI) | (with_reducible refine (q_addS ?_)) | (with_reducible refine q_augI) | (with_reducible refine (q_augS ?_)) | (with_reducible refine q_sub) | (with_reducible refine q_neg) | (with_reducible refine (q_mul ?_)) | (with_reducible refine (q_mulS ?_ ?_ ?_)) | (with_reducible refine (q_mod ?_)) | (with_reducible refine (q_div ?_ ?_)) | (with_reducible refine (q_pow ?_)) | (with_reducible refine q_lt) | (with_reducible refine q_le) | (with_reducible refine q_gt) | (with_reducible refine q_ge) | (with_reducible refine q_eqI) | (with_reducible refine q_neI) | (with_reducible refine q_eqS) | (with_reducible refine q_neS) | (with_reducible refine q_eqB) | (with_reducible refine q_neB) | (with_reducible refine q_eqNS) | (with_reducible refine q_eqSN) | (with_reducible refine q_eqNN) | (with_reducible refine q_neNS) | (with_reducible refine q_neSN) | (with_reducible refine q_neNN) | (with_reducible refine q_isNN) | (with_reducible refine q_isNS) | (with_reducible refine q_isNI) | (with_reducible refine q_isNL) | (with_reducible refine q_isNT) | (with_reducible refine q_ntNN) | (with_reducible refine q_ntNS) | (with_reducible refine q_ntNI) | (with_reducible refine q_ntNL) | (with_reducible refine q_ntNT) | (with_reducible refine q_isT) | (with_reducible refine q_isF) | (with_reducible refine q_ntT) | (with_reducible refine q_ntF) | (with_reducible refine q_inI) | (with_reducible refine q_niI) | (with_reducible refine q_inC) | (with_reducible refine q_niC) | (with_reducible refine q_lenM) | (with_reducible refine q_lenF) | (with_reducible refine q_lenL) | (with_reducible refine q_lenT) | (with_reducible refine (q_lenS ?_)) | (with_reducible refine q_max) | (with_reducible refine q_min) | (with_reducible refine q_intI) | (with_reducible refine q_intB) | (with_reducible refine q_all) | (with_reducible refine q_any) | (with_reducible refine (q_joinC ?_)) | (with_reducible refine (q_join0 ?_)) | (with_reducible refine (q_joinW ?_)) | (with_reducible refine (q_join ?_)) | (with_reducible refine (q_low1 ?_)) | (with_reducible refine (q_upp1 ?_)) | (with_reducible refine (q_low ?_ ?_)) | (with_reducible refine (q_upp ?_ ?_)) | (with_reducible refine q_find) | (with_reducible refine (q_find2 ?_)) | (with_reducible refine (q_sSd ?_ ?_)) | (with_reducible refine (q_sSt ?_ ?_)) | (with_reducible refine (q_sSb ?_ ?_ ?_)) | (with_reducible refine (q_sS ?_)) | (with_reducible refine (q_revBS ?_)) | (with_reducible refine (q_addM ?_)) | (with_reducible refine (q_addL ?_)) | (with_reducible refine (q_mulL ?_ ?_ ?_)) | (with_reducible refine (q_sMd ?_)) | (with_reducible refine (q_sMt ?_)) | (with_reducible refine (q_sMb ?_ ?_)) | (with_reducible refine q_sM) | (with_reducible refine q_sF) | (with_reducible refine q_sL) | (with_reducible refine (q_listS ?_)) | (with_reducible refine q_listL) | (with_reducible refine q_listT) | (with_reducible refine (q_sort ?_)) | (with_reducible refine q_revM) | (with_reducible refine q_rev) | (with_reducible refine q_revBM) | (with_reducible refine q_revBL) | (with_reducible refine (q_rgL1 ?_)) | (with_reducible refine (q_rgL2 ?_)) | (with_reducible apply q_fld; exact rfl; exact rfl) | (with_reducible apply q_ixT; exact rfl) | (with_reducible apply q_ixL; exact rfl) | (with_reducible refine q_ixM ?_ ?_) | (with_reducible refine q_ixC ?_ ?_ ?_) | ((with_reducible show isD _ _ = some _); exact rfl) | ((with_reducible show isTy _ _ = true); exact rfl) | kln_le); done))
local macro_rules | `(tactic| kat_tups) => `(tactic| first | kct_strs | ((with_reducible show WN _ _); first | ((with_reducible apply wn); (· first | (simp only [DL.st, DL.wipeE, DL.back, DL.upds, DL.gt]; exact rfl) | exact rfl))) | ((with_reducible show WN2 _ _ _); first | ((with_reducible apply wn2); (· first | (simp only [DL.st, DL.wipeE, DL.back, DL.upds, DL.gt]; exact rfl) | exact rfl))) | ((with_reducible show WPS _ _ _ _ _ _); first | ((with_reducible apply ws_seq)) | ((with_reducible apply ws_set)) | ((with_reducible apply ws_setF)) | ((with_reducible apply ws_skip)) | ((with_reducible apply ws_pass)) | ((with_reducible apply ws_brk)) | ((with_reducible apply ws_cnt)) | ((with_reducible apply ws_retN)) | ((with_reducible apply ws_drop)) | ((with_reducible apply ws_ret)) | ((with_reducible apply ws_sti)) | ((with_reducible apply ws_raise)) | ((with_reducible apply ws_tgt)) | ((with_reducible apply ws_parC)) | ((with_reducible apply ws_par)) | ((with_reducible apply ws_for)) | ((with_reducible apply ws_try)) | ((with_reducible apply ws_W)) | ((with_reducible apply ws_P)) | ((with_reducible apply ws_up)) | ((with_reducible apply ws_forG)) | ((with_reducible apply wkplain)) | ((with_reducible apply wh_n)) | ((with_reducible apply ws_ifP (ft := fAnd _ _)); · ke_read) | ((with_reducible apply ws_ifP (ft := fOr _ _)); · ke_read) | ((with_reducible apply ws_if)) | ((with_reducible apply ws_aug); (· exact rfl)) | ((with_reducible apply ws_yield)) | ((with_reducible apply ws_kapp); (· keq_rows); (· exact rfl); (· exact rfl); (· exact rfl)) | ((with_reducible apply wh_t); (· exact rfl)) | ((with_reducible apply wh_f); (· exact rfl)) | ((with_reducible apply wkret); (· keq_rows))) | ((with_reducible show WPE _ _ _); first | ((with_reducible apply we_bin)) | ((with_reducible apply we_Vd); (· exact rfl)) | ((with_reducible apply we_Vs); (· exact rfl)) | ((with_reducible apply we_C)) | ((with_reducible apply we_cons)) | ((with_reducible apply we_nil)) | ((with_reducible apply we_own)) | ((with_reducible apply we_isO)) | ((with_reducible apply we_ins)) | ((with_reducible apply we_isC)) | ((with_reducible apply we_prop)) | ((with_reducible apply we_make)) | ((with_reducible apply we_Y)) | ((with_reducible apply we_cb)) | ((with_reducible apply we_un)) | ((with_reducible apply we_lst)) | ((with_reducible apply we_tup)) | ((with_reducible apply we_tst)) | ((with_reducible apply we_not)) | ((with_reducible apply we_notV)) | ((with_reducible apply we_part)) | ((with_reducible apply we_sl)) | ((with_reducible apply we_mt0)) | ((with_reducible apply we_mt)) | ((with_reducible apply we_is)) | ((with_reducible apply we_itA)) | ((with_reducible apply we_rg1)) | ((with_reducible apply we_rg2)) | ((with_reducible apply we_itE)) | ((with_reducible apply we_itZ)) | ((with_reducible apply we_call)) | ((with_reducible apply we_callK)) | ((with_reducible apply we_lc)) | ((with_reducible apply we_noP)) | ((with_reducible apply we_dic0)) | ((with_reducible apply we_chain)) | ((with_reducible apply we_listG)) | ((with_reducible apply we_orT)) | ((with_reducible apply we_andT)) | ((with_reducible apply we_and)) | ((with_reducible apply we_or)) | ((with_reducible apply we_andV)) | ((with_reducible apply we_orV)) | ((with_reducible apply we_ifE)) | ((with_reducible apply we_mu); (· exact rfl); (· exact rfl)) | ((with_reducible apply we_pop); (· exact rfl)) | ((with_reducible apply we_sett); (· exact rfl)) | ((with_reducible apply we_settL); (· exact rfl))) | ((with_reducible show WR _ _ _); first | (with_reducible refine wr_at q_addI ?_) | (with_reducible refine wr_at (q_addS ?_) ?_) | (with_reducible refine wr_at q_augI ?_) | (with_reducible refine wr_at (q_augS ?_) ?_) | (with_reducible refine wr_at q_sub ?_) | (with_reducible refine wr_at q_neg ?_) | (with_reducible refine wr_at (q_mul ?_) ?_) | (with_reducible refine wr_at (q_mulS ?_ ?_ ?_) ?_) | (with_reducible refine wr_at (q_mod ?_) ?_) | (with_reducible refine wr_at (q_div ?_ ?_) ?_) | (with_reducible refine wr_at (q_pow ?_) ?_) | (with_reducible refine wr_at q_lt ?_) | (with_reducible refine wr_at q_le ?_) | (with_reducible refine wr_at q_gt ?_) | (with_reducible refine wr_at q_ge ?_) | (with_reducible refine wr_at q_eqI ?_) | (with_reducible refine wr_at q_neI ?_) | (with_reducible refine wr_at q_eqS ?_) | (with_reducible refine wr_at q_neS ?_) | (with_reducible refine wr_at q_eqB ?_) | (with_reducible refine wr_at q_neB ?_) | (with_reducible refine wr_at q_eqNS ?_) | (with_reducible refine wr_at q_eqSN ?_) | (with_reducible refine wr_at q_eqNN ?_) | (with_reducible refine wr_at q_neNS ?_) | (with_reducible refine wr_at q_neSN ?_) | (with_reducible refine wr_at q_neNN ?_) | (with_reducible refine wr_at q_isNN ?_) | (with_reducible refine wr_at q_isNS ?_) | (with_reducible refine wr_at q_isNI ?_) | (with_reducible refine wr_at q_isNL ?_) | (with_reducible refine wr_at q_isNT ?_) | (with_reducible refine wr_at q_ntNN ?_) | (with_reducible refine wr_at q_ntNS ?_) | (with_reducible refine wr_at q_ntNI ?_) | (with_reducible refine wr_at q_ntNL ?_) | (with_reducible refine wr_at q_ntNT ?_) | (with_reducible refine wr_at q_isT ?_) | (with_reducible refine wr_at q_isF ?_) | (with_reducible refine wr_at q_ntT ?_) | (with_reducible refine wr_at q_ntF ?_) | (with_reducible refine wr_at q_inI ?_) | (with_reducible refine wr_at q_niI ?_) | (with_reducible refine wr_at q_inC ?_) | (with_reducible refine wr_at q_niC ?_) | (with_reducible refine wr_at q_lenM ?_) | (with_reducible refine wr_at q_lenF ?_) | (with_reducible refine wr_at q_lenL ?_) | (with_reducible refine wr_at q_lenT ?_) | (with_reducible refine wr_at (q_lenS ?_) ?_) | (with_reducible refine wr_at q_max ?_) | (with_reducible refine wr_at q_min ?_) | (with_reducible refine wr_at q_intI ?_) | (with_reducible refine wr_at q_intB ?_) | (with_reducible refine wr_at q_all ?_) | (with_reducible refine wr_at q_any ?_) | (with_reducible refine wr_at (q_joinC ?_) ?_) | (with_reducible refine wr_at (q_join0 ?_) ?_) | (with_reducible refine wr_at (q_joinW ?_) ?_) | (with_reducible refine wr_at (q_join ?_) ?_) | (with_reducible refine wr_at (q_low1 ?_) ?_) | (with_reducible refine wr_at (q_upp1 ?_) ?_) | (with_reducible refine wr_at (q_low ?_ ?_) ?_) | (with_reducible refine wr_at (q_upp ?_ ?_) ?_) | (with_reducible refine wr_at q_find ?_) | (with_reducible refine wr_at (q_find2 ?_) ?_) | (with_reducible refine wr_at (q_sSd ?_ ?_) ?_) | (with_reducible refine wr_at (q_sSt ?_ ?_) ?_) | (with_reducible refine wr_at (q_sSb ?_ ?_ ?_) ?_) | (with_reducible refine wr_at (q_sS ?_) ?_) | (with_reducible refine wr_at (q_revBS ?_) ?_) | (with_reducible refine wr_ls (q_addM ?_) ?_) | (with_reducible refine wr_ls (q_addL ?_) ?_) | (with_reducible refine wr_ls (q_mulL ?_ ?_ ?_) ?_) | (with_reducible refine wr_ls (q_sMd ?_) ?_) | (with_reducible refine wr_ls (q_sMt ?_) ?_) | (with_reducible refine wr_ls (q_sMb ?_ ?_) ?_) | (with_reducible refine wr_ls q_sM ?_) | (with_reducible refine wr_ls q_sF ?_) | (with_reducible refine wr_ls q_sL ?_) | (with_reducible refine wr_ls (q_listS ?_) ?_) | (with_reducible refine wr_ls q_listL ?_) | (with_reducible refine wr_ls q_listT ?_) | (with_reducible refine wr_ls (q_sort ?_) ?_) | (with_reducible refine wr_ls q_revM ?_) | (with_reducible refine wr_ls q_rev ?_) | (with_reducible refine wr_ls q_revBM ?_) | (with_reducible refine wr_ls q_revBL ?_) | (with_reducible refine wr_ls (q_rgL1 ?_) ?_) | (with_reducible refine wr_ls (q_rgL2 ?_) ?_) | ((with_reducible apply wr_ixT); (· exact rfl)) | ((with_reducible apply wr_ixL); (· exact rfl)) | ((with_reducible apply wr_ixS); (· exact rfl)) | (with_reducible refine wr_at (q_ixM ?_ ?_) ?_) | (with_reducible refine wr_at (q_ixC ?_ ?_ ?_) ?_) | ((with_reducible apply wr_minL); (· with_reducible assumption)) | ((with_reducible apply wr_maxL); (· with_reducible assumption)) | ((with_reducible apply wr_index); (· exact rfl)) | ((with_reducible apply wr_repr); (· with_reducible assumption)) | ((with_reducible apply wr_fld); (· exact rfl); (· exact rfl))) | ((with_reducible show WO _ _); first | ((with_reducible apply wo); (· exact rfl)) | ((with_reducible apply wo_up)) | ((with_reducible apply wtru); (· exact rfl); (· exact rfl)) | ((with_reducible apply wtruS); (· exact rfl))) | ((with_reducible show WI _ _ _); first | ((with_reducible apply wi_t)) | ((with_reducible apply wi_f)) | ((with_reducible apply wi_nt)) | ((with_reducible apply wi_nf)) | ((with_reducible apply wi_not)) | (with_reducible refine wi_eqt (by with_reducible assumption) ?_) | (with_reducible refine wi_eqf (by with_reducible assumption) ?_) | (with_reducible refine wi_dect (by first | (with_reducible assumption) | ked_read) ?_) | (with_reducible refine wi_decf (by first | (with_reducible assumption) | ked_read) ?_) | (with_reducible refine wi_dec (fun _ => ?_) (fun _ => ?_)) | (with_reducible refine wi_and (fun _ _ => ?_) (fun _ => ?_)) | (with_reducible refine wi_or (fun _ => ?_) (fun _ _ => ?_)) | (with_reducible refine wi_gen (fun _ => ?_) (fun _ => ?_))) | ((with_reducible apply weq)) | ((with_reducible apply wmu_app); (· exact rfl)) | ((with_reducible apply wmu_ext); (· exact rfl)) | ((with_reducible apply wmu_popM); (· exact rfl)) | ((with_reducible apply wmu_popA); (· exact rfl)) | ((with_reducible apply wsti_L); (· exact rfl)) | ((with_reducible apply wlg); (· exact rfl)) | ((with_reducible apply wce); (· exact rfl)) | ((with_reducible apply wpt)) | ((with_reducible apply wpar); (· exact rfl)) | ((with_reducible apply witE)) | ((with_reducible apply witZ)) | ((with_reducible apply wt); (· exact rfl)) | ((with_reducible apply wret); (· exact rfl)) | ((with_reducible apply wca0); (· exact rfl); (· exact rfl); (· exact rfl)) | ((with_reducible apply wca); (· exact rfl); (· exact rfl); (· exact rfl)) | ((with_reducible apply wck2); (· exact rfl); (· (simp only [DL.permL, List.filterMap_cons, List.filterMap_nil, List.getElem?_cons_zero, List.getElem?_cons_succ]; exact rfl))) | ((with_reducible apply wck); (· exact rfl)) | ((with_reducible apply wrt_d); (· exact rfl)) | ((with_reducible apply wrt_n); (· exact rfl)) | ((with_reducible apply witS); (· exact rfl)) | ((with_reducible apply wit_l); (· exact rfl)) | ((with_reducible apply wit_f); (· exact rfl)) | ((with_reducible apply Exists.intro); (with_reducible apply And.intro); · exact rfl) | ((with_reducible apply Exists.intro); (with_reducible apply Exists.intro); (with_reducible apply And.intro); · exact rfl) | ((with_reducible apply wis); (· exact rfl)) | ((with_reducible apply wmk); (· exact rfl); (· exact rfl)) | ((with_reducible apply wso); (· exact rfl); (· exact rfl); (· exact rfl)) | ((with_reducible apply wmp0)) | ((with_reducible apply wmp1)) | ((with_reducible apply wmp2)) | ((with_reducible apply wmp3)) | ((with_reducible apply wmp4)) | ((with_reducible apply wrg1)) | ((with_reducible apply wrg2)) | ((with_reducible apply And.intro)) | ((with_reducible apply wc_pure); (· kln_le); (· (intro _ _; kp_flats; done))) | ((with_reducible apply wc_rngP); (· kln_le); (· (intro _ _; kp_flats; done))) | ((with_reducible apply wc_filt); (· kln_le); (· (intro _ _; kp_flats; done))) | ((with_reducible apply wc_rngF); (· kln_le); (· (intro _ _; kp_flats; done))) | ((with_reducible show ∀ c, c ∈ _ → WO _ _); intro _ _) | ((with_reducible show ∀ c, c < _ → WO _ _); intro _ _) | ((with_reducible show @Eq (List Sl) _ _); exact rfl) | ((with_reducible show isTy _ _ = true); exact rfl) | kln_le)
local macro_rules | `(tactic| kp_flats) => `(tactic| repeat' kat_tups)
local macro_rules | `(tactic| kqd_all) => `(tactic| first | (with_reducible apply wc_pure) | (with_reducible apply wc_rngP) | (with_reducible apply wc_filt) | (with_reducible apply wc_rngF))
local macro_rules | `(tactic| kct_strs) => `(tactic| fail)
local macro_rules | `(tactic| kct_strs) => `(tactic| (with_reducible apply sp_take))
local macro_rules | `(tactic| kct_strs) => `(tactic| (with_reducible apply sp_program))
local macro_rules | `(tactic| kct_strs) => `(tactic| (with_reducible apply sp_places))
def tkn (p : List Nat) : List Nat := (p.filter fun c => !isI c).map lo1
def ptn (p : List Nat) : List Nat := p.filter isI
def cnt : List Nat → Nat → List Nat
  | [], _ => []
  | c :: r, n => if isI c = true then cnt r (n + 1) else n :: cnt r n
theorem cnt_t {c : Nat} {r : List Nat} {n : Nat} (h : isI c = true) : cnt (c :: r) n = cnt r (n + 1) := if_pos h
theorem cnt_f {c : Nat} {r : List Nat} {n : Nat} (h : isI c = false) : cnt (c :: r) n = n :: cnt r n := if_neg (by rw [h]; decide)
theorem prg_lt {p : List Nat} (h : Prg p) : ∀ c ∈ p, c < 128 := fun c hc => by
  have := h c hc
  simp only [moves, List.mem_cons, List.not_mem_nil, or_false] at this
  omega
theorem flat_sing {x : List Nat} {f : Nat → Nat} : (x.map fun c => [f c]).flatten = x.map f := by
  induction x with
  | nil => rfl
  | cons c r ih => simp only [List.map_cons, List.flatten_cons, ih]; rfl
theorem sp_taken {p : List Nat} {Q : PV → DL.Env → Prop} {X : XP} (hp : Prg p) (hl : p.length ≤ 100000) (k : Q (.d (.str (tkn p))) [.un]) : WPE (m_taken [.va (.str p)]) Q X := by
  refine w_taken ?_
  unfold b_taken
  kp_flats
  refine wc_filt (t := fun c => !isI c) (h := fun c => .str [lo1 c]) (l := p) ?_ ?_ ?_
  · kp_flats
  · intro c hc
    have := prg_lt hp c hc
    kp_flats
  · kp_flats
    · rw [flat_sing, List.length_map]; exact Nat.le_trans (List.length_filter_le _ _) (Nat.le_trans hl (by decide))
    · rw [flat_sing]; exact k
theorem sp_put_items {p : List Nat} {Q : PV → DL.Env → Prop} {X : XP} (hl : p.length ≤ 100000) (k : Q (.d (.str (ptn p))) [.un]) : WPE (m_put_items [.va (.str p)]) Q X := by
  refine w_put_items ?_
  unfold b_put_items
  kp_flats
  · exact Nat.le_trans (List.length_filter_le _ _) (Nat.le_trans hl (by decide))
  · exact k
theorem sp_counts {p : List Nat} {Q : PV → DL.Env → Prop} {X : XP} (hl : p.length ≤ 100000) (k : Q (.nw (.lst ((cnt p 0).map fun (n : Nat) => D.int (n : Int)))) [.un]) : WPE (m_counts [.va (.str p)]) Q X := by
  refine w_counts ?_
  unfold b_counts
  kp_flats
  refine wl_map (f := fun c => D.str [c]) (l := p) (fun pre post e => ∃ (ys : List Nat) (n : Nat), e = [.va (.str p), .ce false (.lst (ys.map fun (k : Nat) => D.int (k : Int))), .va (.int (n : Int)), .un] ∧ ys ++ cnt post n = cnt p 0 ∧ ys.length ≤ pre.length) ?_ ?_ ?_
  · exact ⟨[], 0, rfl, rfl, Nat.le_refl _⟩
  · rintro pre c post e hq ⟨ys, n, rfl, h1, h2⟩
    have hm := congrArg List.length hq
    simp only [List.length_append, List.length_cons] at hm
    kp_flats
    all_goals first
      | (rename_i hc; rw [cnt_t hc] at h1; exact h1)
      | (rename_i hc; rw [cnt_f hc] at h1; exact ⟨ys ++ [n], n, by simp, by simpa using h1, by simp; omega⟩)
      | (rw [List.length_map]; exact Nat.lt_of_le_of_lt (show ys.length ≤ 100000 by omega) (by decide))
  · rintro e ⟨ys, n, rfl, h1, h2⟩
    have hd : cnt [] n = [] := rfl
    rw [hd, List.append_nil] at h1
    subst h1
    kp_flats
local macro_rules | `(tactic| kct_strs) => `(tactic| (with_reducible apply sp_taken))
local macro_rules | `(tactic| kct_strs) => `(tactic| (with_reducible apply sp_put_items))
local macro_rules | `(tactic| kct_strs) => `(tactic| (with_reducible apply sp_counts))
/-! succeeds_from -/
def suc (a b ns : List Nat) (s : Nat) : Bool := decide (a.length - s ≤ (plc b (a.drop s) 0).length) && ((plc b (a.drop s) 0).zip (ns.drop s)).all fun q => decide (q.1 < q.2)
theorem zipD_map {l m : List Nat} : zipD (l.map fun (k : Nat) => D.int (k : Int)) (m.map fun (k : Nat) => D.int (k : Int)) = (l.zip m).map fun q => D.tup [.int (q.1 : Int), .int (q.2 : Int)] := by
  induction l generalizing m with
  | nil => cases m <;> rfl
  | cons c r ih => cases m with
    | nil => rfl
    | cons d s => simp only [List.map_cons, zipD, List.zip_cons_cons, ih]
theorem sp_succ {a b ns : List Nat} {s : Nat} {Q : PV → DL.Env → Prop} {X : XP} (ha : a.length ≤ 1000) (hb : b.length ≤ 1000) (hn : ns.length = a.length) (hs : s ≤ a.length)
    (k : Q (.d (.bl (suc a b ns s))) [.un, .un, .un, .un]) : WPE (m_succeeds_from [.va (.str a), .va (.str b), .va (.lst (ns.map fun (k : Nat) => D.int (k : Int))), .va (.int (s : Int))]) Q X := by
  refine w_succeeds_from ?_
  unfold b_succeeds_from
  have hd : (a.drop s).length ≤ 1000 := by rw [List.length_drop]; omega
  have hp := sp_places hd hb
  have h3 := plc_le b (a.drop s) 0
  kp_flats
  · rename_i h
    rw [Int.toNat_natCast] at h
    have e : suc a b ns s = false := by unfold suc; rw [decide_eq_false (by omega)]; rfl
    rw [e] at k; exact k
  · rename_i h
    rw [Int.toNat_natCast] at h ⊢
    rw [zipD_map]
    refine wc_pure (h := fun q => .bl (decide ((q.1 : Int) < (q.2 : Int)))) ?_ ?_ ?_
    · rw [List.length_zip]
      exact Nat.le_trans (Nat.min_le_left _ _) (Nat.le_trans h3 (Nat.le_trans hd (by decide)))
    · rintro ⟨u, v⟩ hq
      kp_flats
    · kp_flats
      have e : suc a b ns s = ((plc b (a.drop s) 0).zip (ns.drop s)).all fun q => decide ((q.1 : Int) < (q.2 : Int)) := by
        unfold suc
        rw [decide_eq_true (by omega), Bool.true_and]
        congr 1
        funext q
        exact decide_eq_decide.mpr Int.ofNat_lt.symm
      rw [e] at k
      exact k
local macro_rules | `(tactic| kct_strs) => `(tactic| (with_reducible apply sp_succ))
end K24
set_option Elab.async false
set_option linter.all false
set_option maxRecDepth 100000
set_option maxHeartbeats 4000000
namespace K24
open PySem PySem.Spec PyProof.Rows L2 DL
/-! plain laws -/
theorem seek_no {c : Nat} : ∀ {l : List Nat} {n : Nat}, seek c l n = none → c ∉ l
  | [], n, _ => by simp
  | x :: r, n, h => by
    unfold seek at h
    split at h
    · cases h
    · rename_i hx
      have := seek_no h
      simp only [List.mem_cons, not_or]
      exact ⟨fun z => hx z.symm, this⟩
theorem seek_app {c : Nat} : ∀ {l m : List Nat} {n k : Nat}, seek c l n = some k → seek c (l ++ m) n = some k
  | [], m, n, k, h => by cases h
  | x :: r, m, n, k, h => by
    unfold seek at h
    show (if x = c then some n else seek c (r ++ m) (n + 1)) = some k
    split at h
    · rename_i hx; rw [if_pos hx]; exact h
    · rename_i hx; rw [if_neg hx]; exact seek_app h
theorem seek_shift {c : Nat} : ∀ {l : List Nat} {n t : Nat}, seek c l (n + t) = (seek c l n).map (· + t)
  | [], n, t => rfl
  | x :: r, n, t => by
    unfold seek
    by_cases hx : x = c
    · rw [if_pos hx, if_pos hx]; rfl
    · rw [if_neg hx, if_neg hx, show n + t + 1 = (n + 1) + t by omega]; exact seek_shift
theorem seek_lt {c : Nat} {l : List Nat} {n k : Nat} (h : seek c l n = some k) : n ≤ k ∧ k < n + l.length := by
  obtain ⟨h1, h2, _⟩ := seek_some h
  obtain ⟨h3, _⟩ := List.getElem?_eq_some_iff.mp h2
  exact ⟨h1, by omega⟩
theorem seek_none_app {c : Nat} : ∀ {l m : List Nat} {n : Nat}, seek c l n = none → seek c (l ++ m) n = seek c m (n + l.length)
  | [], m, n, h => rfl
  | x :: r, m, n, h => by
    unfold seek at h
    show (if x = c then some n else seek c (r ++ m) (n + 1)) = _
    split at h
    · cases h
    · rename_i hx
      rw [if_neg hx, seek_none_app h]
      congr 1
      simp only [List.length_cons]; omega
theorem seek_mono {b : List Nat} {c s t k : Nat} (hs : s ≤ t) (h : seek c (b.drop t) t = some k) : ∃ k', k' ≤ k ∧ seek c (b.drop s) s = some k' := by
  obtain ⟨h1, h2, h3⟩ := seek_some h
  rw [List.getElem?_drop, show t + (k - t) = k by omega] at h2
  cases hk : seek c (b.drop s) s with
  | none =>
    exfalso
    refine seek_no hk (List.mem_of_getElem? (i := k - s) ?_)
    rw [List.getElem?_drop, show s + (k - s) = k by omega]
    exact h2
  | some k' =>
    refine ⟨k', ?_, rfl⟩
    obtain ⟨g1, g2, g3⟩ := seek_some hk
    refine Nat.le_of_not_lt fun z => ?_
    refine g3 (k - s) (by omega) ?_
    rw [List.getElem?_drop, show s + (k - s) = k by omega]
    exact h2
def fit (b : List Nat) : List Nat → List Nat → Nat → Bool
  | [], _, _ => true
  | c :: r, n :: ns, t => match seek c (b.drop t) t with
    | none => false
    | some k => decide (k < n) && fit b r ns (k + 1)
  | _ :: _, [], _ => false
theorem fit_mono {b : List Nat} : ∀ {a ns : List Nat} {s t : Nat}, s ≤ t → fit b a ns t = true → fit b a ns s = true
  | [], ns, s, t, _, _ => by unfold fit; rfl
  | c :: r, [], s, t, _, h => by unfold fit at h; cases h
  | c :: r, n :: ns, s, t, hs, h => by
    unfold fit at h ⊢
    cases hk : seek c (b.drop t) t with
    | none => rw [hk] at h; cases h
    | some k =>
      rw [hk] at h
      obtain ⟨k', h1, h2⟩ := seek_mono hs hk
      rw [h2]
      simp only [Bool.and_eq_true, decide_eq_true_eq] at h ⊢
      exact ⟨by omega, fit_mono (by omega) h.2⟩
theorem fit_plc {b : List Nat} : ∀ {a ns : List Nat} {t : Nat}, ns.length = a.length → (decide (a.length ≤ (plc b a t).length) && ((plc b a t).zip ns).all fun q => decide (q.1 < q.2)) = fit b a ns t
  | [], ns, t, _ => by unfold fit plc; simp
  | c :: r, [], t, h => by cases h
  | c :: r, n :: ns, t, h => by
    have ih := fun t => fit_plc (b := b) (a := r) (ns := ns) (t := t) (by simpa using h)
    unfold fit plc
    cases hk : seek c (b.drop t) t with
    | none => simp
    | some k =>
      dsimp only
      rw [← ih (k + 1)]
      simp only [List.length_cons, List.zip_cons_cons, List.all_cons, Nat.add_le_add_iff_right]
      cases decide (k < n) <;> simp
theorem suc_fit {a b ns : List Nat} {s : Nat} (h : ns.length = a.length) : suc a b ns s = fit b (a.drop s) (ns.drop s) 0 := by
  rw [← fit_plc (by rw [List.length_drop, List.length_drop, h])]
  unfold suc
  rw [List.length_drop]
theorem fit_step {b a ns : List Nat} (h : fit b a ns 0 = true) : fit b (a.drop 1) (ns.drop 1) 0 = true := by
  cases a with
  | nil => unfold fit; rfl
  | cons c r =>
    cases ns with
    | nil => unfold fit at h; cases h
    | cons n ns =>
      unfold fit at h
      cases hk : seek c (b.drop 0) 0 with
      | none => rw [hk] at h; cases h
      | some k =>
        rw [hk] at h
        simp only [Bool.and_eq_true] at h
        exact fit_mono (Nat.zero_le _) h.2
theorem suc_mono {a b ns : List Nat} (hn : ns.length = a.length) {s t : Nat} (h : s ≤ t) (hs : suc a b ns s = true) : suc a b ns t = true := by
  rw [suc_fit hn] at hs ⊢
  induction t with
  | zero => rw [show s = 0 by omega] at hs; exact hs
  | succ t ih =>
    by_cases hz : s = t + 1
    · subst hz; exact hs
    · have := fit_step (ih (by omega))
      rw [List.drop_drop, List.drop_drop] at this
      exact this
theorem suc_last {a b ns : List Nat} (hn : ns.length = a.length) : suc a b ns a.length = true := by
  rw [suc_fit hn, List.drop_length]
  unfold fit; rfl
/-- a run over a queue -/
def bst : List Nat → List Nat → Option (List Nat)
  | [], w => some w
  | c :: r, w => if isI c = true then bst r (w ++ [c]) else match seek (lo1 c) w 0 with
    | none => none
    | some k => bst r (w.drop (k + 1))
theorem cnt_len : ∀ (p : List Nat) (n : Nat), (cnt p n).length = (tkn p).length
  | [], n => rfl
  | c :: r, n => by
    unfold tkn
    cases h : isI c with
    | true => rw [cnt_t h, List.filter_cons_of_neg (by rw [h]; decide)]; exact cnt_len r (n + 1)
    | false => rw [cnt_f h, List.filter_cons_of_pos (by rw [h]; decide), List.map_cons, List.length_cons, List.length_cons]; exact congrArg (· + 1) (cnt_len r n)
theorem tkn_t {c : Nat} {r : List Nat} (h : isI c = true) : tkn (c :: r) = tkn r := by unfold tkn; rw [List.filter_cons_of_neg (by rw [h]; decide)]
theorem tkn_f {c : Nat} {r : List Nat} (h : isI c = false) : tkn (c :: r) = lo1 c :: tkn r := by unfold tkn; rw [List.filter_cons_of_pos (by rw [h]; decide), List.map_cons]
theorem ptn_t {c : Nat} {r : List Nat} (h : isI c = true) : ptn (c :: r) = c :: ptn r := by unfold ptn; rw [List.filter_cons_of_pos h]
theorem ptn_f {c : Nat} {r : List Nat} (h : isI c = false) : ptn (c :: r) = ptn r := by unfold ptn; rw [List.filter_cons_of_neg (by rw [h]; decide)]
theorem bst_2 : ∀ (p b0 : List Nat) (t : Nat), t ≤ b0.length → (bst p (b0.drop t)).isSome = fit (b0 ++ ptn p) (tkn p) (cnt p b0.length) t
  | [], b0, t, _ => by unfold bst tkn fit; rfl
  | c :: r, b0, t, ht => by
    unfold bst
    cases h : isI c with
    | true =>
      rw [if_pos rfl, tkn_t h, ptn_t h, cnt_t h]
      have := bst_2 r (b0 ++ [c]) t (by simp; omega)
      rw [List.drop_append_of_le_length ht, List.append_assoc, List.length_append] at this
      exact this
    | false =>
      rw [if_neg (by decide), tkn_f h, ptn_f h, cnt_f h]
      unfold fit
      rw [List.drop_append_of_le_length ht]
      cases hk : seek (lo1 c) (b0.drop t) 0 with
      | none =>
        have e : seek (lo1 c) (b0.drop t) t = none := by
          have := seek_shift (c := lo1 c) (l := b0.drop t) (n := 0) (t := t)
          rw [hk, Nat.zero_add] at this; exact this
        rw [seek_none_app e, List.length_drop]
        cases hq : seek (lo1 c) (ptn r) (t + (b0.length - t)) with
        | none => rfl
        | some k =>
          have := seek_lt hq
          dsimp only
          rw [decide_eq_false (by omega)]; rfl
      | some k =>
        have e : seek (lo1 c) (b0.drop t) t = some (k + t) := by
          have := seek_shift (c := lo1 c) (l := b0.drop t) (n := 0) (t := t)
          rw [hk, Nat.zero_add] at this; exact this
        rw [seek_app e]
        have l1 := seek_lt e
        rw [List.length_drop] at l1
        dsimp only
        rw [decide_eq_true (by omega), Bool.true_and, List.drop_drop]
        have := bst_2 r b0 (k + t + 1) (by omega)
        rw [show t + (k + 1) = k + t + 1 by omega]
        exact this
theorem bst_1 : ∀ (p b0 : List Nat) (s : Nat), s ≤ (tkn p).length → (bst p ((tkn p).take s ++ b0)).isSome = fit (b0 ++ ptn p) ((tkn p).drop s) ((cnt p b0.length).drop s) 0
  | p, b0, 0, _ => by
    have := bst_2 p b0 0 (Nat.zero_le _)
    simpa using this
  | [], b0, s + 1, h => by cases h
  | c :: r, b0, s + 1, hs => by
    unfold bst
    cases h : isI c with
    | true =>
      rw [tkn_t h] at hs ⊢
      rw [if_pos rfl, ptn_t h, cnt_t h]
      have := bst_1 r (b0 ++ [c]) (s + 1) hs
      rw [List.append_assoc, List.length_append] at this
      rw [List.append_assoc]
      exact this
    | false =>
      rw [tkn_f h] at hs ⊢
      rw [if_neg (by decide), ptn_f h, cnt_f h]
      have hk : seek (lo1 c) ((lo1 c :: tkn r).take (s + 1) ++ b0) 0 = some 0 := by
        rw [List.take_succ_cons, List.cons_append]; unfold seek; rw [if_pos rfl]
      rw [hk]
      have := bst_1 r b0 s (by simpa using hs)
      simpa using this
theorem bst_suc {p : List Nat} {s : Nat} (h : s ≤ (tkn p).length) : (bst p ((tkn p).take s)).isSome = suc (tkn p) (ptn p) (cnt p 0) s := by
  rw [suc_fit (cnt_len p 0)]
  have := bst_1 p [] s h
  simpa using this
end K24
set_option Elab.async false
set_option linter.all false
set_option maxRecDepth 100000
set_option maxHeartbeats 4000000
namespace K24
open PySem PySem.Spec PyProof.Rows L2 DL
local macro_rules | `(tactic| ked_read) => `(tactic| (try simp only [List.length_append, List.length_cons, List.length_nil, List.length_map, List.length_drop, List.length_take, List.length_replicate, List.length_range, List.length_reverse, List.length_tail, List.length_eraseIdx, LIM] at *) <;> omega)
local macro_rules | `(tactic| kln_le) => `(tactic| first | (with_reducible exact rfl) | (with_reducible assumption) | omega | (simp only [List.length_append, List.length_cons, List.length_nil, List.length_map, List.length_drop, List.length_take, List.length_range, List.length_reverse, LIM] <;> omega) | ((with_reducible apply cMul_l); omega) | ((with_reducible apply cMul_r); omega) | (with_reducible exact isI_iff.mpr (by omega)) | ((with_reducible show cPow _ _ = true); decide))
local macro_rules | `(tactic| keq_rows) => `(tactic| (simp only [List.length_cons, List.length_nil] <;> omega))
local macro_rules | `(tactic| ke_read) => `(tactic| ((repeat' first | kct_strs | (with_reducible refine et_and ?_ (fun _ => ?_)) | (with_reducible refine et_or ?_ (fun _ => ?_)) | ((with_reducible apply et_not)) | ((with_reducible apply et_tst)) | ((with_reducible apply ed_V); (· exact rfl)) | ((with_reducible apply ed_S); (· exact rfl)) | ((with_reducible apply ed_C)) | ((with_reducible apply el_nil)) | ((with_reducible apply el_cons)) | ((with_reducible apply epa_no)) | ((with_reducible apply epa_pt)) | ((with_reducible apply ed_notV)) | (with_reducible refine ed_andV ?_ (fun _ => ?_)) | (with_reducible refine ed_orV ?_ (fun _ => ?_)) | (with_reducible apply ed_is) | (with_reducible apply ed_binA) | (with_reducible apply ed_unA) | (with_reducible apply ed_cbA) | ((with_reducible apply ed_slA)) | (with_reducible apply ed_mt0A) | (with_reducible apply ed_mtA) | (with_reducible refine q_addI) | (with_reducible refine (q_addS ?_)) | (with_reducible refine q_augI) | (with_reducible refine (q_augS ?_)) | (with_reducible refine q_sub) | (with_reducible refine q_neg) | (with_reducible refine (q_mul ?_)) | (with_reducible refine (q_mulS ?_ ?_ ?_)) | (with_reducible refine (q_mod ?_)) | (with_reducible refine (q_div ?_ ?_)) | (with_reducible refine (q_pow ?_)) | (with_reducible refine q_lt) | (with_reducible refine q_le) | (with_reducible refine q_gt) | (with_reducible refine q_ge) | (with_reducible refine q_eqI) | (with_reducible refine q_neI) | (with_reducible refine q_eqS) | (with_reducible refine q_neS) | (with_reducible refine q_eqB) | (with_reducible refine q_neB) | (with_reducible refine q_eqNS) | (with_reducible refine q_eqSN) | (with_reducible refine q_eqNN) | (with_reducible refine q_neNS) | (with_reducible refine q_neSN) | (with_reducible refine q_neNN) | (with_reducible refine q_isNN) | (with_reducible refine q_isNS) | (with_reducible refine q_isNI) | (with_reducible refine q_isNL) | (with_reducible refine q_isNT) | (with_reducible refine q_ntNN) | (with_reducible refine q_ntNS) | (with_reducible refine q_ntNI) | (with_reducible refine q_ntNL) | (with_reducible refine q_ntNT) | (with_reducible refine q_isT) | (with_reducible refine q_isF) | (with_reducible refine q_ntT) | (with_reducible refine q_ntF) | (with_reducible refine q_inI) | (with_reducible refine q_niI) | (with_reducible refine q_inC) | (with_reducible refine q_niC) | (with_reducible refine q_lenM) | (with_reducible refine q_lenF) | (with_reducible refine q_lenL) | (with_reducible refine q_lenT) | (with_reducible refine (q_lenS ?_)) | (with_reducible refine q_max) | (with_reducible refine q_min) | (with_reducible refine q_intI) | (with_reducible refine q_intB) | (with_reducible refine q_all) | (with_reducible refine q_any) | (with_reducible refine (q_joinC ?_)) | (with_reducible refine (q_join0 ?_)) | (with_reducible refine (q_joinW ?_)) | (with_reducible refine (q_join ?_)) | (with_reducible refine (q_low1 ?_)) | (with_reducible refine (q_upp1 ?_)) | (with_reducible refine (q_low ?_ ?_)) | (with_reducible refine (q_upp ?_ ?_)) | (with_reducible refine q_find) | (with_reducible refine (q_find2 ?_)) | (with_reducible refine (q_sSd ?_ ?_)) | (with_reducible refine (q_sSt ?_ ?_)) | (with_reducible refine (q_sSb ?_ ?_ ?_)) | (with_reducible refine (q_sS ?_)) | (with_reducible refine (q_revBS ?_)) | (with_reducible refine (q_addM ?_)) | (with_reducible refine (q_addL ?_)) | (with_reducible refine (q_mulL ?_ ?_ ?_)) | (with_reducible refine (q_sMd ?_)) | (with_reducible refine (q_sMt ?_)) | (with_reducible refine (q_sMb ?_ ?_)) | (with_reducible refine q_sM) | (with_reducible refine q_sF) | (with_reducible refine q_sL) | (with_reducible refine (q_listS ?_)) | (with_reducible refine q_listL) | (with_reducible refine q_listT) | (with_reducible refine (q_sort ?_)) | (with_reducible refine q_revM) | (with_reducible refine q_rev) | (with_reducible refine q_revBM) | (with_reducible refine q_revBL) | (with_reducible refine (q_rgL1 ?_)) | (with_reducible refine (q_rgL2 ?_)) | (with_reducible apply q_fld; exact rfl; exact rfl) | (with_reducible apply q_ixT; exact rfl) | (with_reducible apply q_ixL; exact rfl) | (with_reducible refine q_ixM ?_ ?_) | (with_reducible refine q_ixC ?_ ?_ ?_) | ((with_reducible show isD _ _ = some _); exact rfl) | ((with_reducible show isTy _ _ = true); exact rfl) | kln_le); done))
local macro_rules | `(tactic| kat_tups) => `(tactic| first | kct_strs | ((with_reducible show WN _ _); first | ((with_reducible apply wn); (· first | (simp only [DL.st, DL.wipeE, DL.back, DL.upds, DL.gt]; exact rfl) | exact rfl))) | ((with_reducible show WN2 _ _ _); first | ((with_reducible apply wn2); (· first | (simp only [DL.st, DL.wipeE, DL.back, DL.upds, DL.gt]; exact rfl) | exact rfl))) | ((with_reducible show WPS _ _ _ _ _ _); first | ((with_reducible apply ws_seq)) | ((with_reducible apply ws_set)) | ((with_reducible apply ws_setF)) | ((with_reducible apply ws_skip)) | ((with_reducible apply ws_pass)) | ((with_reducible apply ws_brk)) | ((with_reducible apply ws_cnt)) | ((with_reducible apply ws_retN)) | ((with_reducible apply ws_drop)) | ((with_reducible apply ws_ret)) | ((with_reducible apply ws_sti)) | ((with_reducible apply ws_raise)) | ((with_reducible apply ws_tgt)) | ((with_reducible apply ws_parC)) | ((with_reducible apply ws_par)) | ((with_reducible apply ws_for)) | ((with_reducible apply ws_try)) | ((with_reducible apply ws_W)) | ((with_reducible apply ws_P)) | ((with_reducible apply ws_up)) | ((with_reducible apply ws_forG)) | ((with_reducible apply wkplain)) | ((with_reducible apply wh_n)) | ((with_reducible apply ws_ifP (ft := fAnd _ _)); · ke_read) | ((with_reducible apply ws_ifP (ft := fOr _ _)); · ke_read) | ((with_reducible apply ws_if)) | ((with_reducible apply ws_aug); (· exact rfl)) | ((with_reducible apply ws_yield)) | ((with_reducible apply ws_kapp); (· keq_rows); (· exact rfl); (· exact rfl); (· exact rfl)) | ((with_reducible apply wh_t); (· exact rfl)) | ((with_reducible apply wh_f); (· exact rfl)) | ((with_reducible apply wkret); (· keq_rows))) | ((with_reducible show WPE _ _ _); first | ((with_reducible apply we_bin)) | ((with_reducible apply we_Vd); (· exact rfl)) | ((with_reducible apply we_Vs); (· exact rfl)) | ((with_reducible apply we_C)) | ((with_reducible apply we_cons)) | ((with_reducible apply we_nil)) | ((with_reducible apply we_own)) | ((with_reducible apply we_isO)) | ((with_reducible apply we_ins)) | ((with_reducible apply we_isC)) | ((with_reducible apply we_prop)) | ((with_reducible apply we_make)) | ((with_reducible apply we_Y)) | ((with_reducible apply we_cb)) | ((with_reducible apply we_un)) | ((with_reducible apply we_lst)) | ((with_reducible apply we_tup)) | ((with_reducible apply we_tst)) | ((with_reducible apply we_not)) | ((with_reducible apply we_notV)) | ((with_reducible apply we_part)) | ((with_reducible apply we_sl)) | ((with_reducible apply we_mt0)) | ((with_reducible apply we_mt)) | ((with_reducible apply we_is)) | ((with_reducible apply we_itA)) | ((with_reducible apply we_rg1)) | ((with_reducible apply we_rg2)) | ((with_reducible apply we_itE)) | ((with_reducible apply we_itZ)) | ((with_reducible apply we_call)) | ((with_reducible apply we_callK)) | ((with_reducible apply we_lc)) | ((with_reducible apply we_noP)) | ((with_reducible apply we_dic0)) | ((with_reducible apply we_chain)) | ((with_reducible apply we_listG)) | ((with_reducible apply we_orT)) | ((with_reducible apply we_andT)) | ((with_reducible apply we_and)) | ((with_reducible apply we_or)) | ((with_reducible apply we_andV)) | ((with_reducible apply we_orV)) | ((with_reducible apply we_ifE)) | ((with_reducible apply we_mu); (· exact rfl); (· exact rfl)) | ((with_reducible apply we_pop); (· exact rfl)) | ((with_reducible apply we_sett); (· exact rfl)) | ((with_reducible apply we_settL); (· exact rfl))) | ((with_reducible show WR _ _ _); first | (with_reducible refine wr_at q_addI ?_) | (with_reducible refine wr_at (q_addS ?_) ?_) | (with_reducible refine wr_at q_augI ?_) | (with_reducible refine wr_at (q_augS ?_) ?_) | (with_reducible refine wr_at q_sub ?_) | (with_reducible refine wr_at q_neg ?_) | (with_reducible refine wr_at (q_mul ?_) ?_) | (with_reducible refine wr_at (q_mulS ?_ ?_ ?_) ?_) | (with_reducible refine wr_at (q_mod ?_) ?_) | (with_reducible refine wr_at (q_div ?_ ?_) ?_) | (with_reducible refine wr_at (q_pow ?_) ?_) | (with_reducible refine wr_at q_lt ?_) | (with_reducible refine wr_at q_le ?_) | (with_reducible refine wr_at q_gt ?_) | (with_reducible refine wr_at q_ge ?_) | (with_reducible refine wr_at q_eqI ?_) | (with_reducible refine wr_at q_neI ?_) | (with_reducible refine wr_at q_eqS ?_) | (with_reducible refine wr_at q_neS ?_) | (with_reducible refine wr_at q_eqB ?_) | (with_reducible refine wr_at q_neB ?_) | (with_reducible refine wr_at q_eqNS ?_) | (with_reducible refine wr_at q_eqSN ?_) | (with_reducible refine wr_at q_eqNN ?_) | (with_reducible refine wr_at q_neNS ?_) | (with_reducible refine wr_at q_neSN ?_) | (with_reducible refine wr_at q_neNN ?_) | (with_reducible refine wr_at q_isNN ?_) | (with_reducible refine wr_at q_isNS ?_) | (with_reducible refine wr_at q_isNI ?_) | (with_reducible refine wr_at q_isNL ?_) | (with_reducible refine wr_at q_isNT ?_) | (with_reducible refine wr_at q_ntNN ?_) | (with_reducible refine wr_at q_ntNS ?_) | (with_reducible refine wr_at q_ntNI ?_) | (with_reducible refine wr_at q_ntNL ?_) | (with_reducible refine wr_at q_ntNT ?_) | (with_reducible refine wr_at q_isT ?_) | (with_reducible refine wr_at q_isF ?_) | (with_reducible refine wr_at q_ntT ?_) | (with_reducible refine wr_at q_ntF ?_) | (with_reducible refine wr_at q_inI ?_) | (with_reducible refine wr_at q_niI ?_) | (with_reducible refine wr_at q_inC ?_) | (with_reducible refine wr_at q_niC ?_) | (with_reducible refine wr_at q_lenM ?_) | (with_reducible refine wr_at q_lenF ?_) | (with_reducible refine wr_at q_lenL ?_) | (with_reducible refine wr_at q_lenT ?_) | (with_reducible refine wr_at (q_lenS ?_) ?_) | (with_reducible refine wr_at q_max ?_) | (with_reducible refine wr_at q_min ?_) | (with_reducible refine wr_at q_intI ?_) | (with_reducible refine wr_at q_intB ?_) | (with_reducible refine wr_at q_all ?_) | (with_reducible refine wr_at q_any ?_) | (with_reducible refine wr_at (q_joinC ?_) ?_) | (with_reducible refine wr_at (q_join0 ?_) ?_) | (with_reducible refine wr_at (q_joinW ?_) ?_) | (with_reducible refine wr_at (q_join ?_) ?_) | (with_reducible refine wr_at (q_low1 ?_) ?_) | (with_reducible refine wr_at (q_upp1 ?_) ?_) | (with_reducible refine wr_at (q_low ?_ ?_) ?_) | (with_reducible refine wr_at (q_upp ?_ ?_) ?_) | (with_reducible refine wr_at q_find ?_) | (with_reducible refine wr_at (q_find2 ?_) ?_) | (with_reducible refine wr_at (q_sSd ?_ ?_) ?_) | (with_reducible refine wr_at (q_sSt ?_ ?_) ?_) | (with_reducible refine wr_at (q_sSb ?_ ?_ ?_) ?_) | (with_reducible refine wr_at (q_sS ?_) ?_) | (with_reducible refine wr_at (q_revBS ?_) ?_) | (with_reducible refine wr_ls (q_addM ?_) ?_) | (with_reducible refine wr_ls (q_addL ?_) ?_) | (with_reducible refine wr_ls (q_mulL ?_ ?_ ?_) ?_) | (with_reducible refine wr_ls (q_sMd ?_) ?_) | (with_reducible refine wr_ls (q_sMt ?_) ?_) | (with_reducible refine wr_ls (q_sMb ?_ ?_) ?_) | (with_reducible refine wr_ls q_sM ?_) | (with_reducible refine wr_ls q_sF ?_) | (with_reducible refine wr_ls q_sL ?_) | (with_reducible refine wr_ls (q_listS ?_) ?_) | (with_reducible refine wr_ls q_listL ?_) | (with_reducible refine wr_ls q_listT ?_) | (with_reducible refine wr_ls (q_sort ?_) ?_) | (with_reducible refine wr_ls q_revM ?_) | (with_reducible refine wr_ls q_rev ?_) | (with_reducible refine wr_ls q_revBM ?_) | (with_reducible refine wr_ls q_revBL ?_) | (with_reducible refine wr_ls (q_rgL1 ?_) ?_) | (with_reducible refine wr_ls (q_rgL2 ?_) ?_) | ((with_reducible apply wr_ixT); (· exact rfl)) | ((with_reducible apply wr_ixL); (· exact rfl)) | ((with_reducible apply wr_ixS); (· exact rfl)) | (with_reducible refine wr_at (q_ixM ?_ ?_) ?_) | (with_reducible refine wr_at (q_ixC ?_ ?_ ?_) ?_) | ((with_reducible apply wr_minL); (· with_reducible assumption)) | ((with_reducible apply wr_maxL); (· with_reducible assumption)) | ((with_reducible apply wr_index); (· exact rfl)) | ((with_reducible apply wr_repr); (· with_reducible assumption)) | ((with_reducible apply wr_fld); (· exact rfl); (· exact rfl))) | ((with_reducible show WO _ _); first | ((with_reducible apply wo); (· exact rfl)) | ((with_reducible apply wo_up)) | ((with_reducible apply wtru); (· exact rfl); (· exact rfl)) | ((with_reducible apply wtruS); (· exact rfl))) | ((with_reducible show WI _ _ _); first | ((with_reducible apply wi_t)) | ((with_reducible apply wi_f)) | ((with_reducible apply wi_nt)) | ((with_reducible apply wi_nf)) | ((with_reducible apply wi_not)) | (with_reducible refine wi_eqt (by with_reducible assumption) ?_) | (with_reducible refine wi_eqf (by with_reducible assumption) ?_) | (with_reducible refine wi_dect (by first | (with_reducible assumption) | ked_read) ?_) | (with_reducible refine wi_decf (by first | (with_reducible assumption) | ked_read) ?_) | (with_reducible refine wi_dec (fun _ => ?_) (fun _ => ?_)) | (with_reducible refine wi_and (fun _ _ => ?_) (fun _ => ?_)) | (with_reducible refine wi_or (fun _ => ?_) (fun _ _ => ?_)) | (with_reducible refine wi_gen (fun _ => ?_) (fun _ => ?_))) | ((with_reducible apply weq)) | ((with_reducible apply wmu_app); (· exact rfl)) | ((with_reducible apply wmu_ext); (· exact rfl)) | ((with_reducible apply wmu_popM); (· exact rfl)) | ((with_reducible apply wmu_popA); (· exact rfl)) | ((with_reducible apply wsti_L); (· exact rfl)) | ((with_reducible apply wlg); (· exact rfl)) | ((with_reducible apply wce); (· exact rfl)) | ((with_reducible apply wpt)) | ((with_reducible apply wpar); (· exact rfl)) | ((with_reducible apply witE)) | ((with_reducible apply witZ)) | ((with_reducible apply wt); (· exact rfl)) | ((with_reducible apply wret); (· exact rfl)) | ((with_reducible apply wca0); (· exact rfl); (· exact rfl); (· exact rfl)) | ((with_reducible apply wca); (· exact rfl); (· exact rfl); (· exact rfl)) | ((with_reducible apply wck2); (· exact rfl); (· (simp only [DL.permL, List.filterMap_cons, List.filterMap_nil, List.getElem?_cons_zero, List.getElem?_cons_succ]; exact rfl))) | ((with_reducible apply wck); (· exact rfl)) | ((with_reducible apply wrt_d); (· exact rfl)) | ((with_reducible apply wrt_n); (· exact rfl)) | ((with_reducible apply witS); (· exact rfl)) | ((with_reducible apply wit_l); (· exact rfl)) | ((with_reducible apply wit_f); (· exact rfl)) | ((with_reducible apply Exists.intro); (with_reducible apply And.intro); · exact rfl) | ((with_reducible apply Exists.intro); (with_reducible apply Exists.intro); (with_reducible apply And.intro); · exact rfl) | ((with_reducible apply wis); (· exact rfl)) | ((with_reducible apply wmk); (· exact rfl); (· exact rfl)) | ((with_reducible apply wso); (· exact rfl); (· exact rfl); (· exact rfl)) | ((with_reducible apply wmp0)) | ((with_reducible apply wmp1)) | ((with_reducible apply wmp2)) | ((with_reducible apply wmp3)) | ((with_reducible apply wmp4)) | ((with_reducible apply wrg1)) | ((with_reducible apply wrg2)) | ((with_reducible apply And.intro)) | ((with_reducible apply wc_pure); (· kln_le); (· (intro _ _; kp_flats; done))) | ((with_reducible apply wc_rngP); (· kln_le); (· (intro _ _; kp_flats; done))) | ((with_reducible apply wc_filt); (· kln_le); (· (intro _ _; kp_flats; done))) | ((with_reducible apply wc_rngF); (· kln_le); (· (intro _ _; kp_flats; done))) | ((with_reducible show ∀ c, c ∈ _ → WO _ _); intro _ _) | ((with_reducible show ∀ c, c < _ → WO _ _); intro _ _) | ((with_reducible show @Eq (List Sl) _ _); exact rfl) | ((with_reducible show isTy _ _ = true); exact rfl) | kln_le)
local macro_rules | `(tactic| kp_flats) => `(tactic| repeat' kat_tups)
local macro_rules | `(tactic| kqd_all) => `(tactic| first | (with_reducible apply wc_pure) | (with_reducible apply wc_rngP) | (with_reducible apply wc_filt) | (with_reducible apply wc_rngF))
local macro_rules | `(tactic| kct_strs) => `(tactic| fail)
local macro_rules | `(tactic| kct_strs) => `(tactic| (with_reducible apply sp_take))
local macro_rules | `(tactic| kct_strs) => `(tactic| (with_reducible apply sp_program))
local macro_rules | `(tactic| kct_strs) => `(tactic| (with_reducible apply sp_places))
local macro_rules | `(tactic| kct_strs) => `(tactic| (with_reducible apply sp_taken))
local macro_rules | `(tactic| kct_strs) => `(tactic| (with_reducible apply sp_put_items))
local macro_rules | `(tactic| kct_strs) => `(tactic| (with_reducible apply sp_counts))
local macro_rules | `(tactic| kct_strs) => `(tactic| (with_reducible apply sp_succ))
abbrev ints' (l : List Nat) : D := .lst (l.map fun (k : Nat) => D.int (k : Int))
def least (f : Nat → Bool) (r : Nat) : Prop := f r = true ∧ ∀ t, t < r → f t = false
theorem least_uniq {f : Nat → Bool} {r s : Nat} (h : least f r) (g : least f s) : r = s := by
  rcases Nat.lt_trichotomy r s with z | z | z
  · have := g.2 r z; rw [h.1] at this; cases this
  · exact z
  · have := h.2 s z; rw [g.1] at this; cases this
theorem sp_core_of {a b ns : List Nat} {Q : PV → DL.Env → Prop} {X : XP} (ha : a.length ≤ 1000) (hb : b.length ≤ 1000) (hn : ns.length = a.length)
    (k0 : ∀ r : Nat, r ≤ a.length → least (suc a b ns) r → Q (.d (.int (r : Int))) [.un, .un, .un]) : WPE (m_core_of [.va (.str a), .va (.str b), .va (ints' ns)]) Q X := by
  refine w_core_of ?_
  unfold b_core_of
  kp_flats
  refine wl_while (n := a.length) (fun k e => ∃ lo hi : Nat, e = [.va (.str a), .va (.str b), .va (ints' ns), .va (.int (lo : Int)), .va (.int (hi : Int)), .un] ∧ lo ≤ hi ∧ hi ≤ a.length ∧ hi - lo = k ∧ suc a b ns hi = true ∧ ∀ t, t < lo → suc a b ns t = false) ?_ ?_ (Nat.lt_of_le_of_lt ha (by decide))
  · exact ⟨0, a.length, rfl, Nat.zero_le _, Nat.le_refl _, by omega, suc_last hn, fun t h => by omega⟩
  · rintro k e ⟨lo, hi, rfl, h1, h2, h3, h4, h5⟩
    obtain ⟨m, hm⟩ : ∃ m : Nat, ((lo : Int) + (hi : Int)) / 2 = (m : Int) := ⟨(lo + hi) / 2, by omega⟩
    kp_flats
    · rw [hm]
      refine sp_succ ha hb hn (by omega) ?_
      kp_flats
      · rename_i hs
        exact ⟨m - lo, by omega, lo, m, rfl, by omega, by omega, rfl, hs, h5⟩
      · rename_i hs
        exact ⟨hi - (m + 1), by omega, m + 1, hi, rfl, by omega, h2, rfl, h4, fun t ht => by
          cases hq : suc a b ns t with
          | false => rfl
          | true =>
            have := suc_mono hn (show t ≤ m by omega) hq
            rw [hs] at this; cases this⟩
    · rename_i hlt
      have e : lo = hi := by omega
      subst e
      exact k0 lo h2 ⟨h4, h5⟩
local macro_rules | `(tactic| kct_strs) => `(tactic| (with_reducible apply sp_core_of))
abbrev sucP (p : List Nat) : Nat → Bool := suc (tkn p) (ptn p) (cnt p 0)
abbrev trp (p : List Nat) (r : Nat) : D := .tup [.str (tkn p), .str (ptn p), .int (r : Int)]
theorem tkn_len (p : List Nat) : (tkn p).length ≤ p.length := by unfold tkn; rw [List.length_map]; exact List.length_filter_le _ _
theorem ptn_len (p : List Nat) : (ptn p).length ≤ p.length := List.length_filter_le _ _
theorem sp_triple {p : List Nat} {Q : PV → DL.Env → Prop} {X : XP} (hp : Prg p) (hl : p.length ≤ 1000)
    (k0 : ∀ r : Nat, r ≤ (tkn p).length → least (sucP p) r → Q (.d (trp p r)) [.un]) : WPE (m_triple [.va (.str p)]) Q X := by
  have h1 := tkn_len p
  have h2 := ptn_len p
  refine w_triple ?_
  unfold b_triple
  kp_flats
  · exact cnt_len p 0
  · intro r hr hs
    kp_flats
    exact k0 r hr hs
local macro_rules | `(tactic| kct_strs) => `(tactic| (with_reducible apply sp_triple))
theorem mem_moves {c : Nat} (h : c ∈ moves) : c ∈ [97, 98, 99, 100, 101, 102, 103, 104] ++ [97, 98, 99, 100, 101, 102, 103, 104].map up1 := by
  revert c; decide
theorem sp_is_program {p : List Nat} {Q : PV → DL.Env → Prop} {X : XP} (hp : Prg p) (hl : p.length ≤ 400) (k0 : Q (.d (.bl true)) [.un]) : WPE (m_is_program [.va (.str p)]) Q X := by
  refine w_is_program ?_
  unfold b_is_program
  kp_flats
  refine wc_pure (h := fun _ => .bl true) (Nat.le_trans hl (by decide)) ?_ ?_
  · intro c hc
    have hm := decide_eq_true (mem_moves (hp c hc))
    kp_flats
    · decide
    · rw [hm]
  · kp_flats
    rw [show p.all (fun _ => true) = true by simp]; exact k0
local macro_rules | `(tactic| kct_strs) => `(tactic| (with_reducible apply sp_is_program))
theorem sp_require_program {p : List Nat} {Q : PV → DL.Env → Prop} {X : XP} (hp : Prg p) (hl : p.length ≤ 400) (k0 : Q (.d .non) [.un]) : WPE (m_require_program [.va (.str p)]) Q X := by
  refine w_require_program ?_
  unfold b_require_program
  kp_flats
local macro_rules | `(tactic| kct_strs) => `(tactic| (with_reducible apply sp_require_program))
theorem prg_app {p q : List Nat} (hp : Prg p) (hq : Prg q) : Prg (p ++ q) := fun c hc => (List.mem_append.mp hc).elim (hp c) (hq c)
theorem tkn_ok {p : List Nat} (hp : Prg p) : ((tkn p).all fun x => decide (x < 1114112)) = true := List.all_eq_true.mpr fun x hx => by
  obtain ⟨c, hc, rfl⟩ := List.mem_map.mp hx
  have := prg_lt hp c (List.mem_filter.mp hc).1
  unfold lo1
  split <;> exact decide_eq_true (by omega)
theorem ptn_ok {p : List Nat} (hp : Prg p) : ((ptn p).all fun x => decide (x < 1114112)) = true := List.all_eq_true.mpr fun x hx => by
  have := prg_lt hp x (List.mem_filter.mp hx).1
  exact decide_eq_true (by omega)
/-! the law's own -/
theorem bst_t {c : Nat} {r w : List Nat} (h : isI c = true) : bst (c :: r) w = bst r (w ++ [c]) := if_pos h
theorem bst_n {c : Nat} {r w : List Nat} (h : isI c = false) (hk : seek (lo1 c) w 0 = none) : bst (c :: r) w = none := by
  show (if isI c = true then _ else match seek (lo1 c) w 0 with | none => none | some k => bst r (w.drop (k + 1))) = none
  rw [if_neg (by rw [h]; decide), hk]
theorem bst_s {c k : Nat} {r w : List Nat} (h : isI c = false) (hk : seek (lo1 c) w 0 = some k) : bst (c :: r) w = bst r (w.drop (k + 1)) := by
  show (if isI c = true then _ else match seek (lo1 c) w 0 with | none => none | some k => bst r (w.drop (k + 1))) = _
  rw [if_neg (by rw [h]; decide), hk]
theorem sp_best {p w : List Nat} {Q : PV → DL.Env → Prop} {X : XP} (hp : Prg p) (hl : p.length ≤ 1000) (hw : w.length ≤ 1000)
    (k0 : Q (.d (match bst p w with | some u => .str u | none => .non)) [.un, .un]) : WPE (m_law_best [.va (.str p), .va (.str w)]) Q X := by
  refine w_law_best ?_
  unfold b_law_best
  kp_flats
  refine wl_map (f := fun c => D.str [c]) (l := p) (fun pre post e => ∃ v : List Nat, e = [.va (.str p), .va (.str v), .un] ∧ bst post v = bst p w ∧ v.length ≤ 1000 + pre.length) ?_ ?_ ?_
  · exact ⟨w, rfl, rfl, by simpa using hw⟩
  · rintro pre c post e hq ⟨v, rfl, h1, h2⟩
    have hc := prg_lt hp c (by rw [hq]; simp)
    have hm := congrArg List.length hq
    simp only [List.length_append, List.length_cons] at hm
    cases hk : seek (lo1 c) v 0 with
    | none =>
      have hn : decide (lo1 c ∈ v) = false := decide_eq_false (seek_no hk)
      kp_flats
      · rename_i hx; exact (bst_t hx).symm.trans h1
      · rename_i hx
        rw [bst_n hx hk] at h1
        rw [← h1] at k0; exact k0
    | some k =>
      have hn : decide (lo1 c ∈ v) = true := decide_eq_true (List.mem_of_getElem? (seek_some hk).2.1)
      kp_flats
      · rename_i hx; exact (bst_t hx).symm.trans h1
      · rename_i hx
        refine wr_at (q_index hk) ?_
        kp_flats
        all_goals first
          | (rw [show ((k : Int) + 1).toNat = k + 1 by omega]; exact (bst_s hx hk).symm.trans h1)
          | (simp only [List.length_drop, List.length_append, List.length_cons, List.length_nil]; omega)
          | exact ⟨_, rfl, by rw [show ((k : Int) + 1).toNat = k + 1 by omega]; exact (bst_s hx hk).symm.trans h1, by simp only [List.length_drop, List.length_append, List.length_cons, List.length_nil]; omega⟩
  · rintro e ⟨v, rfl, h1, h2⟩
    have h1 : some v = bst p w := h1
    rw [← h1] at k0
    kp_flats
end K24
set_option Elab.async false
set_option linter.all false
set_option maxRecDepth 100000
set_option maxHeartbeats 4000000
namespace K24
open PySem PySem.Spec PyProof.Rows L2 DL
local macro_rules | `(tactic| ked_read) => `(tactic| (try simp only [List.length_append, List.length_cons, List.length_nil, List.length_map, List.length_drop, List.length_take, List.length_replicate, List.length_range, List.length_reverse, List.length_tail, List.length_eraseIdx, LIM] at *) <;> omega)
local macro_rules | `(tactic| kln_le) => `(tactic| first | (with_reducible exact rfl) | (with_reducible assumption) | omega | (simp only [List.length_append, List.length_cons, List.length_nil, List.length_map, List.length_drop, List.length_take, List.length_range, List.length_reverse, LIM] <;> omega) | ((with_reducible apply cMul_l); omega) | ((with_reducible apply cMul_r); omega) | (with_reducible exact isI_iff.mpr (by omega)) | ((with_reducible show cPow _ _ = true); decide))
local macro_rules | `(tactic| keq_rows) => `(tactic| (simp only [List.length_cons, List.length_nil] <;> omega))
local macro_rules | `(tactic| ke_read) => `(tactic| ((repeat' first | kct_strs | (with_reducible refine et_and ?_ (fun _ => ?_)) | (with_reducible refine et_or ?_ (fun _ => ?_)) | ((with_reducible apply et_not)) | ((with_reducible apply et_tst)) | ((with_reducible apply ed_V); (· exact rfl)) | ((with_reducible apply ed_S); (· exact rfl)) | ((with_reducible apply ed_C)) | ((with_reducible apply el_nil)) | ((with_reducible apply el_cons)) | ((with_reducible apply epa_no)) | ((with_reducible apply epa_pt)) | ((with_reducible apply ed_notV)) | (with_reducible refine ed_andV ?_ (fun _ => ?_)) | (with_reducible refine ed_orV ?_ (fun _ => ?_)) | (with_reducible apply ed_is) | (with_reducible apply ed_binA) | (with_reducible apply ed_unA) | (with_reducible apply ed_cbA) | ((with_reducible apply ed_slA)) | (with_reducible apply ed_mt0A) | (with_reducible apply ed_mtA) | (with_reducible refine q_addI) | (with_reducible refine (q_addS ?_)) | (with_reducible refine q_augI) | (with_reducible refine (q_augS ?_)) | (with_reducible refine q_sub) | (with_reducible refine q_neg) | (with_reducible refine (q_mul ?_)) | (with_reducible refine (q_mulS ?_ ?_ ?_)) | (with_reducible refine (q_mod ?_)) | (with_reducible refine (q_div ?_ ?_)) | (with_reducible refine (q_pow ?_)) | (with_reducible refine q_lt) | (with_reducible refine q_le) | (with_reducible refine q_gt) | (with_reducible refine q_ge) | (with_reducible refine q_eqI) | (with_reducible refine q_neI) | (with_reducible refine q_eqS) | (with_reducible refine q_neS) | (with_reducible refine q_eqB) | (with_reducible refine q_neB) | (with_reducible refine q_eqNS) | (with_reducible refine q_eqSN) | (with_reducible refine q_eqNN) | (with_reducible refine q_neNS) | (with_reducible refine q_neSN) | (with_reducible refine q_neNN) | (with_reducible refine q_isNN) | (with_reducible refine q_isNS) | (with_reducible refine q_isNI) | (with_reducible refine q_isNL) | (with_reducible refine q_isNT) | (with_reducible refine q_ntNN) | (with_reducible refine q_ntNS) | (with_reducible refine q_ntNI) | (with_reducible refine q_ntNL) | (with_reducible refine q_ntNT) | (with_reducible refine q_isT) | (with_reducible refine q_isF) | (with_reducible refine q_ntT) | (with_reducible refine q_ntF) | (with_reducible refine q_inI) | (with_reducible refine q_niI) | (with_reducible refine q_inC) | (with_reducible refine q_niC) | (with_reducible refine q_lenM) | (with_reducible refine q_lenF) | (with_reducible refine q_lenL) | (with_reducible refine q_lenT) | (with_reducible refine (q_lenS ?_)) | (with_reducible refine q_max) | (with_reducible refine q_min) | (with_reducible refine q_intI) | (with_reducible refine q_intB) | (with_reducible refine q_all) | (with_reducible refine q_any) | (with_reducible refine (q_joinC ?_)) | (with_reducible refine (q_join0 ?_)) | (with_reducible refine (q_joinW ?_)) | (with_reducible refine (q_join ?_)) | (with_reducible refine (q_low1 ?_)) | (with_reducible refine (q_upp1 ?_)) | (with_reducible refine (q_low ?_ ?_)) | (with_reducible refine (q_upp ?_ ?_)) | (with_reducible refine q_find) | (with_reducible refine (q_find2 ?_)) | (with_reducible refine (q_sSd ?_ ?_)) | (with_reducible refine (q_sSt ?_ ?_)) | (with_reducible refine (q_sSb ?_ ?_ ?_)) | (with_reducible refine (q_sS ?_)) | (with_reducible refine (q_revBS ?_)) | (with_reducible refine (q_addM ?_)) | (with_reducible refine (q_addL ?_)) | (with_reducible refine (q_mulL ?_ ?_ ?_)) | (with_reducible refine (q_sMd ?_)) | (with_reducible refine (q_sMt ?_)) | (with_reducible refine (q_sMb ?_ ?_)) | (with_reducible refine q_sM) | (with_reducible refine q_sF) | (with_reducible refine q_sL) | (with_reducible refine (q_listS ?_)) | (with_reducible refine q_listL) | (with_reducible refine q_listT) | (with_reducible refine (q_sort ?_)) | (with_reducible refine q_revM) | (with_reducible refine q_rev) | (with_reducible refine q_revBM) | (with_reducible refine q_revBL) | (with_reducible refine (q_rgL1 ?_)) | (with_reducible refine (q_rgL2 ?_)) | (with_reducible apply q_fld; exact rfl; exact rfl) | (with_reducible apply q_ixT; exact rfl) | (with_reducible apply q_ixL; exact rfl) | (with_reducible refine q_ixM ?_ ?_) | (with_reducible refine q_ixC ?_ ?_ ?_) | ((with_reducible show isD _ _ = some _); exact rfl) | ((with_reducible show isTy _ _ = true); exact rfl) | kln_le); done))
local macro_rules | `(tactic| kat_tups) => `(tactic| first | kct_strs | ((with_reducible show WN _ _); first | ((with_reducible apply wn); (· first | (simp only [DL.st, DL.wipeE, DL.back, DL.upds, DL.gt]; exact rfl) | exact rfl))) | ((with_reducible show WN2 _ _ _); first | ((with_reducible apply wn2); (· first | (simp only [DL.st, DL.wipeE, DL.back, DL.upds, DL.gt]; exact rfl) | exact rfl))) | ((with_reducible show WPS _ _ _ _ _ _); first | ((with_reducible apply ws_seq)) | ((with_reducible apply ws_set)) | ((with_reducible apply ws_setF)) | ((with_reducible apply ws_skip)) | ((with_reducible apply ws_pass)) | ((with_reducible apply ws_brk)) | ((with_reducible apply ws_cnt)) | ((with_reducible apply ws_retN)) | ((with_reducible apply ws_drop)) | ((with_reducible apply ws_ret)) | ((with_reducible apply ws_sti)) | ((with_reducible apply ws_raise)) | ((with_reducible apply ws_tgt)) | ((with_reducible apply ws_parC)) | ((with_reducible apply ws_par)) | ((with_reducible apply ws_for)) | ((with_reducible apply ws_try)) | ((with_reducible apply ws_W)) | ((with_reducible apply ws_P)) | ((with_reducible apply ws_up)) | ((with_reducible apply ws_forG)) | ((with_reducible apply wkplain)) | ((with_reducible apply wh_n)) | ((with_reducible apply ws_ifP (ft := fAnd _ _)); · ke_read) | ((with_reducible apply ws_ifP (ft := fOr _ _)); · ke_read) | ((with_reducible apply ws_if)) | ((with_reducible apply ws_aug); (· exact rfl)) | ((with_reducible apply ws_yield)) | ((with_reducible apply ws_kapp); (· keq_rows); (· exact rfl); (· exact rfl); (· exact rfl)) | ((with_reducible apply wh_t); (· exact rfl)) | ((with_reducible apply wh_f); (· exact rfl)) | ((with_reducible apply wkret); (· keq_rows))) | ((with_reducible show WPE _ _ _); first | ((with_reducible apply we_bin)) | ((with_reducible apply we_Vd); (· exact rfl)) | ((with_reducible apply we_Vs); (· exact rfl)) | ((with_reducible apply we_C)) | ((with_reducible apply we_cons)) | ((with_reducible apply we_nil)) | ((with_reducible apply we_own)) | ((with_reducible apply we_isO)) | ((with_reducible apply we_ins)) | ((with_reducible apply we_isC)) | ((with_reducible apply we_prop)) | ((with_reducible apply we_make)) | ((with_reducible apply we_Y)) | ((with_reducible apply we_cb)) | ((with_reducible apply we_un)) | ((with_reducible apply we_lst)) | ((with_reducible apply we_tup)) | ((with_reducible apply we_tst)) | ((with_reducible apply we_not)) | ((with_reducible apply we_notV)) | ((with_reducible apply we_part)) | ((with_reducible apply we_sl)) | ((with_reducible apply we_mt0)) | ((with_reducible apply we_mt)) | ((with_reducible apply we_is)) | ((with_reducible apply we_itA)) | ((with_reducible apply we_rg1)) | ((with_reducible apply we_rg2)) | ((with_reducible apply we_itE)) | ((with_reducible apply we_itZ)) | ((with_reducible apply we_call)) | ((with_reducible apply we_callK)) | ((with_reducible apply we_lc)) | ((with_reducible apply we_noP)) | ((with_reducible apply we_dic0)) | ((with_reducible apply we_chain)) | ((with_reducible apply we_listG)) | ((with_reducible apply we_orT)) | ((with_reducible apply we_andT)) | ((with_reducible apply we_and)) | ((with_reducible apply we_or)) | ((with_reducible apply we_andV)) | ((with_reducible apply we_orV)) | ((with_reducible apply we_ifE)) | ((with_reducible apply we_mu); (· exact rfl); (· exact rfl)) | ((with_reducible apply we_pop); (· exact rfl)) | ((with_reducible apply we_sett); (· exact rfl)) | ((with_reducible apply we_settL); (· exact rfl))) | ((with_reducible show WR _ _ _); first | (with_reducible refine wr_at q_addI ?_) | (with_reducible refine wr_at (q_addS ?_) ?_) | (with_reducible refine wr_at q_augI ?_) | (with_reducible refine wr_at (q_augS ?_) ?_) | (with_reducible refine wr_at q_sub ?_) | (with_reducible refine wr_at q_neg ?_) | (with_reducible refine wr_at (q_mul ?_) ?_) | (with_reducible refine wr_at (q_mulS ?_ ?_ ?_) ?_) | (with_reducible refine wr_at (q_mod ?_) ?_) | (with_reducible refine wr_at (q_div ?_ ?_) ?_) | (with_reducible refine wr_at (q_pow ?_) ?_) | (with_reducible refine wr_at q_lt ?_) | (with_reducible refine wr_at q_le ?_) | (with_reducible refine wr_at q_gt ?_) | (with_reducible refine wr_at q_ge ?_) | (with_reducible refine wr_at q_eqI ?_) | (with_reducible refine wr_at q_neI ?_) | (with_reducible refine wr_at q_eqS ?_) | (with_reducible refine wr_at q_neS ?_) | (with_reducible refine wr_at q_eqB ?_) | (with_reducible refine wr_at q_neB ?_) | (with_reducible refine wr_at q_eqNS ?_) | (with_reducible refine wr_at q_eqSN ?_) | (with_reducible refine wr_at q_eqNN ?_) | (with_reducible refine wr_at q_neNS ?_) | (with_reducible refine wr_at q_neSN ?_) | (with_reducible refine wr_at q_neNN ?_) | (with_reducible refine wr_at q_isNN ?_) | (with_reducible refine wr_at q_isNS ?_) | (with_reducible refine wr_at q_isNI ?_) | (with_reducible refine wr_at q_isNL ?_) | (with_reducible refine wr_at q_isNT ?_) | (with_reducible refine wr_at q_ntNN ?_) | (with_reducible refine wr_at q_ntNS ?_) | (with_reducible refine wr_at q_ntNI ?_) | (with_reducible refine wr_at q_ntNL ?_) | (with_reducible refine wr_at q_ntNT ?_) | (with_reducible refine wr_at q_isT ?_) | (with_reducible refine wr_at q_isF ?_) | (with_reducible refine wr_at q_ntT ?_) | (with_reducible refine wr_at q_ntF ?_) | (with_reducible refine wr_at q_inI ?_) | (with_reducible refine wr_at q_niI ?_) | (with_reducible refine wr_at q_inC ?_) | (with_reducible refine wr_at q_niC ?_) | (with_reducible refine wr_at q_lenM ?_) | (with_reducible refine wr_at q_lenF ?_) | (with_reducible refine wr_at q_lenL ?_) | (with_reducible refine wr_at q_lenT ?_) | (with_reducible refine wr_at (q_lenS ?_) ?_) | (with_reducible refine wr_at q_max ?_) | (with_reducible refine wr_at q_min ?_) | (with_reducible refine wr_at q_intI ?_) | (with_reducible refine wr_at q_intB ?_) | (with_reducible refine wr_at q_all ?_) | (with_reducible refine wr_at q_any ?_) | (with_reducible refine wr_at (q_joinC ?_) ?_) | (with_reducible refine wr_at (q_join0 ?_) ?_) | (with_reducible refine wr_at (q_joinW ?_) ?_) | (with_reducible refine wr_at (q_join ?_) ?_) | (with_reducible refine wr_at (q_low1 ?_) ?_) | (with_reducible refine wr_at (q_upp1 ?_) ?_) | (with_reducible refine wr_at (q_low ?_ ?_) ?_) | (with_reducible refine wr_at (q_upp ?_ ?_) ?_) | (with_reducible refine wr_at q_find ?_) | (with_reducible refine wr_at (q_find2 ?_) ?_) | (with_reducible refine wr_at (q_sSd ?_ ?_) ?_) | (with_reducible refine wr_at (q_sSt ?_ ?_) ?_) | (with_reducible refine wr_at (q_sSb ?_ ?_ ?_) ?_) | (with_reducible refine wr_at (q_sS ?_) ?_) | (with_reducible refine wr_at (q_revBS ?_) ?_) | (with_reducible refine wr_ls (q_addM ?_) ?_) | (with_reducible refine wr_ls (q_addL ?_) ?_) | (with_reducible refine wr_ls (q_mulL ?_ ?_ ?_) ?_) | (with_reducible refine wr_ls (q_sMd ?_) ?_) | (with_reducible refine wr_ls (q_sMt ?_) ?_) | (with_reducible refine wr_ls (q_sMb ?_ ?_) ?_) | (with_reducible refine wr_ls q_sM ?_) | (with_reducible refine wr_ls q_sF ?_) | (with_reducible refine wr_ls q_sL ?_) | (with_reducible refine wr_ls (q_listS ?_) ?_) | (with_reducible refine wr_ls q_listL ?_) | (with_reducible refine wr_ls q_listT ?_) | (with_reducible refine wr_ls (q_sort ?_) ?_) | (with_reducible refine wr_ls q_revM ?_) | (with_reducible refine wr_ls q_rev ?_) | (with_reducible refine wr_ls q_revBM ?_) | (with_reducible refine wr_ls q_revBL ?_) | (with_reducible refine wr_ls (q_rgL1 ?_) ?_) | (with_reducible refine wr_ls (q_rgL2 ?_) ?_) | ((with_reducible apply wr_ixT); (· exact rfl)) | ((with_reducible apply wr_ixL); (· exact rfl)) | ((with_reducible apply wr_ixS); (· exact rfl)) | (with_reducible refine wr_at (q_ixM ?_ ?_) ?_) | (with_reducible refine wr_at (q_ixC ?_ ?_ ?_) ?_) | ((with_reducible apply wr_minL); (· with_reducible assumption)) | ((with_reducible apply wr_maxL); (· with_reducible assumption)) | ((with_reducible apply wr_index); (· exact rfl)) | ((with_reducible apply wr_repr); (· with_reducible assumption)) | ((with_reducible apply wr_fld); (· exact rfl); (· exact rfl))) | ((with_reducible show WO _ _); first | ((with_reducible apply wo); (· exact rfl)) | ((with_reducible apply wo_up)) | ((with_reducible apply wtru); (· exact rfl); (· exact rfl)) | ((with_reducible apply wtruS); (· exact rfl))) | ((with_reducible show WI _ _ _); first | ((with_reducible apply wi_t)) | ((with_reducible apply wi_f)) | ((with_reducible apply wi_nt)) | ((with_reducible apply wi_nf)) | ((with_reducible apply wi_not)) | (with_reducible refine wi_eqt (by with_reducible assumption) ?_) | (with_reducible refine wi_eqf (by with_reducible assumption) ?_) | (with_reducible refine wi_dect (by first | (with_reducible assumption) | ked_read) ?_) | (with_reducible refine wi_decf (by first | (with_reducible assumption) | ked_read) ?_) | (with_reducible refine wi_dec (fun _ => ?_) (fun _ => ?_)) | (with_reducible refine wi_and (fun _ _ => ?_) (fun _ => ?_)) | (with_reducible refine wi_or (fun _ => ?_) (fun _ _ => ?_)) | (with_reducible refine wi_gen (fun _ => ?_) (fun _ => ?_))) | ((with_reducible apply weq)) | ((with_reducible apply wmu_app); (· exact rfl)) | ((with_reducible apply wmu_ext); (· exact rfl)) | ((with_reducible apply wmu_popM); (· exact rfl)) | ((with_reducible apply wmu_popA); (· exact rfl)) | ((with_reducible apply wsti_L); (· exact rfl)) | ((with_reducible apply wlg); (· exact rfl)) | ((with_reducible apply wce); (· exact rfl)) | ((with_reducible apply wpt)) | ((with_reducible apply wpar); (· exact rfl)) | ((with_reducible apply witE)) | ((with_reducible apply witZ)) | ((with_reducible apply wt); (· exact rfl)) | ((with_reducible apply wret); (· exact rfl)) | ((with_reducible apply wca0); (· exact rfl); (· exact rfl); (· exact rfl)) | ((with_reducible apply wca); (· exact rfl); (· exact rfl); (· exact rfl)) | ((with_reducible apply wck2); (· exact rfl); (· (simp only [DL.permL, List.filterMap_cons, List.filterMap_nil, List.getElem?_cons_zero, List.getElem?_cons_succ]; exact rfl))) | ((with_reducible apply wck); (· exact rfl)) | ((with_reducible apply wrt_d); (· exact rfl)) | ((with_reducible apply wrt_n); (· exact rfl)) | ((with_reducible apply witS); (· exact rfl)) | ((with_reducible apply wit_l); (· exact rfl)) | ((with_reducible apply wit_f); (· exact rfl)) | ((with_reducible apply Exists.intro); (with_reducible apply And.intro); · exact rfl) | ((with_reducible apply Exists.intro); (with_reducible apply Exists.intro); (with_reducible apply And.intro); · exact rfl) | ((with_reducible apply wis); (· exact rfl)) | ((with_reducible apply wmk); (· exact rfl); (· exact rfl)) | ((with_reducible apply wso); (· exact rfl); (· exact rfl); (· exact rfl)) | ((with_reducible apply wmp0)) | ((with_reducible apply wmp1)) | ((with_reducible apply wmp2)) | ((with_reducible apply wmp3)) | ((with_reducible apply wmp4)) | ((with_reducible apply wrg1)) | ((with_reducible apply wrg2)) | ((with_reducible apply And.intro)) | ((with_reducible apply wc_pure); (· kln_le); (· (intro _ _; kp_flats; done))) | ((with_reducible apply wc_rngP); (· kln_le); (· (intro _ _; kp_flats; done))) | ((with_reducible apply wc_filt); (· kln_le); (· (intro _ _; kp_flats; done))) | ((with_reducible apply wc_rngF); (· kln_le); (· (intro _ _; kp_flats; done))) | ((with_reducible show ∀ c, c ∈ _ → WO _ _); intro _ _) | ((with_reducible show ∀ c, c < _ → WO _ _); intro _ _) | ((with_reducible show @Eq (List Sl) _ _); exact rfl) | ((with_reducible show isTy _ _ = true); exact rfl) | kln_le)
local macro_rules | `(tactic| kp_flats) => `(tactic| repeat' kat_tups)
local macro_rules | `(tactic| kqd_all) => `(tactic| first | (with_reducible apply wc_pure) | (with_reducible apply wc_rngP) | (with_reducible apply wc_filt) | (with_reducible apply wc_rngF))
local macro_rules | `(tactic| kct_strs) => `(tactic| fail)
theorem sp_isp_non {Q : PV → DL.Env → Prop} {X : XP} (k0 : Q (.d (.bl false)) [.un]) : WPE (m_is_program [.va .non]) Q X := by
  refine w_is_program ?_
  unfold b_is_program
  kp_flats
theorem sp_isp_int {i : Int} {Q : PV → DL.Env → Prop} {X : XP} (k0 : Q (.d (.bl false)) [.un]) : WPE (m_is_program [.va (.int i)]) Q X := by
  refine w_is_program ?_
  unfold b_is_program
  kp_flats
theorem sp_isp_big {p : List Nat} {Q : PV → DL.Env → Prop} {X : XP} (h : 400 < p.length) (h2 : p.length ≤ 100000) (k0 : Q (.d (.bl false)) [.un]) : WPE (m_is_program [.va (.str p)]) Q X := by
  refine w_is_program ?_
  unfold b_is_program
  kp_flats
theorem sp_isp_i {Q : PV → DL.Env → Prop} {X : XP} (k0 : Q (.d (.bl false)) [.un]) : WPE (m_is_program [.va (.str [105])]) Q X := by
  refine w_is_program ?_
  unfold b_is_program
  kp_flats
  refine wc_pure (h := fun c => .bl (decide (c ∈ [97, 98, 99, 100, 101, 102, 103, 104] ++ [97, 98, 99, 100, 101, 102, 103, 104].map up1))) (l := [105]) (by decide) ?_ ?_
  · intro c hc
    kp_flats
    decide
  · kp_flats
    exact k0
/-- what a def refuses -/
def Bad (d : D) : Prop := ∀ (Q : PV → DL.Env → Prop) (X : XP), Q (.d (.bl false)) [.un] → WPE (m_is_program [.va d]) Q X
theorem sp_req_bad {d : D} {Q : PV → DL.Env → Prop} {X : XP} (h : Bad d) (k0 : X x_InvalidProgram d [.un]) : WPE (m_require_program [.va d]) Q X := by
  refine w_require_program ?_
  unfold b_require_program
  kp_flats
  refine h _ _ ?_
  kp_flats
theorem bad_non : Bad .non := fun Q X k => sp_isp_non k
theorem bad_int (i : Int) : Bad (.int i) := fun Q X k => sp_isp_int k
theorem bad_i : Bad (.str [105]) := fun Q X k => sp_isp_i k
theorem bad_big {p : List Nat} (h : 400 < p.length) (h2 : p.length ≤ 100000) : Bad (.str p) := fun Q X k => sp_isp_big h h2 k
theorem a_prg (n : Nat) : Prg (List.replicate n 97) := fun c hc => by rw [(List.mem_replicate.mp hc).2]; decide
theorem sh_non : shown .non = some [78, 111, 110, 101] := by rfl
theorem sh_5 : shown (.int 5) = some [53] := by rfl
theorem sh_i : shown (.str [105]) = some [39, 105, 39] := by decide +kernel
theorem prg_dec {p : List Nat} (h : p.all (fun c => decide (c ∈ moves)) = true) : Prg p := fun c hc => by simpa using List.all_eq_true.mp h c hc
theorem least0 {f : Nat → Bool} {r : Nat} (h : least f r) (h0 : f 0 = true) : r = 0 := least_uniq h ⟨h0, fun t ht => by omega⟩
theorem eq_trp {a b a' b' : List Nat} {r s : Nat} : eqD (.tup [.str a, .str b, .int (r : Int)]) (.tup [.str a', .str b', .int (s : Int)]) = (eqD (.tup [.str a, .str b]) (.tup [.str a', .str b']) && decide ((r : Int) = (s : Int))) := by
  simp only [eqD, eqDL, Bool.and_true, Bool.and_assoc]; rfl
theorem trp_eq {p q : List Nat} {r s : Nat} (ht : tkn p = tkn q) (hp : ptn p = ptn q) (h : r = s) : eqD (trp p r) (trp q s) = true := by
  unfold trp
  rw [ht, hp, h]
  simp [eqD, eqDL]
theorem trp_ne {p q : List Nat} {r s : Nat} (hp : ptn p ≠ ptn q) : eqD (trp p r) (trp q s) = false := by
  unfold trp
  simp only [eqD, eqDL]
  rw [beq_eq_false_iff_ne.mpr hp]
  simp
theorem shown_bl (b : Bool) : ∃ z, shown (.bl b) = some z := shown_ok (by simp only [okD]) (by simp only [inD]) (by simp only [wtD, LIM_eq]; omega)
theorem q_eqXi {x y : D} (hx : okD 60 x = true) (hy : okD 60 y = true) : oEq id x y = some (.at (.bl (eqD x y))) := q_eqX hx hy
theorem eqD_comm' {a b a' b' : List Nat} (h : eqD (.tup [.str a, .str b]) (.tup [.str a', .str b']) = true) : eqD (.tup [.str a', .str b']) (.tup [.str a, .str b]) = true := by
  simp only [eqD, eqDL, Bool.and_true, Bool.and_eq_true, beq_iff_eq] at h ⊢
  exact ⟨h.1.symm, h.2.symm⟩
theorem prg_rep {f : List Nat} {n : Nat} (fP : Prg f) : Prg (List.replicate n f).flatten := fun c hc => by
  obtain ⟨l, h1, h2⟩ := List.mem_flatten.mp hc
  rw [List.eq_of_mem_replicate h1] at h2
  exact fP c h2
theorem len_rep {f : List Nat} {n : Nat} : (List.replicate n f).flatten.length = n * f.length := by
  induction n with
  | zero => simp
  | succ n ih => rw [List.replicate_succ, List.flatten_cons, List.length_append, ih, Nat.succ_mul]; omega
end K24
set_option Elab.async false
set_option linter.all false
set_option maxRecDepth 100000
set_option maxHeartbeats 4000000
namespace K24
open PySem PySem.Spec PyProof.Rows L2 DL
local macro_rules | `(tactic| ked_read) => `(tactic| (try simp only [List.length_append, List.length_cons, List.length_nil, List.length_map, List.length_drop, List.length_take, List.length_replicate, List.length_range, List.length_reverse, List.length_tail, List.length_eraseIdx, LIM] at *) <;> omega)
local macro_rules | `(tactic| kln_le) => `(tactic| first | (with_reducible exact rfl) | (with_reducible assumption) | omega | (simp only [List.length_append, List.length_cons, List.length_nil, List.length_map, List.length_drop, List.length_take, List.length_range, List.length_reverse, LIM] <;> omega) | ((with_reducible apply cMul_l); omega) | ((with_reducible apply cMul_r); omega) | (with_reducible exact isI_iff.mpr (by omega)) | ((with_reducible show cPow _ _ = true); decide))
local macro_rules | `(tactic| keq_rows) => `(tactic| (simp only [List.length_cons, List.length_nil] <;> omega))
local macro_rules | `(tactic| ke_read) => `(tactic| ((repeat' first | kct_strs | (with_reducible refine et_and ?_ (fun _ => ?_)) | (with_reducible refine et_or ?_ (fun _ => ?_)) | ((with_reducible apply et_not)) | ((with_reducible apply et_tst)) | ((with_reducible apply ed_V); (· exact rfl)) | ((with_reducible apply ed_S); (· exact rfl)) | ((with_reducible apply ed_C)) | ((with_reducible apply el_nil)) | ((with_reducible apply el_cons)) | ((with_reducible apply epa_no)) | ((with_reducible apply epa_pt)) | ((with_reducible apply ed_notV)) | (with_reducible refine ed_andV ?_ (fun _ => ?_)) | (with_reducible refine ed_orV ?_ (fun _ => ?_)) | (with_reducible apply ed_is) | (with_reducible apply ed_binA) | (with_reducible apply ed_unA) | (with_reducible apply ed_cbA) | ((with_reducible apply ed_slA)) | (with_reducible apply ed_mt0A) | (with_reducible apply ed_mtA) | (with_reducible refine q_addI) | (with_reducible refine (q_addS ?_)) | (with_reducible refine q_augI) | (with_reducible refine (q_augS ?_)) | (with_reducible refine q_sub) | (with_reducible refine q_neg) | (with_reducible refine (q_mul ?_)) | (with_reducible refine (q_mulS ?_ ?_ ?_)) | (with_reducible refine (q_mod ?_)) | (with_reducible refine (q_div ?_ ?_)) | (with_reducible refine (q_pow ?_)) | (with_reducible refine q_lt) | (with_reducible refine q_le) | (with_reducible refine q_gt) | (with_reducible refine q_ge) | (with_reducible refine q_eqI) | (with_reducible refine q_neI) | (with_reducible refine q_eqS) | (with_reducible refine q_neS) | (with_reducible refine q_eqB) | (with_reducible refine q_neB) | (with_reducible refine q_eqNS) | (with_reducible refine q_eqSN) | (with_reducible refine q_eqNN) | (with_reducible refine q_neNS) | (with_reducible refine q_neSN) | (with_reducible refine q_neNN) | (with_reducible refine q_isNN) | (with_reducible refine q_isNS) | (with_reducible refine q_isNI) | (with_reducible refine q_isNL) | (with_reducible refine q_isNT) | (with_reducible refine q_ntNN) | (with_reducible refine q_ntNS) | (with_reducible refine q_ntNI) | (with_reducible refine q_ntNL) | (with_reducible refine q_ntNT) | (with_reducible refine q_isT) | (with_reducible refine q_isF) | (with_reducible refine q_ntT) | (with_reducible refine q_ntF) | (with_reducible refine q_inI) | (with_reducible refine q_niI) | (with_reducible refine q_inC) | (with_reducible refine q_niC) | (with_reducible refine q_lenM) | (with_reducible refine q_lenF) | (with_reducible refine q_lenL) | (with_reducible refine q_lenT) | (with_reducible refine (q_lenS ?_)) | (with_reducible refine q_max) | (with_reducible refine q_min) | (with_reducible refine q_intI) | (with_reducible refine q_intB) | (with_reducible refine q_all) | (with_reducible refine q_any) | (with_reducible refine (q_joinC ?_)) | (with_reducible refine (q_join0 ?_)) | (with_reducible refine (q_joinW ?_)) | (with_reducible refine (q_join ?_)) | (with_reducible refine (q_low1 ?_)) | (with_reducible refine (q_upp1 ?_)) | (with_reducible refine (q_low ?_ ?_)) | (with_reducible refine (q_upp ?_ ?_)) | (with_reducible refine q_find) | (with_reducible refine (q_find2 ?_)) | (with_reducible refine (q_sSd ?_ ?_)) | (with_reducible refine (q_sSt ?_ ?_)) | (with_reducible refine (q_sSb ?_ ?_ ?_)) | (with_reducible refine (q_sS ?_)) | (with_reducible refine (q_revBS ?_)) | (with_reducible refine (q_addM ?_)) | (with_reducible refine (q_addL ?_)) | (with_reducible refine (q_mulL ?_ ?_ ?_)) | (with_reducible refine (q_sMd ?_)) | (with_reducible refine (q_sMt ?_)) | (with_reducible refine (q_sMb ?_ ?_)) | (with_reducible refine q_sM) | (with_reducible refine q_sF) | (with_reducible refine q_sL) | (with_reducible refine (q_listS ?_)) | (with_reducible refine q_listL) | (with_reducible refine q_listT) | (with_reducible refine (q_sort ?_)) | (with_reducible refine q_revM) | (with_reducible refine q_rev) | (with_reducible refine q_revBM) | (with_reducible refine q_revBL) | (with_reducible refine (q_rgL1 ?_)) | (with_reducible refine (q_rgL2 ?_)) | (with_reducible apply q_fld; exact rfl; exact rfl) | (with_reducible apply q_ixT; exact rfl) | (with_reducible apply q_ixL; exact rfl) | (with_reducible refine q_ixM ?_ ?_) | (with_reducible refine q_ixC ?_ ?_ ?_) | ((with_reducible show isD _ _ = some _); exact rfl) | ((with_reducible show isTy _ _ = true); exact rfl) | kln_le); done))
local macro_rules | `(tactic| kat_tups) => `(tactic| first | kct_strs | ((with_reducible show WN _ _); first | ((with_reducible apply wn); (· first | (simp only [DL.st, DL.wipeE, DL.back, DL.upds, DL.gt]; exact rfl) | exact rfl))) | ((with_reducible show WN2 _ _ _); first | ((with_reducible apply wn2); (· first | (simp only [DL.st, DL.wipeE, DL.back, DL.upds, DL.gt]; exact rfl) | exact rfl))) | ((with_reducible show WPS _ _ _ _ _ _); first | ((with_reducible apply ws_seq)) | ((with_reducible apply ws_set)) | ((with_reducible apply ws_setF)) | ((with_reducible apply ws_skip)) | ((with_reducible apply ws_pass)) | ((with_reducible apply ws_brk)) | ((with_reducible apply ws_cnt)) | ((with_reducible apply ws_retN)) | ((with_reducible apply ws_drop)) | ((with_reducible apply ws_ret)) | ((with_reducible apply ws_sti)) | ((with_reducible apply ws_raise)) | ((with_reducible apply ws_tgt)) | ((with_reducible apply ws_parC)) | ((with_reducible apply ws_par)) | ((with_reducible apply ws_for)) | ((with_reducible apply ws_try)) | ((with_reducible apply ws_W)) | ((with_reducible apply ws_P)) | ((with_reducible apply ws_up)) | ((with_reducible apply ws_forG)) | ((with_reducible apply wkplain)) | ((with_reducible apply wh_n)) | ((with_reducible apply ws_ifP (ft := fAnd _ _)); · ke_read) | ((with_reducible apply ws_ifP (ft := fOr _ _)); · ke_read) | ((with_reducible apply ws_if)) | ((with_reducible apply ws_aug); (· exact rfl)) | ((with_reducible apply ws_yield)) | ((with_reducible apply ws_kapp); (· keq_rows); (· exact rfl); (· exact rfl); (· exact rfl)) | ((with_reducible apply wh_t); (· exact rfl)) | ((with_reducible apply wh_f); (· exact rfl)) | ((with_reducible apply wkret); (· keq_rows))) | ((with_reducible show WPE _ _ _); first | ((with_reducible apply we_bin)) | ((with_reducible apply we_Vd); (· exact rfl)) | ((with_reducible apply we_Vs); (· exact rfl)) | ((with_reducible apply we_C)) | ((with_reducible apply we_cons)) | ((with_reducible apply we_nil)) | ((with_reducible apply we_own)) | ((with_reducible apply we_isO)) | ((with_reducible apply we_ins)) | ((with_reducible apply we_isC)) | ((with_reducible apply we_prop)) | ((with_reducible apply we_make)) | ((with_reducible apply we_Y)) | ((with_reducible apply we_cb)) | ((with_reducible apply we_un)) | ((with_reducible apply we_lst)) | ((with_reducible apply we_tup)) | ((with_reducible apply we_tst)) | ((with_reducible apply we_not)) | ((with_reducible apply we_notV)) | ((with_reducible apply we_part)) | ((with_reducible apply we_sl)) | ((with_reducible apply we_mt0)) | ((with_reducible apply we_mt)) | ((with_reducible apply we_is)) | ((with_reducible apply we_itA)) | ((with_reducible apply we_rg1)) | ((with_reducible apply we_rg2)) | ((with_reducible apply we_itE)) | ((with_reducible apply we_itZ)) | ((with_reducible apply we_call)) | ((with_reducible apply we_callK)) | ((with_reducible apply we_lc)) | ((with_reducible apply we_noP)) | ((with_reducible apply we_dic0)) | ((with_reducible apply we_chain)) | ((with_reducible apply we_listG)) | ((with_reducible apply we_orT)) | ((with_reducible apply we_andT)) | ((with_reducible apply we_and)) | ((with_reducible apply we_or)) | ((with_reducible apply we_andV)) | ((with_reducible apply we_orV)) | ((with_reducible apply we_ifE)) | ((with_reducible apply we_mu); (· exact rfl); (· exact rfl)) | ((with_reducible apply we_pop); (· exact rfl)) | ((with_reducible apply we_sett); (· exact rfl)) | ((with_reducible apply we_settL); (· exact rfl))) | ((with_reducible show WR _ _ _); first | (with_reducible refine wr_at q_addI ?_) | (with_reducible refine wr_at (q_addS ?_) ?_) | (with_reducible refine wr_at q_augI ?_) | (with_reducible refine wr_at (q_augS ?_) ?_) | (with_reducible refine wr_at q_sub ?_) | (with_reducible refine wr_at q_neg ?_) | (with_reducible refine wr_at (q_mul ?_) ?_) | (with_reducible refine wr_at (q_mulS ?_ ?_ ?_) ?_) | (with_reducible refine wr_at (q_mod ?_) ?_) | (with_reducible refine wr_at (q_div ?_ ?_) ?_) | (with_reducible refine wr_at (q_pow ?_) ?_) | (with_reducible refine wr_at q_lt ?_) | (with_reducible refine wr_at q_le ?_) | (with_reducible refine wr_at q_gt ?_) | (with_reducible refine wr_at q_ge ?_) | (with_reducible refine wr_at q_eqI ?_) | (with_reducible refine wr_at q_neI ?_) | (with_reducible refine wr_at q_eqS ?_) | (with_reducible refine wr_at q_neS ?_) | (with_reducible refine wr_at q_eqB ?_) | (with_reducible refine wr_at q_neB ?_) | (with_reducible refine wr_at q_eqNS ?_) | (with_reducible refine wr_at q_eqSN ?_) | (with_reducible refine wr_at q_eqNN ?_) | (with_reducible refine wr_at q_neNS ?_) | (with_reducible refine wr_at q_neSN ?_) | (with_reducible refine wr_at q_neNN ?_) | (with_reducible refine wr_at q_isNN ?_) | (with_reducible refine wr_at q_isNS ?_) | (with_reducible refine wr_at q_isNI ?_) | (with_reducible refine wr_at q_isNL ?_) | (with_reducible refine wr_at q_isNT ?_) | (with_reducible refine wr_at q_ntNN ?_) | (with_reducible refine wr_at q_ntNS ?_) | (with_reducible refine wr_at q_ntNI ?_) | (with_reducible refine wr_at q_ntNL ?_) | (with_reducible refine wr_at q_ntNT ?_) | (with_reducible refine wr_at q_isT ?_) | (with_reducible refine wr_at q_isF ?_) | (with_reducible refine wr_at q_ntT ?_) | (with_reducible refine wr_at q_ntF ?_) | (with_reducible refine wr_at q_inI ?_) | (with_reducible refine wr_at q_niI ?_) | (with_reducible refine wr_at q_inC ?_) | (with_reducible refine wr_at q_niC ?_) | (with_reducible refine wr_at q_lenM ?_) | (with_reducible refine wr_at q_lenF ?_) | (with_reducible refine wr_at q_lenL ?_) | (with_reducible refine wr_at q_lenT ?_) | (with_reducible refine wr_at (q_lenS ?_) ?_) | (with_reducible refine wr_at q_max ?_) | (with_reducible refine wr_at q_min ?_) | (with_reducible refine wr_at q_intI ?_) | (with_reducible refine wr_at q_intB ?_) | (with_reducible refine wr_at q_all ?_) | (with_reducible refine wr_at q_any ?_) | (with_reducible refine wr_at (q_joinC ?_) ?_) | (with_reducible refine wr_at (q_join0 ?_) ?_) | (with_reducible refine wr_at (q_joinW ?_) ?_) | (with_reducible refine wr_at (q_join ?_) ?_) | (with_reducible refine wr_at (q_low1 ?_) ?_) | (with_reducible refine wr_at (q_upp1 ?_) ?_) | (with_reducible refine wr_at (q_low ?_ ?_) ?_) | (with_reducible refine wr_at (q_upp ?_ ?_) ?_) | (with_reducible refine wr_at q_find ?_) | (with_reducible refine wr_at (q_find2 ?_) ?_) | (with_reducible refine wr_at (q_sSd ?_ ?_) ?_) | (with_reducible refine wr_at (q_sSt ?_ ?_) ?_) | (with_reducible refine wr_at (q_sSb ?_ ?_ ?_) ?_) | (with_reducible refine wr_at (q_sS ?_) ?_) | (with_reducible refine wr_at (q_revBS ?_) ?_) | (with_reducible refine wr_ls (q_addM ?_) ?_) | (with_reducible refine wr_ls (q_addL ?_) ?_) | (with_reducible refine wr_ls (q_mulL ?_ ?_ ?_) ?_) | (with_reducible refine wr_ls (q_sMd ?_) ?_) | (with_reducible refine wr_ls (q_sMt ?_) ?_) | (with_reducible refine wr_ls (q_sMb ?_ ?_) ?_) | (with_reducible refine wr_ls q_sM ?_) | (with_reducible refine wr_ls q_sF ?_) | (with_reducible refine wr_ls q_sL ?_) | (with_reducible refine wr_ls (q_listS ?_) ?_) | (with_reducible refine wr_ls q_listL ?_) | (with_reducible refine wr_ls q_listT ?_) | (with_reducible refine wr_ls (q_sort ?_) ?_) | (with_reducible refine wr_ls q_revM ?_) | (with_reducible refine wr_ls q_rev ?_) | (with_reducible refine wr_ls q_revBM ?_) | (with_reducible refine wr_ls q_revBL ?_) | (with_reducible refine wr_ls (q_rgL1 ?_) ?_) | (with_reducible refine wr_ls (q_rgL2 ?_) ?_) | ((with_reducible apply wr_ixT); (· exact rfl)) | ((with_reducible apply wr_ixL); (· exact rfl)) | ((with_reducible apply wr_ixS); (· exact rfl)) | (with_reducible refine wr_at (q_ixM ?_ ?_) ?_) | (with_reducible refine wr_at (q_ixC ?_ ?_ ?_) ?_) | ((with_reducible apply wr_minL); (· with_reducible assumption)) | ((with_reducible apply wr_maxL); (· with_reducible assumption)) | ((with_reducible apply wr_index); (· exact rfl)) | ((with_reducible apply wr_repr); (· with_reducible assumption)) | ((with_reducible apply wr_fld); (· exact rfl); (· exact rfl))) | ((with_reducible show WO _ _); first | ((with_reducible apply wo); (· exact rfl)) | ((with_reducible apply wo_up)) | ((with_reducible apply wtru); (· exact rfl); (· exact rfl)) | ((with_reducible apply wtruS); (· exact rfl))) | ((with_reducible show WI _ _ _); first | ((with_reducible apply wi_t)) | ((with_reducible apply wi_f)) | ((with_reducible apply wi_nt)) | ((with_reducible apply wi_nf)) | ((with_reducible apply wi_not)) | (with_reducible refine wi_eqt (by with_reducible assumption) ?_) | (with_reducible refine wi_eqf (by with_reducible assumption) ?_) | (with_reducible refine wi_dect (by first | (with_reducible assumption) | ked_read) ?_) | (with_reducible refine wi_decf (by first | (with_reducible assumption) | ked_read) ?_) | (with_reducible refine wi_dec (fun _ => ?_) (fun _ => ?_)) | (with_reducible refine wi_and (fun _ _ => ?_) (fun _ => ?_)) | (with_reducible refine wi_or (fun _ => ?_) (fun _ _ => ?_)) | (with_reducible refine wi_gen (fun _ => ?_) (fun _ => ?_))) | ((with_reducible apply weq)) | ((with_reducible apply wmu_app); (· exact rfl)) | ((with_reducible apply wmu_ext); (· exact rfl)) | ((with_reducible apply wmu_popM); (· exact rfl)) | ((with_reducible apply wmu_popA); (· exact rfl)) | ((with_reducible apply wsti_L); (· exact rfl)) | ((with_reducible apply wlg); (· exact rfl)) | ((with_reducible apply wce); (· exact rfl)) | ((with_reducible apply wpt)) | ((with_reducible apply wpar); (· exact rfl)) | ((with_reducible apply witE)) | ((with_reducible apply witZ)) | ((with_reducible apply wt); (· exact rfl)) | ((with_reducible apply wret); (· exact rfl)) | ((with_reducible apply wca0); (· exact rfl); (· exact rfl); (· exact rfl)) | ((with_reducible apply wca); (· exact rfl); (· exact rfl); (· exact rfl)) | ((with_reducible apply wck2); (· exact rfl); (· (simp only [DL.permL, List.filterMap_cons, List.filterMap_nil, List.getElem?_cons_zero, List.getElem?_cons_succ]; exact rfl))) | ((with_reducible apply wck); (· exact rfl)) | ((with_reducible apply wrt_d); (· exact rfl)) | ((with_reducible apply wrt_n); (· exact rfl)) | ((with_reducible apply witS); (· exact rfl)) | ((with_reducible apply wit_l); (· exact rfl)) | ((with_reducible apply wit_f); (· exact rfl)) | ((with_reducible apply Exists.intro); (with_reducible apply And.intro); · exact rfl) | ((with_reducible apply Exists.intro); (with_reducible apply Exists.intro); (with_reducible apply And.intro); · exact rfl) | ((with_reducible apply wis); (· exact rfl)) | ((with_reducible apply wmk); (· exact rfl); (· exact rfl)) | ((with_reducible apply wso); (· exact rfl); (· exact rfl); (· exact rfl)) | ((with_reducible apply wmp0)) | ((with_reducible apply wmp1)) | ((with_reducible apply wmp2)) | ((with_reducible apply wmp3)) | ((with_reducible apply wmp4)) | ((with_reducible apply wrg1)) | ((with_reducible apply wrg2)) | ((with_reducible apply And.intro)) | ((with_reducible apply wc_pure); (· kln_le); (· (intro _ _; kp_flats; done))) | ((with_reducible apply wc_rngP); (· kln_le); (· (intro _ _; kp_flats; done))) | ((with_reducible apply wc_filt); (· kln_le); (· (intro _ _; kp_flats; done))) | ((with_reducible apply wc_rngF); (· kln_le); (· (intro _ _; kp_flats; done))) | ((with_reducible show ∀ c, c ∈ _ → WO _ _); intro _ _) | ((with_reducible show ∀ c, c < _ → WO _ _); intro _ _) | ((with_reducible show @Eq (List Sl) _ _); exact rfl) | ((with_reducible show isTy _ _ = true); exact rfl) | kln_le)
local macro_rules | `(tactic| kp_flats) => `(tactic| repeat' kat_tups)
local macro_rules | `(tactic| kqd_all) => `(tactic| first | (with_reducible apply wc_pure) | (with_reducible apply wc_rngP) | (with_reducible apply wc_filt) | (with_reducible apply wc_rngF))
local macro_rules | `(tactic| kct_strs) => `(tactic| fail)
local macro_rules | `(tactic| kct_strs) => `(tactic| (with_reducible apply sp_take))
local macro_rules | `(tactic| kct_strs) => `(tactic| (with_reducible apply sp_places))
local macro_rules | `(tactic| kct_strs) => `(tactic| (with_reducible apply sp_triple))
local macro_rules | `(tactic| kct_strs) => `(tactic| (with_reducible apply sp_require_program))
/-! the class Effect: its parts -/
def Wrd (w : List Nat) : Prop := w.length ≤ 400 ∧ ∀ c ∈ w, isI c = true
theorem sp_is_word {w : List Nat} {Q : PV → DL.Env → Prop} {X : XP} (h : Wrd w) (k : Q (.d (.bl true)) [.un]) : WPE (m_is_word [.va (.str w)]) Q X := by
  obtain ⟨h1, h2⟩ := h
  refine w_is_word ?_
  unfold b_is_word
  kp_flats
  rw [List.all_eq_true.mpr h2]; exact k
local macro_rules | `(tactic| kct_strs) => `(tactic| (with_reducible apply sp_is_word))
theorem sp_require_word {w : List Nat} {Q : PV → DL.Env → Prop} {X : XP} (h : Wrd w) (k : Q (.d .non) [.un]) : WPE (m_require_word [.va (.str w)]) Q X := by
  refine w_require_word ?_
  unfold b_require_word
  kp_flats
local macro_rules | `(tactic| kct_strs) => `(tactic| (with_reducible apply sp_require_word))
theorem sp_isint {i : Int} {Q : PV → DL.Env → Prop} {X : XP} (k : Q (.d (.bl true)) [.un]) : WPE (m_is_integer [.va (.int i)]) Q X := by
  refine w_is_integer ?_
  unfold b_is_integer
  kp_flats
  exact k
local macro_rules | `(tactic| kct_strs) => `(tactic| (with_reducible apply sp_isint))
theorem sp_within {p w : List Nat} {Q : PV → DL.Env → Prop} {X : XP} (hp : p.length ≤ 1000) (hw : w.length ≤ 1000) (k : Q (.d (.bl (decide (((plc w p 0).length : Int) = (p.length : Int))))) [.un, .un]) : WPE (m_is_within [.va (.str p), .va (.str w)]) Q X := by
  have := plc_le w p 0
  refine w_is_within ?_
  unfold b_is_within
  kp_flats
local macro_rules | `(tactic| kct_strs) => `(tactic| (with_reducible apply sp_within))
theorem sp_is_core {a b : List Nat} {r : Nat} {Q : PV → DL.Env → Prop} {X : XP} (ha : Wrd a) (hb : Wrd b) (hr : r ≤ a.length) (hs : (plc b (a.drop r) 0).length = (a.drop r).length) (k : Q (.d (.bl true)) [.un, .un, .un]) : WPE (m_Effect_is_core [.va (.str a), .va (.str b), .va (.int (r : Int))]) Q X := by
  have h1 := ha.1
  have h2 := hb.1
  have h3 : (a.drop r).length ≤ 1000 := by rw [List.length_drop]; omega
  refine w_Effect_is_core ?_
  unfold b_Effect_is_core
  kp_flats
  rw [Int.toNat_natCast, hs, decide_eq_true rfl]; exact k
local macro_rules | `(tactic| kct_strs) => `(tactic| (with_reducible apply sp_is_core))
abbrev eff0 : D := .obj 6 []
abbrev eff (a b : List Nat) (r : Nat) : D := .obj 5 [.str a, .str b, .int (r : Int)]
theorem sp_init {a b : List Nat} {r : Nat} {Q : PV → DL.Env → Prop} {X : XP} (ha : Wrd a) (hb : Wrd b) (hr : r ≤ a.length) (hs : (plc b (a.drop r) 0).length = (a.drop r).length) (hl : a.length + b.length ≤ 400) (k : Q (.d .non) [.ce true (eff a b r), .un, .un, .un]) : WPE (m_Effect_init [.ce true eff0, .va (.str a), .va (.str b), .va (.int (r : Int))]) Q X := by
  refine w_Effect_init ?_
  unfold b_Effect_init
  kp_flats
  exact k
local macro_rules | `(tactic| kct_strs) => `(tactic| (with_reducible apply sp_init))
theorem suc_full {a b ns : List Nat} {s : Nat} (h : suc a b ns s = true) : (plc b (a.drop s) 0).length = (a.drop s).length := by
  unfold suc at h
  rw [Bool.and_eq_true, decide_eq_true_eq] at h
  have := plc_le b (a.drop s) 0
  rw [List.length_drop] at this ⊢
  omega
theorem tkn_wrd {p : List Nat} (hp : Prg p) (hl : p.length ≤ 400) : Wrd (tkn p) := ⟨Nat.le_trans (tkn_len p) hl, fun c hc => by
  obtain ⟨x, hx, rfl⟩ := List.mem_map.mp hc
  obtain ⟨h1, h2⟩ := List.mem_filter.mp hx
  have key : ∀ x ∈ moves, isI (lo1 x) = true := by decide
  exact key x (hp x h1)⟩
theorem ptn_wrd {p : List Nat} (hl : p.length ≤ 400) : Wrd (ptn p) := ⟨Nat.le_trans (ptn_len p) hl, fun c hc => (List.mem_filter.mp hc).2⟩
theorem both_len (p : List Nat) : (tkn p).length + (ptn p).length = p.length := by
  unfold tkn ptn
  rw [List.length_map]
  induction p with
  | nil => rfl
  | cons c r ih =>
    cases h : isI c with
    | true => rw [List.filter_cons_of_neg (by rw [h]; decide), List.filter_cons_of_pos h, List.length_cons, List.length_cons]; omega
    | false => rw [List.filter_cons_of_pos (by rw [h]; decide), List.filter_cons_of_neg (by rw [h]; decide), List.length_cons, List.length_cons]; omega
abbrev effP (p : List Nat) (r : Nat) : D := eff (tkn p) (ptn p) r
theorem sp_of {p : List Nat} {Q : PV → DL.Env → Prop} {X : XP} (hp : Prg p) (hl : p.length ≤ 400) (k : ∀ r, r ≤ (tkn p).length → least (sucP p) r → Q (.nw (effP p r)) [.un, .un]) : WPE (m_Effect_of [.va (.cls 5), .va (.str p)]) Q X := by
  have h1 := tkn_wrd hp hl
  have h2 := ptn_wrd hl
  have h3 := both_len p
  refine w_Effect_of ?_
  unfold b_Effect_of
  kp_flats
  intro r hr hs
  kp_flats
  · exact suc_full hs.1
  · exact k r hr hs
local macro_rules | `(tactic| kct_strs) => `(tactic| (with_reducible apply sp_of))
theorem sp_of_bad {d : D} {Q : PV → DL.Env → Prop} {X : XP} (h : Bad d) (k : X x_InvalidProgram d [.un, .un]) : WPE (m_Effect_of [.va (.cls 5), .va d]) Q X := by
  refine w_Effect_of ?_
  unfold b_Effect_of
  kp_flats
  refine sp_req_bad h ?_
  kp_flats
theorem sp_takes {a b : List Nat} {r : Nat} {Q : PV → DL.Env → Prop} {X : XP} (k : Q (.d (.str a)) [.un]) : WPE (m_Effect_takes [.va (eff a b r)]) Q X := by
  refine w_Effect_takes ?_
  unfold b_Effect_takes
  kp_flats
local macro_rules | `(tactic| kct_strs) => `(tactic| (with_reducible apply sp_takes))
end K24
set_option Elab.async false
set_option linter.all false
set_option maxRecDepth 100000
set_option maxHeartbeats 4000000
namespace K24
open PySem PySem.Spec PyProof.Rows L2 DL
/-! a run, in closed form -/
/-- where the reading of a in b ends -/
def epos (b : List Nat) : List Nat → Nat → Nat
  | [], t => t
  | c :: r, t => match seek c (b.drop t) t with
    | none => t
    | some k => epos b r (k + 1)
theorem epos_s {b r : List Nat} {c t k : Nat} (h : seek c (b.drop t) t = some k) : epos b (c :: r) t = epos b r (k + 1) := by
  show (match seek c (b.drop t) t with | none => t | some k => epos b r (k + 1)) = _
  rw [h]
theorem plc_s {b r : List Nat} {c t k : Nat} (h : seek c (b.drop t) t = some k) : plc b (c :: r) t = k :: plc b r (k + 1) := by
  show (match seek c (b.drop t) t with | none => [] | some k => k :: plc b r (k + 1)) = _
  rw [h]
theorem plc_n {b r : List Nat} {c t : Nat} (h : seek c (b.drop t) t = none) : plc b (c :: r) t = [] := by
  show (match seek c (b.drop t) t with | none => [] | some k => k :: plc b r (k + 1)) = _
  rw [h]
theorem plc_shift (w : List Nat) : ∀ (a : List Nat) (k t : Nat), plc w a (k + t) = (plc (w.drop k) a t).map (· + k) ∧ epos w a (k + t) = epos (w.drop k) a t + k
  | [], k, t => ⟨rfl, by show k + t = t + k; omega⟩
  | c :: r, k, t => by
    have e : seek c (w.drop (k + t)) (k + t) = (seek c ((w.drop k).drop t) t).map (· + k) := by
      rw [List.drop_drop, ← seek_shift, Nat.add_comm t k]
    cases h : seek c ((w.drop k).drop t) t with
    | none =>
      rw [h] at e
      refine ⟨by rw [plc_n e, plc_n h]; rfl, ?_⟩
      show (match seek c (w.drop (k + t)) (k + t) with | none => k + t | some j => epos w r (j + 1)) = (match seek c ((w.drop k).drop t) t with | none => t | some j => epos (w.drop k) r (j + 1)) + k
      rw [e, h]
      show k + t = t + k
      omega
    | some j =>
      rw [h] at e
      obtain ⟨i1, i2⟩ := plc_shift w r k (j + 1)
      have z : j + k + 1 = k + (j + 1) := by omega
      refine ⟨by rw [plc_s e, plc_s h, z, i1]; rfl, by rw [epos_s e, epos_s h, z, i2]⟩
theorem epos_last {b : List Nat} : ∀ {a : List Nat} {t : Nat}, (plc b a t).length = a.length → a ≠ [] → (plc b a t).getLast? = some (epos b a t - 1) ∧ 0 < epos b a t
  | [], t, _, h => absurd rfl h
  | c :: r, t, h, _ => by
    cases hk : seek c (b.drop t) t with
    | none => rw [plc_n hk] at h; cases h
    | some k =>
      rw [plc_s hk] at h ⊢
      rw [epos_s hk]
      cases r with
      | nil => exact ⟨rfl, Nat.succ_pos _⟩
      | cons c2 r2 =>
        have ih := epos_last (b := b) (a := c2 :: r2) (t := k + 1) (by simpa using h) (by intro z; cases z)
        refine ⟨?_, ih.2⟩
        rw [List.getLast?_cons, ih.1]; rfl
theorem bst_2v : ∀ (p b0 : List Nat) (t : Nat), t ≤ b0.length → bst p (b0.drop t) = if fit (b0 ++ ptn p) (tkn p) (cnt p b0.length) t = true then some ((b0 ++ ptn p).drop (epos (b0 ++ ptn p) (tkn p) t)) else none
  | [], b0, t, _ => by
    show some (b0.drop t) = if true = true then some ((b0 ++ []).drop t) else none
    rw [if_pos rfl, List.append_nil]
  | c :: r, b0, t, ht => by
    cases h : isI c with
    | true =>
      rw [show bst (c :: r) (b0.drop t) = bst r (b0.drop t ++ [c]) from if_pos h, tkn_t h, ptn_t h, cnt_t h]
      have := bst_2v r (b0 ++ [c]) t (by simp; omega)
      rw [List.drop_append_of_le_length ht, List.append_assoc, List.length_append] at this
      exact this
    | false =>
      rw [tkn_f h, ptn_f h, cnt_f h]
      cases hk : seek (lo1 c) (b0.drop t) 0 with
      | none =>
        rw [bst_n h hk]
        have e : seek (lo1 c) (b0.drop t) t = none := by
          have := seek_shift (c := lo1 c) (l := b0.drop t) (n := 0) (t := t)
          rw [hk, Nat.zero_add] at this; exact this
        rw [if_neg ?_]
        unfold fit
        rw [List.drop_append_of_le_length ht, seek_none_app e, List.length_drop]
        cases hq : seek (lo1 c) (ptn r) (t + (b0.length - t)) with
        | none => intro z; cases z
        | some k =>
          have := seek_lt hq
          dsimp only
          rw [decide_eq_false (by omega)]; intro z; cases z
      | some k =>
        rw [bst_s h hk]
        have e : seek (lo1 c) (b0.drop t) t = some (k + t) := by
          have := seek_shift (c := lo1 c) (l := b0.drop t) (n := 0) (t := t)
          rw [hk, Nat.zero_add] at this; exact this
        have e2 : seek (lo1 c) ((b0 ++ ptn r).drop t) t = some (k + t) := by rw [List.drop_append_of_le_length ht]; exact seek_app e
        have l1 := seek_lt e
        rw [List.length_drop] at l1
        rw [epos_s e2]
        have ff : fit (b0 ++ ptn r) (lo1 c :: tkn r) (b0.length :: cnt r b0.length) t = fit (b0 ++ ptn r) (tkn r) (cnt r b0.length) (k + t + 1) := by
          show (match seek (lo1 c) ((b0 ++ ptn r).drop t) t with | none => false | some k => decide (k < b0.length) && fit (b0 ++ ptn r) (tkn r) (cnt r b0.length) (k + 1)) = _
          rw [e2]
          dsimp only
          rw [decide_eq_true (by omega), Bool.true_and]
        rw [ff]
        have := bst_2v r b0 (k + t + 1) (by omega)
        rw [List.drop_drop, show t + (k + 1) = k + t + 1 by omega]
        exact this
/-- what an effect gives -/
def app (a b ns w : List Nat) : Option (List Nat) :=
  if (plc w a 0).length = a.length then some (w.drop (epos w a 0) ++ b)
  else if fit b (a.drop (plc w a 0).length) (ns.drop (plc w a 0).length) 0 = true then some (b.drop (epos b (a.drop (plc w a 0).length) 0)) else none
theorem bst_1v : ∀ (p w b0 : List Nat), bst p (w ++ b0) = app (tkn p) (b0 ++ ptn p) (cnt p b0.length) w
  | [], w, b0 => by
    show some (w ++ b0) = app [] (b0 ++ []) [] w
    have e : app [] (b0 ++ []) [] w = some (w.drop (epos w [] 0) ++ (b0 ++ [])) := if_pos rfl
    rw [e, List.append_nil]; rfl
  | c :: r, w, b0 => by
    cases h : isI c with
    | true =>
      rw [show bst (c :: r) (w ++ b0) = bst r (w ++ b0 ++ [c]) from if_pos h, tkn_t h, ptn_t h, cnt_t h, List.append_assoc]
      have := bst_1v r w (b0 ++ [c])
      rw [List.append_assoc, List.length_append] at this
      exact this
    | false =>
      rw [tkn_f h, ptn_f h, cnt_f h]
      cases hk : seek (lo1 c) w 0 with
      | some k =>
        have hk0 : seek (lo1 c) (w.drop 0) 0 = some k := hk
        have lk := seek_lt hk
        rw [bst_s h (seek_app hk), List.drop_append_of_le_length (by omega), bst_1v r (w.drop (k + 1)) b0]
        obtain ⟨s1, s2⟩ := plc_shift w (tkn r) (k + 1) 0
        rw [Nat.add_zero] at s1 s2
        unfold app
        rw [plc_s hk0, epos_s hk0, s1, s2]
        simp only [List.length_cons, List.length_map, Nat.add_right_cancel_iff, List.drop_succ_cons, List.drop_drop]
        rw [Nat.add_comm (epos (w.drop (k + 1)) (tkn r) 0) (k + 1)]
      | none =>
        have hk0 : seek (lo1 c) (w.drop 0) 0 = none := hk
        unfold app
        rw [plc_n hk0, if_neg (by simp), List.length_nil, List.drop_zero, List.drop_zero]
        have e := seek_none_app (m := b0) hk
        rw [Nat.zero_add] at e
        have sh := seek_shift (c := lo1 c) (l := b0) (n := 0) (t := w.length)
        rw [Nat.zero_add] at sh
        rw [sh] at e
        have two := bst_2v (c :: r) b0 0 (Nat.zero_le _)
        rw [List.drop_zero, tkn_f h, ptn_f h, cnt_f h] at two
        rw [← two]
        cases hq : seek (lo1 c) b0 0 with
        | none =>
          rw [hq] at e
          rw [bst_n h e, bst_n h hq]
        | some k =>
          rw [hq] at e
          rw [bst_s h e, bst_s h hq]
          congr 1
          rw [show k + w.length + 1 = w.length + (k + 1) by omega, ← List.drop_drop, List.drop_left]
theorem bst_app (p w : List Nat) : bst p w = app (tkn p) (ptn p) (cnt p 0) w := by
  have := bst_1v p w []
  rw [List.append_nil] at this
  exact this
/-- by the core -/
theorem app_core {p w : List Nat} {r : Nat} (h : least (sucP p) r) (hm : (plc w (tkn p) 0).length < (tkn p).length) :
    ((plc w (tkn p) 0).length < r → bst p w = none) ∧ (r ≤ (plc w (tkn p) 0).length → bst p w = some ((ptn p).drop (epos (ptn p) ((tkn p).drop (plc w (tkn p) 0).length) 0)) ∧ (plc (ptn p) ((tkn p).drop (plc w (tkn p) 0).length) 0).length = ((tkn p).drop (plc w (tkn p) 0).length).length) := by
  have e := suc_fit (b := ptn p) (s := (plc w (tkn p) 0).length) (cnt_len p 0)
  rw [bst_app]
  unfold app
  rw [if_neg (by omega), ← e]
  constructor
  · intro hr
    exact if_neg (by have y : suc (tkn p) (ptn p) (cnt p 0) (plc w (tkn p) 0).length = false := h.2 _ hr; rw [y]; decide)
  · intro hr
    have hs := suc_mono (cnt_len p 0) hr h.1
    exact ⟨if_pos hs, suc_full hs⟩
theorem app_all {p w : List Nat} (hm : (plc w (tkn p) 0).length = (tkn p).length) : bst p w = some (w.drop (epos w (tkn p) 0) ++ ptn p) := by
  rw [bst_app]
  exact if_pos hm
end K24
set_option Elab.async false
set_option linter.all false
set_option maxRecDepth 100000
set_option maxHeartbeats 4000000
namespace K24
open PySem PySem.Spec PyProof.Rows L2 DL
/-! subsequences -/
theorem first_sub {c : Nat} : ∀ {l : List Nat} {n k : Nat} {r : List Nat}, seek c l n = some k → (List.Sublist (c :: r) l ↔ List.Sublist r (l.drop (k - n + 1)))
  | [], n, k, r, h => by cases h
  | x :: l, n, k, r, h => by
    unfold seek at h
    by_cases hx : x = c
    · rw [if_pos hx] at h
      cases h
      subst hx
      rw [Nat.sub_self, List.cons_sublist_cons]; rfl
    · rw [if_neg hx] at h
      have hk := (seek_lt h).1
      rw [show k - n + 1 = (k - (n + 1) + 1) + 1 by omega, List.drop_succ_cons, ← first_sub (r := r) h]
      constructor
      · intro z
        cases z with
        | cons _ z => exact z
        | cons_cons _ z => exact absurd rfl hx
      · exact fun z => z.cons _
theorem plc_sub : ∀ (a w : List Nat) (t : Nat), (plc w a t).length = a.length ↔ List.Sublist a (w.drop t)
  | [], w, t => ⟨fun _ => List.nil_sublist _, fun _ => rfl⟩
  | c :: r, w, t => by
    cases h : seek c (w.drop t) t with
    | none =>
      rw [plc_n h]
      exact ⟨fun z => by simp at z, fun z => absurd (z.subset List.mem_cons_self) (seek_no h)⟩
    | some k =>
      have hk := seek_lt h
      rw [plc_s h, List.length_cons, List.length_cons, Nat.add_right_cancel_iff, plc_sub r w (k + 1), first_sub h, List.drop_drop, show t + (k - t + 1) = k + 1 by omega]
theorem plc_take : ∀ (a w : List Nat) (n t : Nat), plc w (a.take n) t = (plc w a t).take n
  | [], w, n, t => by rw [List.take_nil]; show [] = List.take n []; rw [List.take_nil]
  | c :: r, w, 0, t => by rw [List.take_zero, List.take_zero]; rfl
  | c :: r, w, n + 1, t => by
    rw [List.take_succ_cons]
    cases h : seek c (w.drop t) t with
    | none => rw [plc_n h, plc_n h, List.take_nil]
    | some k => rw [plc_s h, plc_s h, List.take_succ_cons, plc_take r w n]
theorem plc_pre {a w : List Nat} {r : Nat} (hr : r ≤ a.length) : r ≤ (plc w a 0).length ↔ List.Sublist (a.take r) w := by
  have := plc_sub (a.take r) w 0
  rw [plc_take, List.length_take, List.length_take, List.drop_zero] at this
  rw [← this]; omega
theorem bst_mono : ∀ (p : List Nat) {u w v : List Nat}, List.Sublist u w → bst p u = some v → ∃ v', bst p w = some v' ∧ List.Sublist v v'
  | [], u, w, v, h, e => by
    have e : some u = some v := e
    cases e
    exact ⟨w, rfl, h⟩
  | c :: r, u, w, v, h, e => by
    cases hc : isI c with
    | true =>
      rw [bst_t hc] at e ⊢
      exact bst_mono r (h.append (List.Sublist.refl _)) e
    | false =>
      cases hk : seek (lo1 c) u 0 with
      | none => rw [bst_n hc hk] at e; cases e
      | some k =>
        rw [bst_s hc hk] at e
        have h1 : List.Sublist (lo1 c :: u.drop (k + 1)) u := (first_sub hk).mpr (List.Sublist.refl _)
        have h2 := h1.trans h
        cases hk2 : seek (lo1 c) w 0 with
        | none => exact absurd (h2.subset List.mem_cons_self) (seek_no hk2)
        | some k2 =>
          rw [bst_s hc hk2]
          exact bst_mono r ((first_sub hk2).mp h2) e
theorem bst_some {p w : List Nat} {r : Nat} (h : least (sucP p) r) (hr : r ≤ (tkn p).length) : (bst p w).isSome = true ↔ List.Sublist ((tkn p).take r) w := by
  rw [← plc_pre hr]
  have h4 := plc_le w (tkn p) 0
  rcases Nat.lt_or_ge (plc w (tkn p) 0).length (tkn p).length with hm | hm
  · obtain ⟨c1, c2⟩ := app_core h hm
    rcases Nat.lt_or_ge (plc w (tkn p) 0).length r with z | z
    · rw [c1 z]; exact ⟨fun y => absurd y (by decide), fun y => by omega⟩
    · rw [(c2 z).1]; exact ⟨fun _ => z, fun _ => rfl⟩
  · rw [app_all (by omega)]; exact ⟨fun _ => by omega, fun _ => rfl⟩
/-- what a run leaves -/
theorem bst_in {p w u : List Nat} (h : bst p w = some u) : (∀ c ∈ u, c ∈ w ∨ c ∈ ptn p) ∧ u.length ≤ w.length + (ptn p).length := by
  rw [bst_app] at h
  unfold app at h
  split at h
  · cases h
    refine ⟨fun c hc => (List.mem_append.mp hc).imp List.mem_of_mem_drop id, ?_⟩
    rw [List.length_append, List.length_drop]; omega
  · split at h
    · cases h
      exact ⟨fun c hc => .inr (List.mem_of_mem_drop hc), by rw [List.length_drop]; omega⟩
    · cases h
theorem isI_lt {c : Nat} (h : isI c = true) : c < 1114112 := by
  have := isI_iff.mp h
  omega
theorem wrd_ok {u : List Nat} (h : ∀ c ∈ u, isI c = true) : okD 60 (.str u) = true := okD_str fun c hc => isI_lt (h c hc)
theorem shown_w {u : List Nat} (h : ∀ c ∈ u, isI c = true) (hl : u.length ≤ 1000) : ∃ l, shown (.str u) = some l := shown_ok (wrd_ok h) (by simp only [inD]) (by simp only [wtD, LIM_eq]; omega)
theorem bst_wrd {p w u : List Nat} (hw : ∀ c ∈ w, isI c = true) (h : bst p w = some u) : ∀ c ∈ u, isI c = true := fun c hc => ((bst_in h).1 c hc).elim (hw c) fun z => (List.mem_filter.mp z).2
end K24
set_option Elab.async false
set_option linter.all false
set_option maxRecDepth 100000
set_option maxHeartbeats 4000000
namespace K24
open PySem PySem.Spec PyProof.Rows L2 DL
local macro_rules | `(tactic| ked_read) => `(tactic| (try simp only [List.length_append, List.length_cons, List.length_nil, List.length_map, List.length_drop, List.length_take, List.length_replicate, List.length_range, List.length_reverse, List.length_tail, List.length_eraseIdx, LIM] at *) <;> omega)
local macro_rules | `(tactic| kln_le) => `(tactic| first | (with_reducible exact rfl) | (with_reducible assumption) | omega | (simp only [List.length_append, List.length_cons, List.length_nil, List.length_map, List.length_drop, List.length_take, List.length_range, List.length_reverse, LIM] <;> omega) | ((with_reducible apply cMul_l); omega) | ((with_reducible apply cMul_r); omega) | (with_reducible exact isI_iff.mpr (by omega)) | ((with_reducible show cPow _ _ = true); decide))
local macro_rules | `(tactic| keq_rows) => `(tactic| (simp only [List.length_cons, List.length_nil] <;> omega))
local macro_rules | `(tactic| ke_read) => `(tactic| ((repeat' first | kct_strs | (with_reducible refine et_and ?_ (fun _ => ?_)) | (with_reducible refine et_or ?_ (fun _ => ?_)) | ((with_reducible apply et_not)) | ((with_reducible apply et_tst)) | ((with_reducible apply ed_V); (· exact rfl)) | ((with_reducible apply ed_S); (· exact rfl)) | ((with_reducible apply ed_C)) | ((with_reducible apply el_nil)) | ((with_reducible apply el_cons)) | ((with_reducible apply epa_no)) | ((with_reducible apply epa_pt)) | ((with_reducible apply ed_notV)) | (with_reducible refine ed_andV ?_ (fun _ => ?_)) | (with_reducible refine ed_orV ?_ (fun _ => ?_)) | (with_reducible apply ed_is) | (with_reducible apply ed_binA) | (with_reducible apply ed_unA) | (with_reducible apply ed_cbA) | ((with_reducible apply ed_slA)) | (with_reducible apply ed_mt0A) | (with_reducible apply ed_mtA) | (with_reducible refine q_addI) | (with_reducible refine (q_addS ?_)) | (with_reducible refine q_augI) | (with_reducible refine (q_augS ?_)) | (with_reducible refine q_sub) | (with_reducible refine q_neg) | (with_reducible refine (q_mul ?_)) | (with_reducible refine (q_mulS ?_ ?_ ?_)) | (with_reducible refine (q_mod ?_)) | (with_reducible refine (q_div ?_ ?_)) | (with_reducible refine (q_pow ?_)) | (with_reducible refine q_lt) | (with_reducible refine q_le) | (with_reducible refine q_gt) | (with_reducible refine q_ge) | (with_reducible refine q_eqI) | (with_reducible refine q_neI) | (with_reducible refine q_eqS) | (with_reducible refine q_neS) | (with_reducible refine q_eqB) | (with_reducible refine q_neB) | (with_reducible refine q_eqNS) | (with_reducible refine q_eqSN) | (with_reducible refine q_eqNN) | (with_reducible refine q_neNS) | (with_reducible refine q_neSN) | (with_reducible refine q_neNN) | (with_reducible refine q_isNN) | (with_reducible refine q_isNS) | (with_reducible refine q_isNI) | (with_reducible refine q_isNL) | (with_reducible refine q_isNT) | (with_reducible refine q_ntNN) | (with_reducible refine q_ntNS) | (with_reducible refine q_ntNI) | (with_reducible refine q_ntNL) | (with_reducible refine q_ntNT) | (with_reducible refine q_isT) | (with_reducible refine q_isF) | (with_reducible refine q_ntT) | (with_reducible refine q_ntF) | (with_reducible refine q_inI) | (with_reducible refine q_niI) | (with_reducible refine q_inC) | (with_reducible refine q_niC) | (with_reducible refine q_lenM) | (with_reducible refine q_lenF) | (with_reducible refine q_lenL) | (with_reducible refine q_lenT) | (with_reducible refine (q_lenS ?_)) | (with_reducible refine q_max) | (with_reducible refine q_min) | (with_reducible refine q_intI) | (with_reducible refine q_intB) | (with_reducible refine q_all) | (with_reducible refine q_any) | (with_reducible refine (q_joinC ?_)) | (with_reducible refine (q_join0 ?_)) | (with_reducible refine (q_joinW ?_)) | (with_reducible refine (q_join ?_)) | (with_reducible refine (q_low1 ?_)) | (with_reducible refine (q_upp1 ?_)) | (with_reducible refine (q_low ?_ ?_)) | (with_reducible refine (q_upp ?_ ?_)) | (with_reducible refine q_find) | (with_reducible refine (q_find2 ?_)) | (with_reducible refine (q_sSd ?_ ?_)) | (with_reducible refine (q_sSt ?_ ?_)) | (with_reducible refine (q_sSb ?_ ?_ ?_)) | (with_reducible refine (q_sS ?_)) | (with_reducible refine (q_revBS ?_)) | (with_reducible refine (q_addM ?_)) | (with_reducible refine (q_addL ?_)) | (with_reducible refine (q_mulL ?_ ?_ ?_)) | (with_reducible refine (q_sMd ?_)) | (with_reducible refine (q_sMt ?_)) | (with_reducible refine (q_sMb ?_ ?_)) | (with_reducible refine q_sM) | (with_reducible refine q_sF) | (with_reducible refine q_sL) | (with_reducible refine (q_listS ?_)) | (with_reducible refine q_listL) | (with_reducible refine q_listT) | (with_reducible refine (q_sort ?_)) | (with_reducible refine q_revM) | (with_reducible refine q_rev) | (with_reducible refine q_revBM) | (with_reducible refine q_revBL) | (with_reducible refine (q_rgL1 ?_)) | (with_reducible refine (q_rgL2 ?_)) | (with_reducible apply q_fld; exact rfl; exact rfl) | (with_reducible apply q_ixT; exact rfl) | (with_reducible apply q_ixL; exact rfl) | (with_reducible refine q_ixM ?_ ?_) | (with_reducible refine q_ixC ?_ ?_ ?_) | ((with_reducible show isD _ _ = some _); exact rfl) | ((with_reducible show isTy _ _ = true); exact rfl) | kln_le); done))
local macro_rules | `(tactic| kat_tups) => `(tactic| first | kct_strs | ((with_reducible show WN _ _); first | ((with_reducible apply wn); (· first | (simp only [DL.st, DL.wipeE, DL.back, DL.upds, DL.gt]; exact rfl) | exact rfl))) | ((with_reducible show WN2 _ _ _); first | ((with_reducible apply wn2); (· first | (simp only [DL.st, DL.wipeE, DL.back, DL.upds, DL.gt]; exact rfl) | exact rfl))) | ((with_reducible show WPS _ _ _ _ _ _); first | ((with_reducible apply ws_seq)) | ((with_reducible apply ws_set)) | ((with_reducible apply ws_setF)) | ((with_reducible apply ws_skip)) | ((with_reducible apply ws_pass)) | ((with_reducible apply ws_brk)) | ((with_reducible apply ws_cnt)) | ((with_reducible apply ws_retN)) | ((with_reducible apply ws_drop)) | ((with_reducible apply ws_ret)) | ((with_reducible apply ws_sti)) | ((with_reducible apply ws_raise)) | ((with_reducible apply ws_tgt)) | ((with_reducible apply ws_parC)) | ((with_reducible apply ws_par)) | ((with_reducible apply ws_for)) | ((with_reducible apply ws_try)) | ((with_reducible apply ws_W)) | ((with_reducible apply ws_P)) | ((with_reducible apply ws_up)) | ((with_reducible apply ws_forG)) | ((with_reducible apply wkplain)) | ((with_reducible apply wh_n)) | ((with_reducible apply ws_ifP (ft := fAnd _ _)); · ke_read) | ((with_reducible apply ws_ifP (ft := fOr _ _)); · ke_read) | ((with_reducible apply ws_if)) | ((with_reducible apply ws_aug); (· exact rfl)) | ((with_reducible apply ws_yield)) | ((with_reducible apply ws_kapp); (· keq_rows); (· exact rfl); (· exact rfl); (· exact rfl)) | ((with_reducible apply wh_t); (· exact rfl)) | ((with_reducible apply wh_f); (· exact rfl)) | ((with_reducible apply wkret); (· keq_rows))) | ((with_reducible show WPE _ _ _); first | ((with_reducible apply we_bin)) | ((with_reducible apply we_Vd); (· exact rfl)) | ((with_reducible apply we_Vs); (· exact rfl)) | ((with_reducible apply we_C)) | ((with_reducible apply we_cons)) | ((with_reducible apply we_nil)) | ((with_reducible apply we_own)) | ((with_reducible apply we_isO)) | ((with_reducible apply we_ins)) | ((with_reducible apply we_isC)) | ((with_reducible apply we_prop)) | ((with_reducible apply we_make)) | ((with_reducible apply we_Y)) | ((with_reducible apply we_cb)) | ((with_reducible apply we_un)) | ((with_reducible apply we_lst)) | ((with_reducible apply we_tup)) | ((with_reducible apply we_tst)) | ((with_reducible apply we_not)) | ((with_reducible apply we_notV)) | ((with_reducible apply we_part)) | ((with_reducible apply we_sl)) | ((with_reducible apply we_mt0)) | ((with_reducible apply we_mt)) | ((with_reducible apply we_is)) | ((with_reducible apply we_itA)) | ((with_reducible apply we_rg1)) | ((with_reducible apply we_rg2)) | ((with_reducible apply we_itE)) | ((with_reducible apply we_itZ)) | ((with_reducible apply we_call)) | ((with_reducible apply we_callK)) | ((with_reducible apply we_lc)) | ((with_reducible apply we_noP)) | ((with_reducible apply we_dic0)) | ((with_reducible apply we_chain)) | ((with_reducible apply we_listG)) | ((with_reducible apply we_orT)) | ((with_reducible apply we_andT)) | ((with_reducible apply we_and)) | ((with_reducible apply we_or)) | ((with_reducible apply we_andV)) | ((with_reducible apply we_orV)) | ((with_reducible apply we_ifE)) | ((with_reducible apply we_mu); (· exact rfl); (· exact rfl)) | ((with_reducible apply we_pop); (· exact rfl)) | ((with_reducible apply we_sett); (· exact rfl)) | ((with_reducible apply we_settL); (· exact rfl))) | ((with_reducible show WR _ _ _); first | (with_reducible refine wr_at q_addI ?_) | (with_reducible refine wr_at (q_addS ?_) ?_) | (with_reducible refine wr_at q_augI ?_) | (with_reducible refine wr_at (q_augS ?_) ?_) | (with_reducible refine wr_at q_sub ?_) | (with_reducible refine wr_at q_neg ?_) | (with_reducible refine wr_at (q_mul ?_) ?_) | (with_reducible refine wr_at (q_mulS ?_ ?_ ?_) ?_) | (with_reducible refine wr_at (q_mod ?_) ?_) | (with_reducible refine wr_at (q_div ?_ ?_) ?_) | (with_reducible refine wr_at (q_pow ?_) ?_) | (with_reducible refine wr_at q_lt ?_) | (with_reducible refine wr_at q_le ?_) | (with_reducible refine wr_at q_gt ?_) | (with_reducible refine wr_at q_ge ?_) | (with_reducible refine wr_at q_eqI ?_) | (with_reducible refine wr_at q_neI ?_) | (with_reducible refine wr_at q_eqS ?_) | (with_reducible refine wr_at q_neS ?_) | (with_reducible refine wr_at q_eqB ?_) | (with_reducible refine wr_at q_neB ?_) | (with_reducible refine wr_at q_eqNS ?_) | (with_reducible refine wr_at q_eqSN ?_) | (with_reducible refine wr_at q_eqNN ?_) | (with_reducible refine wr_at q_neNS ?_) | (with_reducible refine wr_at q_neSN ?_) | (with_reducible refine wr_at q_neNN ?_) | (with_reducible refine wr_at q_isNN ?_) | (with_reducible refine wr_at q_isNS ?_) | (with_reducible refine wr_at q_isNI ?_) | (with_reducible refine wr_at q_isNL ?_) | (with_reducible refine wr_at q_isNT ?_) | (with_reducible refine wr_at q_ntNN ?_) | (with_reducible refine wr_at q_ntNS ?_) | (with_reducible refine wr_at q_ntNI ?_) | (with_reducible refine wr_at q_ntNL ?_) | (with_reducible refine wr_at q_ntNT ?_) | (with_reducible refine wr_at q_isT ?_) | (with_reducible refine wr_at q_isF ?_) | (with_reducible refine wr_at q_ntT ?_) | (with_reducible refine wr_at q_ntF ?_) | (with_reducible refine wr_at q_inI ?_) | (with_reducible refine wr_at q_niI ?_) | (with_reducible refine wr_at q_inC ?_) | (with_reducible refine wr_at q_niC ?_) | (with_reducible refine wr_at q_lenM ?_) | (with_reducible refine wr_at q_lenF ?_) | (with_reducible refine wr_at q_lenL ?_) | (with_reducible refine wr_at q_lenT ?_) | (with_reducible refine wr_at (q_lenS ?_) ?_) | (with_reducible refine wr_at q_max ?_) | (with_reducible refine wr_at q_min ?_) | (with_reducible refine wr_at q_intI ?_) | (with_reducible refine wr_at q_intB ?_) | (with_reducible refine wr_at q_all ?_) | (with_reducible refine wr_at q_any ?_) | (with_reducible refine wr_at (q_joinC ?_) ?_) | (with_reducible refine wr_at (q_join0 ?_) ?_) | (with_reducible refine wr_at (q_joinW ?_) ?_) | (with_reducible refine wr_at (q_join ?_) ?_) | (with_reducible refine wr_at (q_low1 ?_) ?_) | (with_reducible refine wr_at (q_upp1 ?_) ?_) | (with_reducible refine wr_at (q_low ?_ ?_) ?_) | (with_reducible refine wr_at (q_upp ?_ ?_) ?_) | (with_reducible refine wr_at q_find ?_) | (with_reducible refine wr_at (q_find2 ?_) ?_) | (with_reducible refine wr_at (q_sSd ?_ ?_) ?_) | (with_reducible refine wr_at (q_sSt ?_ ?_) ?_) | (with_reducible refine wr_at (q_sSb ?_ ?_ ?_) ?_) | (with_reducible refine wr_at (q_sS ?_) ?_) | (with_reducible refine wr_at (q_revBS ?_) ?_) | (with_reducible refine wr_ls (q_addM ?_) ?_) | (with_reducible refine wr_ls (q_addL ?_) ?_) | (with_reducible refine wr_ls (q_mulL ?_ ?_ ?_) ?_) | (with_reducible refine wr_ls (q_sMd ?_) ?_) | (with_reducible refine wr_ls (q_sMt ?_) ?_) | (with_reducible refine wr_ls (q_sMb ?_ ?_) ?_) | (with_reducible refine wr_ls q_sM ?_) | (with_reducible refine wr_ls q_sF ?_) | (with_reducible refine wr_ls q_sL ?_) | (with_reducible refine wr_ls (q_listS ?_) ?_) | (with_reducible refine wr_ls q_listL ?_) | (with_reducible refine wr_ls q_listT ?_) | (with_reducible refine wr_ls (q_sort ?_) ?_) | (with_reducible refine wr_ls q_revM ?_) | (with_reducible refine wr_ls q_rev ?_) | (with_reducible refine wr_ls q_revBM ?_) | (with_reducible refine wr_ls q_revBL ?_) | (with_reducible refine wr_ls (q_rgL1 ?_) ?_) | (with_reducible refine wr_ls (q_rgL2 ?_) ?_) | ((with_reducible apply wr_ixT); (· exact rfl)) | ((with_reducible apply wr_ixL); (· exact rfl)) | ((with_reducible apply wr_ixS); (· exact rfl)) | (with_reducible refine wr_at (q_ixM ?_ ?_) ?_) | (with_reducible refine wr_at (q_ixC ?_ ?_ ?_) ?_) | ((with_reducible apply wr_minL); (· with_reducible assumption)) | ((with_reducible apply wr_maxL); (· with_reducible assumption)) | ((with_reducible apply wr_index); (· exact rfl)) | ((with_reducible apply wr_repr); (· with_reducible assumption)) | ((with_reducible apply wr_fld); (· exact rfl); (· exact rfl))) | ((with_reducible show WO _ _); first | ((with_reducible apply wo); (· exact rfl)) | ((with_reducible apply wo_up)) | ((with_reducible apply wtru); (· exact rfl); (· exact rfl)) | ((with_reducible apply wtruS); (· exact rfl))) | ((with_reducible show WI _ _ _); first | ((with_reducible apply wi_t)) | ((with_reducible apply wi_f)) | ((with_reducible apply wi_nt)) | ((with_reducible apply wi_nf)) | ((with_reducible apply wi_not)) | (with_reducible refine wi_eqt (by with_reducible assumption) ?_) | (with_reducible refine wi_eqf (by with_reducible assumption) ?_) | (with_reducible refine wi_dect (by first | (with_reducible assumption) | ked_read) ?_) | (with_reducible refine wi_decf (by first | (with_reducible assumption) | ked_read) ?_) | (with_reducible refine wi_dec (fun _ => ?_) (fun _ => ?_)) | (with_reducible refine wi_and (fun _ _ => ?_) (fun _ => ?_)) | (with_reducible refine wi_or (fun _ => ?_) (fun _ _ => ?_)) | (with_reducible refine wi_gen (fun _ => ?_) (fun _ => ?_))) | ((with_reducible apply weq)) | ((with_reducible apply wmu_app); (· exact rfl)) | ((with_reducible apply wmu_ext); (· exact rfl)) | ((with_reducible apply wmu_popM); (· exact rfl)) | ((with_reducible apply wmu_popA); (· exact rfl)) | ((with_reducible apply wsti_L); (· exact rfl)) | ((with_reducible apply wlg); (· exact rfl)) | ((with_reducible apply wce); (· exact rfl)) | ((with_reducible apply wpt)) | ((with_reducible apply wpar); (· exact rfl)) | ((with_reducible apply witE)) | ((with_reducible apply witZ)) | ((with_reducible apply wt); (· exact rfl)) | ((with_reducible apply wret); (· exact rfl)) | ((with_reducible apply wca0); (· exact rfl); (· exact rfl); (· exact rfl)) | ((with_reducible apply wca); (· exact rfl); (· exact rfl); (· exact rfl)) | ((with_reducible apply wck2); (· exact rfl); (· (simp only [DL.permL, List.filterMap_cons, List.filterMap_nil, List.getElem?_cons_zero, List.getElem?_cons_succ]; exact rfl))) | ((with_reducible apply wck); (· exact rfl)) | ((with_reducible apply wrt_d); (· exact rfl)) | ((with_reducible apply wrt_n); (· exact rfl)) | ((with_reducible apply witS); (· exact rfl)) | ((with_reducible apply wit_l); (· exact rfl)) | ((with_reducible apply wit_f); (· exact rfl)) | ((with_reducible apply Exists.intro); (with_reducible apply And.intro); · exact rfl) | ((with_reducible apply Exists.intro); (with_reducible apply Exists.intro); (with_reducible apply And.intro); · exact rfl) | ((with_reducible apply wis); (· exact rfl)) | ((with_reducible apply wmk); (· exact rfl); (· exact rfl)) | ((with_reducible apply wso); (· exact rfl); (· exact rfl); (· exact rfl)) | ((with_reducible apply wmp0)) | ((with_reducible apply wmp1)) | ((with_reducible apply wmp2)) | ((with_reducible apply wmp3)) | ((with_reducible apply wmp4)) | ((with_reducible apply wrg1)) | ((with_reducible apply wrg2)) | ((with_reducible apply And.intro)) | ((with_reducible apply wc_pure); (· kln_le); (· (intro _ _; kp_flats; done))) | ((with_reducible apply wc_rngP); (· kln_le); (· (intro _ _; kp_flats; done))) | ((with_reducible apply wc_filt); (· kln_le); (· (intro _ _; kp_flats; done))) | ((with_reducible apply wc_rngF); (· kln_le); (· (intro _ _; kp_flats; done))) | ((with_reducible show ∀ c, c ∈ _ → WO _ _); intro _ _) | ((with_reducible show ∀ c, c < _ → WO _ _); intro _ _) | ((with_reducible show @Eq (List Sl) _ _); exact rfl) | ((with_reducible show isTy _ _ = true); exact rfl) | kln_le)
local macro_rules | `(tactic| kp_flats) => `(tactic| repeat' kat_tups)
local macro_rules | `(tactic| kqd_all) => `(tactic| first | (with_reducible apply wc_pure) | (with_reducible apply wc_rngP) | (with_reducible apply wc_filt) | (with_reducible apply wc_rngF))
local macro_rules | `(tactic| kct_strs) => `(tactic| fail)
/-- words over letters -/
def wrds (ls : List Nat) : Nat → List (List Nat)
  | 0 => [[]]
  | n + 1 => (wrds ls n).flatMap fun w => ls.map fun c => w ++ [c]
theorem wrds_mem {ls : List Nat} : ∀ (n : Nat) (w : List Nat), w ∈ wrds ls n ↔ w.length = n ∧ ∀ c ∈ w, c ∈ ls
  | 0, w => by
    show w ∈ [[]] ↔ _
    rw [List.mem_singleton]
    constructor
    · rintro rfl; simp
    · rintro ⟨h, _⟩; exact List.length_eq_zero_iff.mp h
  | n + 1, w => by
    show w ∈ (wrds ls n).flatMap _ ↔ _
    rw [List.mem_flatMap]
    constructor
    · rintro ⟨v, hv, hw⟩
      obtain ⟨c, hc, rfl⟩ := List.mem_map.mp hw
      obtain ⟨h1, h2⟩ := (wrds_mem n v).mp hv
      refine ⟨by rw [List.length_append, h1]; rfl, fun d hd => ?_⟩
      rcases List.mem_append.mp hd with hd | hd
      · exact h2 d hd
      · rw [List.mem_singleton] at hd; rw [hd]; exact hc
    · rintro ⟨h1, h2⟩
      have hne : w ≠ [] := fun e => by rw [e] at h1; cases h1
      refine ⟨w.dropLast, (wrds_mem n _).mpr ⟨by rw [List.length_dropLast]; omega, fun c hc => h2 c (by rw [List.dropLast_eq_take] at hc; exact List.mem_of_mem_take hc)⟩, List.mem_map.mpr ⟨w.getLast hne, h2 _ (List.getLast_mem hne), List.dropLast_concat_getLast hne⟩⟩
/-- all words of up to n letters -/
def upto (ls : List Nat) (n : Nat) : List (List Nat) := (List.range (n + 1)).flatMap (wrds ls)
theorem wrds_len (ls : List Nat) : ∀ n, (wrds ls n).length = ls.length ^ n
  | 0 => rfl
  | n + 1 => by
    show ((wrds ls n).flatMap _).length = _
    have e : ∀ l : List (List Nat), (l.flatMap fun w => ls.map fun c => w ++ [c]).length = l.length * ls.length := fun l => by
      induction l with
      | nil => simp
      | cons a l ih => rw [List.flatMap_cons, List.length_append, ih, List.length_map, List.length_cons, Nat.succ_mul]; omega
    rw [e, wrds_len ls n, Nat.pow_succ]
theorem wrds_le {ls : List Nat} {n : Nat} (h : ls.length ≤ 4) (hn : n ≤ 6) : (wrds ls n).length ≤ 4096 := by
  rw [wrds_len]
  refine Nat.le_trans (Nat.pow_le_pow_left h n) ?_
  exact Nat.le_trans (Nat.pow_le_pow_right (show 0 < 4 by decide) hn) (by decide)
theorem upto_succ (ls : List Nat) (n : Nat) : upto ls (n + 1) = upto ls n ++ wrds ls (n + 1) := by
  unfold upto
  rw [List.range_succ, List.flatMap_append, List.flatMap_singleton]
theorem upto_le {ls : List Nat} (h : ls.length ≤ 4) : ∀ {n : Nat}, n ≤ 6 → (upto ls n).length ≤ 4096 * (n + 1)
  | 0, _ => by show ([[]] : List (List Nat)).length ≤ _; decide
  | n + 1, hn => by
    rw [upto_succ, List.length_append]
    have := upto_le h (show n ≤ 6 by omega)
    have := wrds_le h hn
    omega
abbrev stp (ls : List Nat) (w : List Nat) : List (List Nat) := ls.map fun c => w ++ [c]
theorem stp_len (ls : List Nat) (l : List (List Nat)) : (l.flatMap (stp ls)).length = l.length * ls.length := by
  induction l with
  | nil => simp
  | cons a l ih => rw [List.flatMap_cons, List.length_append, ih, List.length_map, List.length_cons, Nat.succ_mul]; omega
theorem sp_words {ls : List Nat} {n : Int} {Q : PV → DL.Env → Prop} {X : XP} (hl : ls.length ≤ 4) (h : 0 ≤ n ∧ n ≤ 6)
    (k : Q (.nw (.lst ((upto ls n.toNat).map D.str))) [.un, .un]) : WPE (m_law_words [.va (.str ls), .va (.int n)]) Q X := by
  refine w_law_words ?_
  unfold b_law_words
  kp_flats
  refine wl_rng (fun j e => ∃ s3, e = [.va (.str ls), .va (.int n), .ce false (.lst ((upto ls j).map D.str)), s3, .un, .un, .un, .un] ∧ (s3 = .ce false (.lst ((wrds ls j).map D.str)) ∨ s3 = .va (.lst ((wrds ls j).map D.str)))) ⟨_, rfl, .inl rfl⟩ ?_ ?_
  · rintro j e hj ⟨s3, rfl, hs⟩
    have hw := wrds_le (n := j) hl (by omega)
    have hw1 := wrds_le (n := j + 1) hl (by omega)
    have hu := upto_le (n := j) hl (by omega)
    have hu2 : (upto ls j).length + (wrds ls (j + 1)).length ≤ LIM := Nat.le_trans (show _ ≤ 4096 * 8 by omega) (by decide)
    have e3 : ∀ pre w post, wrds ls j = pre ++ w :: post → ((pre.flatMap (stp ls)).map D.str).length + (ls.map fun c => D.str (w ++ [c])).length ≤ LIM := fun pre w post hq => by
      have := congrArg List.length hq
      rw [List.length_append, List.length_cons] at this
      rw [List.length_map, List.length_map, stp_len]
      exact Nat.le_trans (show _ ≤ 4096 * 4 + 4 from Nat.add_le_add (Nat.mul_le_mul (by omega) hl) hl) (by decide)
    have hu3 : (upto ls j).length + ((wrds ls j).flatMap (stp ls)).length ≤ LIM := hu2
    have ap : ∀ pre w, (pre.flatMap (stp ls)).map D.str ++ ls.map (fun c => D.str (w ++ [c])) = ((pre ++ [w]).flatMap (stp ls)).map D.str := fun pre w => by
      rw [List.flatMap_append, List.flatMap_singleton, List.map_append]
      unfold stp
      rw [List.map_map]; rfl
    rcases hs with rfl | rfl
    all_goals
      kp_flats
      refine wl_map (f := D.str) (l := wrds ls j) (fun pre _ e => e = [.va (.str ls), .va (.int n), .ce false (.lst ((upto ls j).map D.str)), .va (.lst ((wrds ls j).map D.str)), .un, .ce false (.lst ((pre.flatMap (stp ls)).map D.str)), .un, .un]) rfl ?_ ?_
      · rintro pre w post e hq rfl
        have e4 := e3 pre w post hq
        have hwl : w.length = j := ((wrds_mem j w).mp (by rw [hq]; simp)).1
        kp_flats
        rw [ap]
      · rintro e rfl
        kp_flats
        exact ⟨_, by rw [upto_succ]; rfl, .inr rfl⟩
  · rintro e ⟨s3, rfl, hs⟩
    kp_flats
theorem upto_mem {ls : List Nat} {n : Nat} {w : List Nat} : w ∈ upto ls n ↔ w.length ≤ n ∧ ∀ c ∈ w, c ∈ ls := by
  unfold upto
  rw [List.mem_flatMap]
  constructor
  · rintro ⟨m, h1, h2⟩
    have := List.mem_range.mp h1
    obtain ⟨h3, h4⟩ := (wrds_mem m w).mp h2
    exact ⟨by omega, h4⟩
  · rintro ⟨h1, h2⟩
    exact ⟨w.length, List.mem_range.mpr (by omega), (wrds_mem _ w).mpr ⟨rfl, h2⟩⟩
end K24
set_option Elab.async false
set_option linter.all false
set_option maxRecDepth 100000
set_option maxHeartbeats 4000000
namespace K24
open PySem PySem.Spec PyProof.Rows L2 DL
/-! three values decide -/
theorem seek_here {c : Nat} {l : List Nat} {n : Nat} : seek c (c :: l) n = some n := by
  unfold seek
  rw [if_pos rfl]
theorem epos_pre : ∀ (R x y : List Nat), epos (x ++ R ++ y) R x.length = x.length + R.length
  | [], x, y => rfl
  | c :: r, x, y => by
    have e : seek c ((x ++ (c :: r) ++ y).drop x.length) x.length = some x.length := by
      rw [List.append_assoc, List.drop_left]
      exact seek_here
    rw [epos_s e]
    have ih := epos_pre r (x ++ [c]) y
    rw [List.length_append, List.length_singleton, show x ++ [c] ++ r ++ y = x ++ (c :: r) ++ y by simp] at ih
    rw [ih, List.length_cons]; omega
theorem bst_end (p : List Nat) (z : Nat) : bst p (tkn p ++ [z]) = some (z :: ptn p) := by
  have hm : (plc (tkn p ++ [z]) (tkn p) 0).length = (tkn p).length := (plc_sub _ _ 0).mpr (List.sublist_append_left _ _)
  have he : epos (tkn p ++ [z]) (tkn p) 0 = (tkn p).length := by
    have := epos_pre (tkn p) [] [z]
    rw [List.nil_append, List.length_nil, Nat.zero_add] at this
    exact this
  rw [app_all hm, he, List.drop_left]; rfl
theorem not_end {q w : List Nat} {z : Nat} (h : ¬ List.Sublist (tkn q) w) (hv : z ∉ ptn q) : ∀ u, bst q w = some u → z ∉ u := fun u hu => by
  rw [bst_app] at hu
  unfold app at hu
  rw [if_neg (fun y => h ((plc_sub (tkn q) w 0).mp y))] at hu
  split at hu
  · cases hu
    exact fun y => hv (List.mem_of_mem_drop y)
  · cases hu
theorem bst_same {p q : List Nat} {r : Nat} (h1 : tkn p = tkn q) (h2 : ptn p = ptn q) (hp : least (sucP p) r) (hq : least (sucP q) r) (w : List Nat) : bst p w = bst q w := by
  rcases Nat.lt_or_ge (plc w (tkn p) 0).length (tkn p).length with hm | hm
  · have hm' : (plc w (tkn q) 0).length < (tkn q).length := by rw [← h1]; exact hm
    obtain ⟨a1, a2⟩ := app_core hp hm
    obtain ⟨b1, b2⟩ := app_core hq hm'
    rcases Nat.lt_or_ge (plc w (tkn p) 0).length r with z | z
    · rw [a1 z, b1 (by rw [← h1]; exact z)]
    · rw [(a2 z).1, (b2 (by rw [← h1]; exact z)).1, h1, h2]
  · have := plc_le w (tkn p) 0
    rw [app_all (p := p) (by omega), app_all (p := q) (by rw [← h1]; omega), h1, h2]
/-- programs of two letters -/
def Two (p : List Nat) : Prop := ∀ c ∈ p, c ∈ [97, 65, 98, 66]
theorem two_tkn {p : List Nat} (h : Two p) : ∀ c ∈ tkn p, c ∈ [97, 98] := fun c hc => by
  obtain ⟨x, hx, rfl⟩ := List.mem_map.mp hc
  obtain ⟨h1, h2⟩ := List.mem_filter.mp hx
  have key : ∀ x ∈ [97, 65, 98, 66], lo1 x ∈ [97, 98] := by decide
  exact key x (h x h1)
theorem two_ptn {p : List Nat} (h : Two p) : ∀ c ∈ ptn p, c ∈ [97, 98] := fun c hc => by
  obtain ⟨h1, h2⟩ := List.mem_filter.mp hc
  have key : ∀ x ∈ [97, 65, 98, 66], isI x = true → x ∈ [97, 98] := by decide
  exact key c (h c h1) h2
theorem no99 {l : List Nat} (h : ∀ c ∈ l, c ∈ [97, 98]) : 99 ∉ l := fun z => by have := h 99 z; revert this; decide
theorem in3 {l : List Nat} (h : ∀ c ∈ l, c ∈ [97, 98]) : ∀ c ∈ l, c ∈ [97, 98, 99] := fun c hc => by
  have := h c hc
  simp only [List.mem_cons, List.not_mem_nil, or_false] at this ⊢
  omega
theorem sepA {p q : List Nat} {r s : Nat} (hp : Two p) (hq : Two q) (lp : least (sucP p) r) (lq : least (sucP q) s) (hr : r ≤ (tkn p).length) (hs : s ≤ (tkn q).length) (hle : (tkn p).length ≤ (tkn q).length) (hne : ¬ (tkn p = tkn q ∧ ptn p = ptn q ∧ r = s)) :
    ∃ w, (∀ c ∈ w, c ∈ [97, 98, 99]) ∧ w.length ≤ 1 + min (tkn p).length (tkn q).length ∧ bst p w ≠ bst q w := by
  have t1 := two_tkn hp
  have t2 := two_tkn hq
  have hw : ∀ c ∈ tkn p ++ [99], c ∈ [97, 98, 99] := fun c hc => by
    rcases List.mem_append.mp hc with hc | hc
    · exact in3 t1 c hc
    · rw [List.mem_singleton] at hc; rw [hc]; decide
  have hl : (tkn p ++ [99]).length ≤ 1 + min (tkn p).length (tkn q).length := by rw [List.length_append, List.length_singleton]; omega
  by_cases h1 : tkn p = tkn q
  · by_cases h2 : ptn p = ptn q
    · have hrs : r ≠ s := fun z => hne ⟨h1, h2, z⟩
      rcases Nat.lt_or_gt_of_ne hrs with z | z
      · refine ⟨(tkn p).take r, fun c hc => in3 t1 c (List.mem_of_mem_take hc), by rw [List.length_take]; omega, fun e => ?_⟩
        have b1 := (bst_some (w := (tkn p).take r) lp hr).mpr (List.Sublist.refl _)
        rw [e] at b1
        have b2 := ((bst_some lq hs).mp b1).length_le
        rw [List.length_take, List.length_take] at b2
        omega
      · refine ⟨(tkn q).take s, fun c hc => in3 t2 c (List.mem_of_mem_take hc), by rw [List.length_take, h1]; omega, fun e => ?_⟩
        have b1 := (bst_some (w := (tkn q).take s) lq hs).mpr (List.Sublist.refl _)
        rw [← e] at b1
        have b2 := ((bst_some lp hr).mp b1).length_le
        rw [List.length_take, List.length_take] at b2
        omega
    · refine ⟨tkn p ++ [99], hw, hl, fun e => h2 ?_⟩
      have e2 := bst_end q 99
      rw [← h1, ← e, bst_end] at e2
      exact (List.cons.inj (Option.some.inj e2)).2
  · refine ⟨tkn p ++ [99], hw, hl, fun e => ?_⟩
    have hns : ¬ List.Sublist (tkn q) (tkn p ++ [99]) := fun z => by
      obtain ⟨s1, s2, e1, z1, z2⟩ := List.sublist_append_iff.mp z
      have h2 : s2 = [] := by
        cases s2 with
        | nil => rfl
        | cons c t =>
          exfalso
          have m := z2.subset (List.mem_cons_self)
          rw [List.mem_singleton] at m
          exact no99 t2 (by rw [e1, ← m]; simp)
      rw [h2, List.append_nil] at e1
      rw [← e1] at z1
      exact h1 (z1.eq_of_length_le hle).symm
    have := not_end hns (no99 (two_ptn hq)) (99 :: ptn p) (by rw [← e, bst_end])
    exact this List.mem_cons_self
theorem sep {p q : List Nat} {r s : Nat} (hp : Two p) (hq : Two q) (lp : least (sucP p) r) (lq : least (sucP q) s) (hr : r ≤ (tkn p).length) (hs : s ≤ (tkn q).length) (hne : ¬ (tkn p = tkn q ∧ ptn p = ptn q ∧ r = s)) :
    ∃ w, (∀ c ∈ w, c ∈ [97, 98, 99]) ∧ w.length ≤ 1 + min (tkn p).length (tkn q).length ∧ bst p w ≠ bst q w := by
  rcases Nat.le_total (tkn p).length (tkn q).length with h | h
  · exact sepA hp hq lp lq hr hs h hne
  · obtain ⟨w, h1, h2, h3⟩ := sepA hq hp lq lp hs hr h fun ⟨a, b, c⟩ => hne ⟨a.symm, b.symm, c.symm⟩
    exact ⟨w, h1, by omega, fun e => h3 e.symm⟩
end K24
set_option Elab.async false
set_option linter.all false
set_option maxRecDepth 100000
set_option maxHeartbeats 4000000
namespace K24
open PySem PySem.Spec PyProof.Rows L2 DL
local macro_rules | `(tactic| ked_read) => `(tactic| (try simp only [List.length_append, List.length_cons, List.length_nil, List.length_map, List.length_drop, List.length_take, List.length_replicate, List.length_range, List.length_reverse, List.length_tail, List.length_eraseIdx, LIM] at *) <;> omega)
local macro_rules | `(tactic| kln_le) => `(tactic| first | (with_reducible exact rfl) | (with_reducible assumption) | omega | (simp only [List.length_append, List.length_cons, List.length_nil, List.length_map, List.length_drop, List.length_take, List.length_range, List.length_reverse, LIM] <;> omega) | ((with_reducible apply cMul_l); omega) | ((with_reducible apply cMul_r); omega) | (with_reducible exact isI_iff.mpr (by omega)) | ((with_reducible show cPow _ _ = true); decide))
local macro_rules | `(tactic| keq_rows) => `(tactic| (simp only [List.length_cons, List.length_nil] <;> omega))
local macro_rules | `(tactic| ke_read) => `(tactic| ((repeat' first | kct_strs | (with_reducible refine et_and ?_ (fun _ => ?_)) | (with_reducible refine et_or ?_ (fun _ => ?_)) | ((with_reducible apply et_not)) | ((with_reducible apply et_tst)) | ((with_reducible apply ed_V); (· exact rfl)) | ((with_reducible apply ed_S); (· exact rfl)) | ((with_reducible apply ed_C)) | ((with_reducible apply el_nil)) | ((with_reducible apply el_cons)) | ((with_reducible apply epa_no)) | ((with_reducible apply epa_pt)) | ((with_reducible apply ed_notV)) | (with_reducible refine ed_andV ?_ (fun _ => ?_)) | (with_reducible refine ed_orV ?_ (fun _ => ?_)) | (with_reducible apply ed_is) | (with_reducible apply ed_binA) | (with_reducible apply ed_unA) | (with_reducible apply ed_cbA) | ((with_reducible apply ed_slA)) | (with_reducible apply ed_mt0A) | (with_reducible apply ed_mtA) | (with_reducible refine q_addI) | (with_reducible refine (q_addS ?_)) | (with_reducible refine q_augI) | (with_reducible refine (q_augS ?_)) | (with_reducible refine q_sub) | (with_reducible refine q_neg) | (with_reducible refine (q_mul ?_)) | (with_reducible refine (q_mulS ?_ ?_ ?_)) | (with_reducible refine (q_mod ?_)) | (with_reducible refine (q_div ?_ ?_)) | (with_reducible refine (q_pow ?_)) | (with_reducible refine q_lt) | (with_reducible refine q_le) | (with_reducible refine q_gt) | (with_reducible refine q_ge) | (with_reducible refine q_eqI) | (with_reducible refine q_neI) | (with_reducible refine q_eqS) | (with_reducible refine q_neS) | (with_reducible refine q_eqB) | (with_reducible refine q_neB) | (with_reducible refine q_eqNS) | (with_reducible refine q_eqSN) | (with_reducible refine q_eqNN) | (with_reducible refine q_neNS) | (with_reducible refine q_neSN) | (with_reducible refine q_neNN) | (with_reducible refine q_isNN) | (with_reducible refine q_isNS) | (with_reducible refine q_isNI) | (with_reducible refine q_isNL) | (with_reducible refine q_isNT) | (with_reducible refine q_ntNN) | (with_reducible refine q_ntNS) | (with_reducible refine q_ntNI) | (with_reducible refine q_ntNL) | (with_reducible refine q_ntNT) | (with_reducible refine q_isT) | (with_reducible refine q_isF) | (with_reducible refine q_ntT) | (with_reducible refine q_ntF) | (with_reducible refine q_inI) | (with_reducible refine q_niI) | (with_reducible refine q_inC) | (with_reducible refine q_niC) | (with_reducible refine q_lenM) | (with_reducible refine q_lenF) | (with_reducible refine q_lenL) | (with_reducible refine q_lenT) | (with_reducible refine (q_lenS ?_)) | (with_reducible refine q_max) | (with_reducible refine q_min) | (with_reducible refine q_intI) | (with_reducible refine q_intB) | (with_reducible refine q_all) | (with_reducible refine q_any) | (with_reducible refine (q_joinC ?_)) | (with_reducible refine (q_join0 ?_)) | (with_reducible refine (q_joinW ?_)) | (with_reducible refine (q_join ?_)) | (with_reducible refine (q_low1 ?_)) | (with_reducible refine (q_upp1 ?_)) | (with_reducible refine (q_low ?_ ?_)) | (with_reducible refine (q_upp ?_ ?_)) | (with_reducible refine q_find) | (with_reducible refine (q_find2 ?_)) | (with_reducible refine (q_sSd ?_ ?_)) | (with_reducible refine (q_sSt ?_ ?_)) | (with_reducible refine (q_sSb ?_ ?_ ?_)) | (with_reducible refine (q_sS ?_)) | (with_reducible refine (q_revBS ?_)) | (with_reducible refine (q_addM ?_)) | (with_reducible refine (q_addL ?_)) | (with_reducible refine (q_mulL ?_ ?_ ?_)) | (with_reducible refine (q_sMd ?_)) | (with_reducible refine (q_sMt ?_)) | (with_reducible refine (q_sMb ?_ ?_)) | (with_reducible refine q_sM) | (with_reducible refine q_sF) | (with_reducible refine q_sL) | (with_reducible refine (q_listS ?_)) | (with_reducible refine q_listL) | (with_reducible refine q_listT) | (with_reducible refine (q_sort ?_)) | (with_reducible refine q_revM) | (with_reducible refine q_rev) | (with_reducible refine q_revBM) | (with_reducible refine q_revBL) | (with_reducible refine (q_rgL1 ?_)) | (with_reducible refine (q_rgL2 ?_)) | (with_reducible apply q_fld; exact rfl; exact rfl) | (with_reducible apply q_ixT; exact rfl) | (with_reducible apply q_ixL; exact rfl) | (with_reducible refine q_ixM ?_ ?_) | (with_reducible refine q_ixC ?_ ?_ ?_) | ((with_reducible show isD _ _ = some _); exact rfl) | ((with_reducible show isTy _ _ = true); exact rfl) | kln_le); done))
local macro_rules | `(tactic| kat_tups) => `(tactic| first | kct_strs | ((with_reducible show WN _ _); first | ((with_reducible apply wn); (· first | (simp only [DL.st, DL.wipeE, DL.back, DL.upds, DL.gt]; exact rfl) | exact rfl))) | ((with_reducible show WN2 _ _ _); first | ((with_reducible apply wn2); (· first | (simp only [DL.st, DL.wipeE, DL.back, DL.upds, DL.gt]; exact rfl) | exact rfl))) | ((with_reducible show WPS _ _ _ _ _ _); first | ((with_reducible apply ws_seq)) | ((with_reducible apply ws_set)) | ((with_reducible apply ws_setF)) | ((with_reducible apply ws_skip)) | ((with_reducible apply ws_pass)) | ((with_reducible apply ws_brk)) | ((with_reducible apply ws_cnt)) | ((with_reducible apply ws_retN)) | ((with_reducible apply ws_drop)) | ((with_reducible apply ws_ret)) | ((with_reducible apply ws_sti)) | ((with_reducible apply ws_raise)) | ((with_reducible apply ws_tgt)) | ((with_reducible apply ws_parC)) | ((with_reducible apply ws_par)) | ((with_reducible apply ws_for)) | ((with_reducible apply ws_try)) | ((with_reducible apply ws_W)) | ((with_reducible apply ws_P)) | ((with_reducible apply ws_up)) | ((with_reducible apply ws_forG)) | ((with_reducible apply wkplain)) | ((with_reducible apply wh_n)) | ((with_reducible apply ws_ifP (ft := fAnd _ _)); · ke_read) | ((with_reducible apply ws_ifP (ft := fOr _ _)); · ke_read) | ((with_reducible apply ws_if)) | ((with_reducible apply ws_aug); (· exact rfl)) | ((with_reducible apply ws_yield)) | ((with_reducible apply ws_kapp); (· keq_rows); (· exact rfl); (· exact rfl); (· exact rfl)) | ((with_reducible apply wh_t); (· exact rfl)) | ((with_reducible apply wh_f); (· exact rfl)) | ((with_reducible apply wkret); (· keq_rows))) | ((with_reducible show WPE _ _ _); first | ((with_reducible apply we_bin)) | ((with_reducible apply we_Vd); (· exact rfl)) | ((with_reducible apply we_Vs); (· exact rfl)) | ((with_reducible apply we_C)) | ((with_reducible apply we_cons)) | ((with_reducible apply we_nil)) | ((with_reducible apply we_own)) | ((with_reducible apply we_isO)) | ((with_reducible apply we_ins)) | ((with_reducible apply we_isC)) | ((with_reducible apply we_prop)) | ((with_reducible apply we_make)) | ((with_reducible apply we_Y)) | ((with_reducible apply we_cb)) | ((with_reducible apply we_un)) | ((with_reducible apply we_lst)) | ((with_reducible apply we_tup)) | ((with_reducible apply we_tst)) | ((with_reducible apply we_not)) | ((with_reducible apply we_notV)) | ((with_reducible apply we_part)) | ((with_reducible apply we_sl)) | ((with_reducible apply we_mt0)) | ((with_reducible apply we_mt)) | ((with_reducible apply we_is)) | ((with_reducible apply we_itA)) | ((with_reducible apply we_rg1)) | ((with_reducible apply we_rg2)) | ((with_reducible apply we_itE)) | ((with_reducible apply we_itZ)) | ((with_reducible apply we_call)) | ((with_reducible apply we_callK)) | ((with_reducible apply we_lc)) | ((with_reducible apply we_noP)) | ((with_reducible apply we_dic0)) | ((with_reducible apply we_chain)) | ((with_reducible apply we_listG)) | ((with_reducible apply we_orT)) | ((with_reducible apply we_andT)) | ((with_reducible apply we_and)) | ((with_reducible apply we_or)) | ((with_reducible apply we_andV)) | ((with_reducible apply we_orV)) | ((with_reducible apply we_ifE)) | ((with_reducible apply we_mu); (· exact rfl); (· exact rfl)) | ((with_reducible apply we_pop); (· exact rfl)) | ((with_reducible apply we_sett); (· exact rfl)) | ((with_reducible apply we_settL); (· exact rfl))) | ((with_reducible show WR _ _ _); first | (with_reducible refine wr_at q_addI ?_) | (with_reducible refine wr_at (q_addS ?_) ?_) | (with_reducible refine wr_at q_augI ?_) | (with_reducible refine wr_at (q_augS ?_) ?_) | (with_reducible refine wr_at q_sub ?_) | (with_reducible refine wr_at q_neg ?_) | (with_reducible refine wr_at (q_mul ?_) ?_) | (with_reducible refine wr_at (q_mulS ?_ ?_ ?_) ?_) | (with_reducible refine wr_at (q_mod ?_) ?_) | (with_reducible refine wr_at (q_div ?_ ?_) ?_) | (with_reducible refine wr_at (q_pow ?_) ?_) | (with_reducible refine wr_at q_lt ?_) | (with_reducible refine wr_at q_le ?_) | (with_reducible refine wr_at q_gt ?_) | (with_reducible refine wr_at q_ge ?_) | (with_reducible refine wr_at q_eqI ?_) | (with_reducible refine wr_at q_neI ?_) | (with_reducible refine wr_at q_eqS ?_) | (with_reducible refine wr_at q_neS ?_) | (with_reducible refine wr_at q_eqB ?_) | (with_reducible refine wr_at q_neB ?_) | (with_reducible refine wr_at q_eqNS ?_) | (with_reducible refine wr_at q_eqSN ?_) | (with_reducible refine wr_at q_eqNN ?_) | (with_reducible refine wr_at q_neNS ?_) | (with_reducible refine wr_at q_neSN ?_) | (with_reducible refine wr_at q_neNN ?_) | (with_reducible refine wr_at q_isNN ?_) | (with_reducible refine wr_at q_isNS ?_) | (with_reducible refine wr_at q_isNI ?_) | (with_reducible refine wr_at q_isNL ?_) | (with_reducible refine wr_at q_isNT ?_) | (with_reducible refine wr_at q_ntNN ?_) | (with_reducible refine wr_at q_ntNS ?_) | (with_reducible refine wr_at q_ntNI ?_) | (with_reducible refine wr_at q_ntNL ?_) | (with_reducible refine wr_at q_ntNT ?_) | (with_reducible refine wr_at q_isT ?_) | (with_reducible refine wr_at q_isF ?_) | (with_reducible refine wr_at q_ntT ?_) | (with_reducible refine wr_at q_ntF ?_) | (with_reducible refine wr_at q_inI ?_) | (with_reducible refine wr_at q_niI ?_) | (with_reducible refine wr_at q_inC ?_) | (with_reducible refine wr_at q_niC ?_) | (with_reducible refine wr_at q_lenM ?_) | (with_reducible refine wr_at q_lenF ?_) | (with_reducible refine wr_at q_lenL ?_) | (with_reducible refine wr_at q_lenT ?_) | (with_reducible refine wr_at (q_lenS ?_) ?_) | (with_reducible refine wr_at q_max ?_) | (with_reducible refine wr_at q_min ?_) | (with_reducible refine wr_at q_intI ?_) | (with_reducible refine wr_at q_intB ?_) | (with_reducible refine wr_at q_all ?_) | (with_reducible refine wr_at q_any ?_) | (with_reducible refine wr_at (q_joinC ?_) ?_) | (with_reducible refine wr_at (q_join0 ?_) ?_) | (with_reducible refine wr_at (q_joinW ?_) ?_) | (with_reducible refine wr_at (q_join ?_) ?_) | (with_reducible refine wr_at (q_low1 ?_) ?_) | (with_reducible refine wr_at (q_upp1 ?_) ?_) | (with_reducible refine wr_at (q_low ?_ ?_) ?_) | (with_reducible refine wr_at (q_upp ?_ ?_) ?_) | (with_reducible refine wr_at q_find ?_) | (with_reducible refine wr_at (q_find2 ?_) ?_) | (with_reducible refine wr_at (q_sSd ?_ ?_) ?_) | (with_reducible refine wr_at (q_sSt ?_ ?_) ?_) | (with_reducible refine wr_at (q_sSb ?_ ?_ ?_) ?_) | (with_reducible refine wr_at (q_sS ?_) ?_) | (with_reducible refine wr_at (q_revBS ?_) ?_) | (with_reducible refine wr_ls (q_addM ?_) ?_) | (with_reducible refine wr_ls (q_addL ?_) ?_) | (with_reducible refine wr_ls (q_mulL ?_ ?_ ?_) ?_) | (with_reducible refine wr_ls (q_sMd ?_) ?_) | (with_reducible refine wr_ls (q_sMt ?_) ?_) | (with_reducible refine wr_ls (q_sMb ?_ ?_) ?_) | (with_reducible refine wr_ls q_sM ?_) | (with_reducible refine wr_ls q_sF ?_) | (with_reducible refine wr_ls q_sL ?_) | (with_reducible refine wr_ls (q_listS ?_) ?_) | (with_reducible refine wr_ls q_listL ?_) | (with_reducible refine wr_ls q_listT ?_) | (with_reducible refine wr_ls (q_sort ?_) ?_) | (with_reducible refine wr_ls q_revM ?_) | (with_reducible refine wr_ls q_rev ?_) | (with_reducible refine wr_ls q_revBM ?_) | (with_reducible refine wr_ls q_revBL ?_) | (with_reducible refine wr_ls (q_rgL1 ?_) ?_) | (with_reducible refine wr_ls (q_rgL2 ?_) ?_) | ((with_reducible apply wr_ixT); (· exact rfl)) | ((with_reducible apply wr_ixL); (· exact rfl)) | ((with_reducible apply wr_ixS); (· exact rfl)) | (with_reducible refine wr_at (q_ixM ?_ ?_) ?_) | (with_reducible refine wr_at (q_ixC ?_ ?_ ?_) ?_) | ((with_reducible apply wr_minL); (· with_reducible assumption)) | ((with_reducible apply wr_maxL); (· with_reducible assumption)) | ((with_reducible apply wr_index); (· exact rfl)) | ((with_reducible apply wr_repr); (· with_reducible assumption)) | ((with_reducible apply wr_fld); (· exact rfl); (· exact rfl))) | ((with_reducible show WO _ _); first | ((with_reducible apply wo); (· exact rfl)) | ((with_reducible apply wo_up)) | ((with_reducible apply wtru); (· exact rfl); (· exact rfl)) | ((with_reducible apply wtruS); (· exact rfl))) | ((with_reducible show WI _ _ _); first | ((with_reducible apply wi_t)) | ((with_reducible apply wi_f)) | ((with_reducible apply wi_nt)) | ((with_reducible apply wi_nf)) | ((with_reducible apply wi_not)) | (with_reducible refine wi_eqt (by with_reducible assumption) ?_) | (with_reducible refine wi_eqf (by with_reducible assumption) ?_) | (with_reducible refine wi_dect (by first | (with_reducible assumption) | ked_read) ?_) | (with_reducible refine wi_decf (by first | (with_reducible assumption) | ked_read) ?_) | (with_reducible refine wi_dec (fun _ => ?_) (fun _ => ?_)) | (with_reducible refine wi_and (fun _ _ => ?_) (fun _ => ?_)) | (with_reducible refine wi_or (fun _ => ?_) (fun _ _ => ?_)) | (with_reducible refine wi_gen (fun _ => ?_) (fun _ => ?_))) | ((with_reducible apply weq)) | ((with_reducible apply wmu_app); (· exact rfl)) | ((with_reducible apply wmu_ext); (· exact rfl)) | ((with_reducible apply wmu_popM); (· exact rfl)) | ((with_reducible apply wmu_popA); (· exact rfl)) | ((with_reducible apply wsti_L); (· exact rfl)) | ((with_reducible apply wlg); (· exact rfl)) | ((with_reducible apply wce); (· exact rfl)) | ((with_reducible apply wpt)) | ((with_reducible apply wpar); (· exact rfl)) | ((with_reducible apply witE)) | ((with_reducible apply witZ)) | ((with_reducible apply wt); (· exact rfl)) | ((with_reducible apply wret); (· exact rfl)) | ((with_reducible apply wca0); (· exact rfl); (· exact rfl); (· exact rfl)) | ((with_reducible apply wca); (· exact rfl); (· exact rfl); (· exact rfl)) | ((with_reducible apply wck2); (· exact rfl); (· (simp only [DL.permL, List.filterMap_cons, List.filterMap_nil, List.getElem?_cons_zero, List.getElem?_cons_succ]; exact rfl))) | ((with_reducible apply wck); (· exact rfl)) | ((with_reducible apply wrt_d); (· exact rfl)) | ((with_reducible apply wrt_n); (· exact rfl)) | ((with_reducible apply witS); (· exact rfl)) | ((with_reducible apply wit_l); (· exact rfl)) | ((with_reducible apply wit_f); (· exact rfl)) | ((with_reducible apply Exists.intro); (with_reducible apply And.intro); · exact rfl) | ((with_reducible apply Exists.intro); (with_reducible apply Exists.intro); (with_reducible apply And.intro); · exact rfl) | ((with_reducible apply wis); (· exact rfl)) | ((with_reducible apply wmk); (· exact rfl); (· exact rfl)) | ((with_reducible apply wso); (· exact rfl); (· exact rfl); (· exact rfl)) | ((with_reducible apply wmp0)) | ((with_reducible apply wmp1)) | ((with_reducible apply wmp2)) | ((with_reducible apply wmp3)) | ((with_reducible apply wmp4)) | ((with_reducible apply wrg1)) | ((with_reducible apply wrg2)) | ((with_reducible apply And.intro)) | ((with_reducible apply wc_pure); (· kln_le); (· (intro _ _; kp_flats; done))) | ((with_reducible apply wc_rngP); (· kln_le); (· (intro _ _; kp_flats; done))) | ((with_reducible apply wc_filt); (· kln_le); (· (intro _ _; kp_flats; done))) | ((with_reducible apply wc_rngF); (· kln_le); (· (intro _ _; kp_flats; done))) | ((with_reducible show ∀ c, c ∈ _ → WO _ _); intro _ _) | ((with_reducible show ∀ c, c < _ → WO _ _); intro _ _) | ((with_reducible show @Eq (List Sl) _ _); exact rfl) | ((with_reducible show isTy _ _ = true); exact rfl) | kln_le)
local macro_rules | `(tactic| kp_flats) => `(tactic| repeat' kat_tups)
local macro_rules | `(tactic| kqd_all) => `(tactic| first | (with_reducible apply wc_pure) | (with_reducible apply wc_rngP) | (with_reducible apply wc_filt) | (with_reducible apply wc_rngF))
local macro_rules | `(tactic| kct_strs) => `(tactic| fail)
local macro_rules | `(tactic| kct_strs) => `(tactic| (with_reducible apply sp_take))
local macro_rules | `(tactic| kct_strs) => `(tactic| (with_reducible apply sp_require_program))
local macro_rules | `(tactic| kct_strs) => `(tactic| (with_reducible apply sp_triple))
theorem sp_program2 {x y n m : Int} {Q : PV → DL.Env → Prop} {X : XP} (hp : PoolOk x y) (n0 : 0 ≤ n) (n1 : n ≤ 400) (m0 : 1 ≤ m) (m1 : m ≤ 8)
    (k : ∀ x' y' p, PoolOk x' y' → (p.length : Int) ≤ n → (∀ c ∈ p, c ∈ moves.take (2 * m).toNat) → Q (.d (.str p)) [pool x' y', .un, .un]) : WPE (m_law_program [pool x y, .va (.int n), .va (.int m)]) Q X := by
  refine w_law_program ?_
  unfold b_law_program
  kp_flats
  intro d x1 y1 hp1 d0 d1
  kp_flats
  refine wc_rng (fun k acc e => ∃ (x y : Int) (u : List Nat), e = [pool x y, .va (.int n), .va (.int m), .va (.str (moves.take (2 * m).toNat)), .un] ∧ PoolOk x y ∧ acc = u.map (fun c => .str [c]) ∧ u.length = k ∧ ∀ c ∈ u, c ∈ moves.take (2 * m).toNat) ?_ ?_ ?_ ?_
  · kp_flats
  · exact ⟨x1, y1, [], rfl, hp1, rfl, rfl, by intro c hc; cases hc⟩
  · rintro k acc e hk ⟨x, y, u, rfl, hp, rfl, hu, hI⟩
    kp_flats
    intro d' x2 y2 hp2 e0 e1
    have hl : d'.toNat < (moves.take (2 * m).toNat).length := by rw [List.length_take]; show _ < min _ 16; omega
    kp_flats
    exact ⟨x2, y2, u ++ [(moves.take (2 * m).toNat)[d'.toNat]!], rfl, hp2, by simp, by simp [hu], fun z hz => by
      rcases List.mem_append.mp hz with hz | hz
      · exact hI z hz
      · rw [List.mem_singleton] at hz; subst hz; exact getB_mem hl⟩
  · rintro acc e ⟨x, y, u, rfl, hp, rfl, hu, hI⟩
    kp_flats
    exact k _ _ _ hp (by omega) hI
abbrev optD : Option (List Nat) → D
  | some q => .str q
  | none => .non
theorem sp_best' {p w : List Nat} {Q : PV → DL.Env → Prop} {X : XP} (hp : Prg p) (hl : p.length ≤ 1000) (hw : w.length ≤ 1000)
    (k0 : Q (.d (optD (bst p w))) [.un, .un]) : WPE (m_law_best [.va (.str p), .va (.str w)]) Q X :=
  sp_best hp hl hw (by cases h : bst p w <;> (rw [h] at k0; exact k0))
theorem trp_iff {p q : List Nat} {r s : Nat} : eqD (trp p r) (trp q s) = true ↔ tkn p = tkn q ∧ ptn p = ptn q ∧ r = s := by
  simp only [eqD, eqDL, Bool.and_true, Bool.and_eq_true, beq_iff_eq, decide_eq_true_eq]
  constructor
  · rintro ⟨h1, h2, h3⟩; exact ⟨h1, h2, by omega⟩
  · rintro ⟨h1, h2, h3⟩; exact ⟨h1, h2, by omega⟩
theorem trp_ok {p : List Nat} {r : Nat} (hp : Prg p) : okD 60 (trp p r) = true := by
  simp only [okD, okDL, tkn_ok hp, ptn_ok hp, Bool.and_self]
theorem sp_Eeq {p q : List Nat} {r s : Nat} {Q : PV → DL.Env → Prop} {X : XP} (hp : Prg p) (hq : Prg q) (k : Q (.d (.bl (eqD (trp p r) (trp q s)))) [.un, .un]) : WPE (m_Effect_eq [.va (effP p r), .va (effP q s)]) Q X := by
  refine w_Effect_eq ?_
  unfold b_Effect_eq
  kp_flats
  refine wr_at (q_eqXi (trp_ok hp) (trp_ok hq)) ?_
  kp_flats
theorem sp_equiv {p q : List Nat} {Q : PV → DL.Env → Prop} {X : XP} (hp : Prg p) (hq : Prg q) (lp : p.length ≤ 400) (lq : q.length ≤ 400) (k : ∀ r s, least (sucP p) r → least (sucP q) s → Q (.d (.bl (eqD (trp p r) (trp q s)))) [.un, .un]) : WPE (m_equivalent [.va (.str p), .va (.str q)]) Q X := by
  refine w_equivalent ?_
  unfold b_equivalent
  kp_flats
  intro r hr hs
  kp_flats
  intro r' hr' hs'
  kp_flats
  refine wr_at (q_eqXi (trp_ok hp) (trp_ok hq)) ?_
  kp_flats
  exact k r r' hs hs'
end K24
set_option Elab.async false
set_option linter.all false
set_option maxRecDepth 100000
set_option maxHeartbeats 4000000
namespace K24
open PySem PySem.Spec PyProof.Rows L2 DL
local macro_rules | `(tactic| ked_read) => `(tactic| (try simp only [List.length_append, List.length_cons, List.length_nil, List.length_map, List.length_drop, List.length_take, List.length_replicate, List.length_range, List.length_reverse, List.length_tail, List.length_eraseIdx, LIM] at *) <;> omega)
local macro_rules | `(tactic| kln_le) => `(tactic| first | (with_reducible exact rfl) | (with_reducible assumption) | omega | (simp only [List.length_append, List.length_cons, List.length_nil, List.length_map, List.length_drop, List.length_take, List.length_range, List.length_reverse, LIM] <;> omega) | ((with_reducible apply cMul_l); omega) | ((with_reducible apply cMul_r); omega) | (with_reducible exact isI_iff.mpr (by omega)) | ((with_reducible show cPow _ _ = true); decide))
local macro_rules | `(tactic| keq_rows) => `(tactic| (simp only [List.length_cons, List.length_nil] <;> omega))
local macro_rules | `(tactic| ke_read) => `(tactic| ((repeat' first | kct_strs | (with_reducible refine et_and ?_ (fun _ => ?_)) | (with_reducible refine et_or ?_ (fun _ => ?_)) | ((with_reducible apply et_not)) | ((with_reducible apply et_tst)) | ((with_reducible apply ed_V); (· exact rfl)) | ((with_reducible apply ed_S); (· exact rfl)) | ((with_reducible apply ed_C)) | ((with_reducible apply el_nil)) | ((with_reducible apply el_cons)) | ((with_reducible apply epa_no)) | ((with_reducible apply epa_pt)) | ((with_reducible apply ed_notV)) | (with_reducible refine ed_andV ?_ (fun _ => ?_)) | (with_reducible refine ed_orV ?_ (fun _ => ?_)) | (with_reducible apply ed_is) | (with_reducible apply ed_binA) | (with_reducible apply ed_unA) | (with_reducible apply ed_cbA) | ((with_reducible apply ed_slA)) | (with_reducible apply ed_mt0A) | (with_reducible apply ed_mtA) | (with_reducible refine q_addI) | (with_reducible refine (q_addS ?_)) | (with_reducible refine q_augI) | (with_reducible refine (q_augS ?_)) | (with_reducible refine q_sub) | (with_reducible refine q_neg) | (with_reducible refine (q_mul ?_)) | (with_reducible refine (q_mulS ?_ ?_ ?_)) | (with_reducible refine (q_mod ?_)) | (with_reducible refine (q_div ?_ ?_)) | (with_reducible refine (q_pow ?_)) | (with_reducible refine q_lt) | (with_reducible refine q_le) | (with_reducible refine q_gt) | (with_reducible refine q_ge) | (with_reducible refine q_eqI) | (with_reducible refine q_neI) | (with_reducible refine q_eqS) | (with_reducible refine q_neS) | (with_reducible refine q_eqB) | (with_reducible refine q_neB) | (with_reducible refine q_eqNS) | (with_reducible refine q_eqSN) | (with_reducible refine q_eqNN) | (with_reducible refine q_neNS) | (with_reducible refine q_neSN) | (with_reducible refine q_neNN) | (with_reducible refine q_isNN) | (with_reducible refine q_isNS) | (with_reducible refine q_isNI) | (with_reducible refine q_isNL) | (with_reducible refine q_isNT) | (with_reducible refine q_ntNN) | (with_reducible refine q_ntNS) | (with_reducible refine q_ntNI) | (with_reducible refine q_ntNL) | (with_reducible refine q_ntNT) | (with_reducible refine q_isT) | (with_reducible refine q_isF) | (with_reducible refine q_ntT) | (with_reducible refine q_ntF) | (with_reducible refine q_inI) | (with_reducible refine q_niI) | (with_reducible refine q_inC) | (with_reducible refine q_niC) | (with_reducible refine q_lenM) | (with_reducible refine q_lenF) | (with_reducible refine q_lenL) | (with_reducible refine q_lenT) | (with_reducible refine (q_lenS ?_)) | (with_reducible refine q_max) | (with_reducible refine q_min) | (with_reducible refine q_intI) | (with_reducible refine q_intB) | (with_reducible refine q_all) | (with_reducible refine q_any) | (with_reducible refine (q_joinC ?_)) | (with_reducible refine (q_join0 ?_)) | (with_reducible refine (q_joinW ?_)) | (with_reducible refine (q_join ?_)) | (with_reducible refine (q_low1 ?_)) | (with_reducible refine (q_upp1 ?_)) | (with_reducible refine (q_low ?_ ?_)) | (with_reducible refine (q_upp ?_ ?_)) | (with_reducible refine q_find) | (with_reducible refine (q_find2 ?_)) | (with_reducible refine (q_sSd ?_ ?_)) | (with_reducible refine (q_sSt ?_ ?_)) | (with_reducible refine (q_sSb ?_ ?_ ?_)) | (with_reducible refine (q_sS ?_)) | (with_reducible refine (q_revBS ?_)) | (with_reducible refine (q_addM ?_)) | (with_reducible refine (q_addL ?_)) | (with_reducible refine (q_mulL ?_ ?_ ?_)) | (with_reducible refine (q_sMd ?_)) | (with_reducible refine (q_sMt ?_)) | (with_reducible refine (q_sMb ?_ ?_)) | (with_reducible refine q_sM) | (with_reducible refine q_sF) | (with_reducible refine q_sL) | (with_reducible refine (q_listS ?_)) | (with_reducible refine q_listL) | (with_reducible refine q_listT) | (with_reducible refine (q_sort ?_)) | (with_reducible refine q_revM) | (with_reducible refine q_rev) | (with_reducible refine q_revBM) | (with_reducible refine q_revBL) | (with_reducible refine (q_rgL1 ?_)) | (with_reducible refine (q_rgL2 ?_)) | (with_reducible apply q_fld; exact rfl; exact rfl) | (with_reducible apply q_ixT; exact rfl) | (with_reducible apply q_ixL; exact rfl) | (with_reducible refine q_ixM ?_ ?_) | (with_reducible refine q_ixC ?_ ?_ ?_) | ((with_reducible show isD _ _ = some _); exact rfl) | ((with_reducible show isTy _ _ = true); exact rfl) | kln_le); done))
local macro_rules | `(tactic| kat_tups) => `(tactic| first | kct_strs | ((with_reducible show WN _ _); first | ((with_reducible apply wn); (· first | (simp only [DL.st, DL.wipeE, DL.back, DL.upds, DL.gt]; exact rfl) | exact rfl))) | ((with_reducible show WN2 _ _ _); first | ((with_reducible apply wn2); (· first | (simp only [DL.st, DL.wipeE, DL.back, DL.upds, DL.gt]; exact rfl) | exact rfl))) | ((with_reducible show WPS _ _ _ _ _ _); first | ((with_reducible apply ws_seq)) | ((with_reducible apply ws_set)) | ((with_reducible apply ws_setF)) | ((with_reducible apply ws_skip)) | ((with_reducible apply ws_pass)) | ((with_reducible apply ws_brk)) | ((with_reducible apply ws_cnt)) | ((with_reducible apply ws_retN)) | ((with_reducible apply ws_drop)) | ((with_reducible apply ws_ret)) | ((with_reducible apply ws_sti)) | ((with_reducible apply ws_raise)) | ((with_reducible apply ws_tgt)) | ((with_reducible apply ws_parC)) | ((with_reducible apply ws_par)) | ((with_reducible apply ws_for)) | ((with_reducible apply ws_try)) | ((with_reducible apply ws_W)) | ((with_reducible apply ws_P)) | ((with_reducible apply ws_up)) | ((with_reducible apply ws_forG)) | ((with_reducible apply wkplain)) | ((with_reducible apply wh_n)) | ((with_reducible apply ws_ifP (ft := fAnd _ _)); · ke_read) | ((with_reducible apply ws_ifP (ft := fOr _ _)); · ke_read) | ((with_reducible apply ws_if)) | ((with_reducible apply ws_aug); (· exact rfl)) | ((with_reducible apply ws_yield)) | ((with_reducible apply ws_kapp); (· keq_rows); (· exact rfl); (· exact rfl); (· exact rfl)) | ((with_reducible apply wh_t); (· exact rfl)) | ((with_reducible apply wh_f); (· exact rfl)) | ((with_reducible apply wkret); (· keq_rows))) | ((with_reducible show WPE _ _ _); first | ((with_reducible apply we_bin)) | ((with_reducible apply we_Vd); (· exact rfl)) | ((with_reducible apply we_Vs); (· exact rfl)) | ((with_reducible apply we_C)) | ((with_reducible apply we_cons)) | ((with_reducible apply we_nil)) | ((with_reducible apply we_own)) | ((with_reducible apply we_isO)) | ((with_reducible apply we_ins)) | ((with_reducible apply we_isC)) | ((with_reducible apply we_prop)) | ((with_reducible apply we_make)) | ((with_reducible apply we_Y)) | ((with_reducible apply we_cb)) | ((with_reducible apply we_un)) | ((with_reducible apply we_lst)) | ((with_reducible apply we_tup)) | ((with_reducible apply we_tst)) | ((with_reducible apply we_not)) | ((with_reducible apply we_notV)) | ((with_reducible apply we_part)) | ((with_reducible apply we_sl)) | ((with_reducible apply we_mt0)) | ((with_reducible apply we_mt)) | ((with_reducible apply we_is)) | ((with_reducible apply we_itA)) | ((with_reducible apply we_rg1)) | ((with_reducible apply we_rg2)) | ((with_reducible apply we_itE)) | ((with_reducible apply we_itZ)) | ((with_reducible apply we_call)) | ((with_reducible apply we_callK)) | ((with_reducible apply we_lc)) | ((with_reducible apply we_noP)) | ((with_reducible apply we_dic0)) | ((with_reducible apply we_chain)) | ((with_reducible apply we_listG)) | ((with_reducible apply we_orT)) | ((with_reducible apply we_andT)) | ((with_reducible apply we_and)) | ((with_reducible apply we_or)) | ((with_reducible apply we_andV)) | ((with_reducible apply we_orV)) | ((with_reducible apply we_ifE)) | ((with_reducible apply we_mu); (· exact rfl); (· exact rfl)) | ((with_reducible apply we_pop); (· exact rfl)) | ((with_reducible apply we_sett); (· exact rfl)) | ((with_reducible apply we_settL); (· exact rfl))) | ((with_reducible show WR _ _ _); first | (with_reducible refine wr_at q_addI ?_) | (with_reducible refine wr_at (q_addS ?_) ?_) | (with_reducible refine wr_at q_augI ?_) | (with_reducible refine wr_at (q_augS ?_) ?_) | (with_reducible refine wr_at q_sub ?_) | (with_reducible refine wr_at q_neg ?_) | (with_reducible refine wr_at (q_mul ?_) ?_) | (with_reducible refine wr_at (q_mulS ?_ ?_ ?_) ?_) | (with_reducible refine wr_at (q_mod ?_) ?_) | (with_reducible refine wr_at (q_div ?_ ?_) ?_) | (with_reducible refine wr_at (q_pow ?_) ?_) | (with_reducible refine wr_at q_lt ?_) | (with_reducible refine wr_at q_le ?_) | (with_reducible refine wr_at q_gt ?_) | (with_reducible refine wr_at q_ge ?_) | (with_reducible refine wr_at q_eqI ?_) | (with_reducible refine wr_at q_neI ?_) | (with_reducible refine wr_at q_eqS ?_) | (with_reducible refine wr_at q_neS ?_) | (with_reducible refine wr_at q_eqB ?_) | (with_reducible refine wr_at q_neB ?_) | (with_reducible refine wr_at q_eqNS ?_) | (with_reducible refine wr_at q_eqSN ?_) | (with_reducible refine wr_at q_eqNN ?_) | (with_reducible refine wr_at q_neNS ?_) | (with_reducible refine wr_at q_neSN ?_) | (with_reducible refine wr_at q_neNN ?_) | (with_reducible refine wr_at q_isNN ?_) | (with_reducible refine wr_at q_isNS ?_) | (with_reducible refine wr_at q_isNI ?_) | (with_reducible refine wr_at q_isNL ?_) | (with_reducible refine wr_at q_isNT ?_) | (with_reducible refine wr_at q_ntNN ?_) | (with_reducible refine wr_at q_ntNS ?_) | (with_reducible refine wr_at q_ntNI ?_) | (with_reducible refine wr_at q_ntNL ?_) | (with_reducible refine wr_at q_ntNT ?_) | (with_reducible refine wr_at q_isT ?_) | (with_reducible refine wr_at q_isF ?_) | (with_reducible refine wr_at q_ntT ?_) | (with_reducible refine wr_at q_ntF ?_) | (with_reducible refine wr_at q_inI ?_) | (with_reducible refine wr_at q_niI ?_) | (with_reducible refine wr_at q_inC ?_) | (with_reducible refine wr_at q_niC ?_) | (with_reducible refine wr_at q_lenM ?_) | (with_reducible refine wr_at q_lenF ?_) | (with_reducible refine wr_at q_lenL ?_) | (with_reducible refine wr_at q_lenT ?_) | (with_reducible refine wr_at (q_lenS ?_) ?_) | (with_reducible refine wr_at q_max ?_) | (with_reducible refine wr_at q_min ?_) | (with_reducible refine wr_at q_intI ?_) | (with_reducible refine wr_at q_intB ?_) | (with_reducible refine wr_at q_all ?_) | (with_reducible refine wr_at q_any ?_) | (with_reducible refine wr_at (q_joinC ?_) ?_) | (with_reducible refine wr_at (q_join0 ?_) ?_) | (with_reducible refine wr_at (q_joinW ?_) ?_) | (with_reducible refine wr_at (q_join ?_) ?_) | (with_reducible refine wr_at (q_low1 ?_) ?_) | (with_reducible refine wr_at (q_upp1 ?_) ?_) | (with_reducible refine wr_at (q_low ?_ ?_) ?_) | (with_reducible refine wr_at (q_upp ?_ ?_) ?_) | (with_reducible refine wr_at q_find ?_) | (with_reducible refine wr_at (q_find2 ?_) ?_) | (with_reducible refine wr_at (q_sSd ?_ ?_) ?_) | (with_reducible refine wr_at (q_sSt ?_ ?_) ?_) | (with_reducible refine wr_at (q_sSb ?_ ?_ ?_) ?_) | (with_reducible refine wr_at (q_sS ?_) ?_) | (with_reducible refine wr_at (q_revBS ?_) ?_) | (with_reducible refine wr_ls (q_addM ?_) ?_) | (with_reducible refine wr_ls (q_addL ?_) ?_) | (with_reducible refine wr_ls (q_mulL ?_ ?_ ?_) ?_) | (with_reducible refine wr_ls (q_sMd ?_) ?_) | (with_reducible refine wr_ls (q_sMt ?_) ?_) | (with_reducible refine wr_ls (q_sMb ?_ ?_) ?_) | (with_reducible refine wr_ls q_sM ?_) | (with_reducible refine wr_ls q_sF ?_) | (with_reducible refine wr_ls q_sL ?_) | (with_reducible refine wr_ls (q_listS ?_) ?_) | (with_reducible refine wr_ls q_listL ?_) | (with_reducible refine wr_ls q_listT ?_) | (with_reducible refine wr_ls (q_sort ?_) ?_) | (with_reducible refine wr_ls q_revM ?_) | (with_reducible refine wr_ls q_rev ?_) | (with_reducible refine wr_ls q_revBM ?_) | (with_reducible refine wr_ls q_revBL ?_) | (with_reducible refine wr_ls (q_rgL1 ?_) ?_) | (with_reducible refine wr_ls (q_rgL2 ?_) ?_) | ((with_reducible apply wr_ixT); (· exact rfl)) | ((with_reducible apply wr_ixL); (· exact rfl)) | ((with_reducible apply wr_ixS); (· exact rfl)) | (with_reducible refine wr_at (q_ixM ?_ ?_) ?_) | (with_reducible refine wr_at (q_ixC ?_ ?_ ?_) ?_) | ((with_reducible apply wr_minL); (· with_reducible assumption)) | ((with_reducible apply wr_maxL); (· with_reducible assumption)) | ((with_reducible apply wr_index); (· exact rfl)) | ((with_reducible apply wr_repr); (· with_reducible assumption)) | ((with_reducible apply wr_fld); (· exact rfl); (· exact rfl))) | ((with_reducible show WO _ _); first | ((with_reducible apply wo); (· exact rfl)) | ((with_reducible apply wo_up)) | ((with_reducible apply wtru); (· exact rfl); (· exact rfl)) | ((with_reducible apply wtruS); (· exact rfl))) | ((with_reducible show WI _ _ _); first | ((with_reducible apply wi_t)) | ((with_reducible apply wi_f)) | ((with_reducible apply wi_nt)) | ((with_reducible apply wi_nf)) | ((with_reducible apply wi_not)) | (with_reducible refine wi_eqt (by with_reducible assumption) ?_) | (with_reducible refine wi_eqf (by with_reducible assumption) ?_) | (with_reducible refine wi_dect (by first | (with_reducible assumption) | ked_read) ?_) | (with_reducible refine wi_decf (by first | (with_reducible assumption) | ked_read) ?_) | (with_reducible refine wi_dec (fun _ => ?_) (fun _ => ?_)) | (with_reducible refine wi_and (fun _ _ => ?_) (fun _ => ?_)) | (with_reducible refine wi_or (fun _ => ?_) (fun _ _ => ?_)) | (with_reducible refine wi_gen (fun _ => ?_) (fun _ => ?_))) | ((with_reducible apply weq)) | ((with_reducible apply wmu_app); (· exact rfl)) | ((with_reducible apply wmu_ext); (· exact rfl)) | ((with_reducible apply wmu_popM); (· exact rfl)) | ((with_reducible apply wmu_popA); (· exact rfl)) | ((with_reducible apply wsti_L); (· exact rfl)) | ((with_reducible apply wlg); (· exact rfl)) | ((with_reducible apply wce); (· exact rfl)) | ((with_reducible apply wpt)) | ((with_reducible apply wpar); (· exact rfl)) | ((with_reducible apply witE)) | ((with_reducible apply witZ)) | ((with_reducible apply wt); (· exact rfl)) | ((with_reducible apply wret); (· exact rfl)) | ((with_reducible apply wca0); (· exact rfl); (· exact rfl); (· exact rfl)) | ((with_reducible apply wca); (· exact rfl); (· exact rfl); (· exact rfl)) | ((with_reducible apply wck2); (· exact rfl); (· (simp only [DL.permL, List.filterMap_cons, List.filterMap_nil, List.getElem?_cons_zero, List.getElem?_cons_succ]; exact rfl))) | ((with_reducible apply wck); (· exact rfl)) | ((with_reducible apply wrt_d); (· exact rfl)) | ((with_reducible apply wrt_n); (· exact rfl)) | ((with_reducible apply witS); (· exact rfl)) | ((with_reducible apply wit_l); (· exact rfl)) | ((with_reducible apply wit_f); (· exact rfl)) | ((with_reducible apply Exists.intro); (with_reducible apply And.intro); · exact rfl) | ((with_reducible apply Exists.intro); (with_reducible apply Exists.intro); (with_reducible apply And.intro); · exact rfl) | ((with_reducible apply wis); (· exact rfl)) | ((with_reducible apply wmk); (· exact rfl); (· exact rfl)) | ((with_reducible apply wso); (· exact rfl); (· exact rfl); (· exact rfl)) | ((with_reducible apply wmp0)) | ((with_reducible apply wmp1)) | ((with_reducible apply wmp2)) | ((with_reducible apply wmp3)) | ((with_reducible apply wmp4)) | ((with_reducible apply wrg1)) | ((with_reducible apply wrg2)) | ((with_reducible apply And.intro)) | ((with_reducible apply wc_pure); (· kln_le); (· (intro _ _; kp_flats; done))) | ((with_reducible apply wc_rngP); (· kln_le); (· (intro _ _; kp_flats; done))) | ((with_reducible apply wc_filt); (· kln_le); (· (intro _ _; kp_flats; done))) | ((with_reducible apply wc_rngF); (· kln_le); (· (intro _ _; kp_flats; done))) | ((with_reducible show ∀ c, c ∈ _ → WO _ _); intro _ _) | ((with_reducible show ∀ c, c < _ → WO _ _); intro _ _) | ((with_reducible show @Eq (List Sl) _ _); exact rfl) | ((with_reducible show isTy _ _ = true); exact rfl) | kln_le)
local macro_rules | `(tactic| kp_flats) => `(tactic| repeat' kat_tups)
local macro_rules | `(tactic| kqd_all) => `(tactic| first | (with_reducible apply wc_pure) | (with_reducible apply wc_rngP) | (with_reducible apply wc_filt) | (with_reducible apply wc_rngF))
local macro_rules | `(tactic| kct_strs) => `(tactic| fail)
local macro_rules | `(tactic| kct_strs) => `(tactic| (with_reducible apply sp_take))
local macro_rules | `(tactic| kct_strs) => `(tactic| (with_reducible apply sp_pool))
local macro_rules | `(tactic| kct_strs) => `(tactic| (with_reducible apply sp_program2))
local macro_rules | `(tactic| kct_strs) => `(tactic| (with_reducible apply sp_of))
local macro_rules | `(tactic| kct_strs) => `(tactic| (with_reducible apply sp_takes))
local macro_rules | `(tactic| kct_strs) => `(tactic| (with_reducible apply sp_words))
local macro_rules | `(tactic| kct_strs) => `(tactic| (with_reducible apply sp_best'))
local macro_rules | `(tactic| kct_strs) => `(tactic| (with_reducible apply sp_Eeq))
local macro_rules | `(tactic| kct_strs) => `(tactic| (with_reducible apply sp_equiv))
theorem two_prg {p : List Nat} (h : Two p) : Prg p := fun c hc => by
  have key : ∀ c ∈ [97, 65, 98, 66], c ∈ moves := by decide
  exact key c (h c hc)
theorem two_app {p q : List Nat} (h : Two p) (h2 : Two q) : Two (p ++ q) := fun c hc => (List.mem_append.mp hc).elim (h c) (h2 c)
theorem two_sub {p q : List Nat} (h : Two p) (hs : ∀ c ∈ q, c ∈ p) : Two q := fun c hc => h c (hs c hc)
abbrev abc : List Nat := [97, 98, 99]
abbrev WW : D := .lst ((upto abc (Int.toNat 6)).map D.str)
theorem q_neX' {x y : D} (hx : okD 60 x = true) (hy : okD 60 y = true) : oEq not x y = some (.at (.bl (!eqD x y))) := q_eqX hx hy
theorem mv2 : moves.take ((2 : Int) * 2).toNat = [97, 65, 98, 66] := by decide
theorem optD_eq {a b : Option (List Nat)} (h : eqD (optD a) (optD b) = true) : a = b := by
  cases a with
  | none => cases b with
    | none => rfl
    | some v => simp only [optD, eqD] at h; cases h
  | some u => cases b with
    | none => simp only [optD, eqD] at h; cases h
    | some v => simp only [optD, eqD, beq_iff_eq] at h; rw [h]
abbrev due (p q : List Nat) : List (List Nat) := ((upto abc (Int.toNat 6)).filter fun w => decide ((w.length : Int) ≤ 1 + min ((tkn p).length : Int) ((tkn q).length : Int))).filter fun w => !eqD (optD (bst p w)) (optD (bst q w))
theorem due_eq {p q : List Nat} {r s : Nat} (tp : Two p) (tq : Two q) (l5 : p.length ≤ 5) (lp : least (sucP p) r) (lq : least (sucP q) s) (hr : r ≤ (tkn p).length) (hs : s ≤ (tkn q).length) (hok : ∀ w ∈ upto abc (Int.toNat 6), okD 60 (optD (bst q w)) = true) : (due p q).isEmpty = eqD (trp p r) (trp q s) := by
  cases h : eqD (trp p r) (trp q s) with
  | true =>
    obtain ⟨h1, h2, rfl⟩ := trp_iff.mp h
    refine List.isEmpty_iff.mpr (List.filter_eq_nil_iff.mpr fun w hw => ?_)
    rw [bst_same h1 h2 lp lq w, eqD_refl 60 _ (hok w (List.mem_filter.mp hw).1)]
    decide
  | false =>
    obtain ⟨w, h1, h2, h3⟩ := sep tp tq lp lq hr hs (fun z => by rw [trp_iff.mpr z] at h; cases h)
    have lt := tkn_len p
    have hw : w ∈ due p q := by
      refine List.mem_filter.mpr ⟨List.mem_filter.mpr ⟨upto_mem.mpr ⟨?_, h1⟩, decide_eq_true (by omega)⟩, ?_⟩
      · show w.length ≤ 6
        omega
      · cases z : eqD (optD (bst p w)) (optD (bst q w)) with
        | true => exact absurd (optD_eq z) h3
        | false => rfl
    refine Bool.eq_false_iff.mpr fun z => ?_
    rw [List.isEmpty_iff.mp z] at hw
    cases hw
theorem eq_nilS (l : List (List Nat)) : eqD (.lst (l.map D.str)) (.lst []) = l.isEmpty := by
  cases l with
  | nil => simp only [List.map_nil, eqD, eqDL, List.isEmpty_nil]
  | cons c r => simp only [List.map_cons, eqD, eqDL, List.isEmpty_cons]
theorem law_ok : LawOk 63 m_law := by
  intro ns hn
  have key : ∀ Q : PV → DL.Env → Prop, (∀ s', Q (.d (.bl true)) s') → WPE (m_law [.va (.fro (ns.map D.int))]) Q XF := by
    intro Q kQ
    refine w_law ?_
    unfold b_law
    kp_flats
    refine wl_rng (fun k e => ∃ s1, (s1 = .ce false WW ∨ s1 = .va WW) ∧ e = [.va (.fro (ns.map D.int)), s1, .un, .un, .un, .un, .un, .un, .un, .un, .un]) ⟨_, .inl rfl, rfl⟩ ?_ ?_
    · rintro k e hk ⟨s1, hs1, rfl⟩
      iterate 3 kat_tups
      rw [← fSeq_assoc, ← fSeq_assoc, ← fSeq_assoc, ← fSeq_assoc]
      refine ws_cut (fun e => ∃ x y p q s1 d5, PoolOk x y ∧ Two p ∧ Two q ∧ p.length ≤ 5 ∧ q.length ≤ 5 ∧ (s1 = .ce false WW ∨ s1 = .va WW) ∧ e = [.va (.fro (ns.map D.int)), s1, .va (.int (0 + (k : Int))), poolF x y, .va (.str p), .va (.int d5), .va (.str q), .un, .un, .un, .un]) ?_ ?_
      · rcases hs1 with rfl | rfl
        all_goals
          kp_flats
          intro x y hp
          kp_flats
          intro x1 y1 p hp1 hl hq
          kp_flats
          intro d x2 y2 hp2 d0 d1
          have tp : Two p := fun c hc => by rw [← mv2]; exact hq c hc
          kp_flats
          intro d' x3 y3 hp3 e0 e1
          kp_flats
          · intro x4 y4 q hp4 hl2 hq2
            kp_flats
            exact ⟨x4, y4, p, q, _, d, hp4, tp, fun c hc => by rw [← mv2]; exact hq2 c hc, by omega, by omega, by first | exact .inl rfl | exact .inr rfl, rfl⟩
          · refine ⟨x3, y3, p, _, _, d, hp3, tp, ?_, by omega, ?_, by first | exact .inl rfl | exact .inr rfl, rfl⟩
            · refine two_app (two_app (two_sub tp fun c hc => List.mem_of_mem_take hc) (two_sub tp fun c hc => ?_)) (two_sub tp fun c hc => List.mem_of_mem_drop hc)
              exact List.mem_of_mem_take (List.mem_of_mem_drop (List.mem_reverse.mp hc))
            · simp only [List.length_append, List.length_reverse, List.length_take, List.length_drop]; omega
      · rintro e ⟨x, y, p, q, s1, d5, hp, tp, tq, lp, lq, hs1, rfl⟩
        have pp := two_prg tp
        have pq := two_prg tq
        have lt1 := tkn_len p
        have lt2 := tkn_len q
        have h6 : (upto abc (Int.toNat 6)).length ≤ LIM := Nat.le_trans (upto_le (by decide) (by decide)) (by decide)
        have hI : ∀ w ∈ upto abc (Int.toNat 6), ∀ c ∈ w, isI c = true := fun w hw c hc => by
          have key : ∀ c ∈ abc, isI c = true := by decide
          exact key c ((upto_mem.mp hw).2 c hc)
        have hok : ∀ {t : List Nat → Bool} (p w : List Nat), Prg p → w ∈ (upto abc (Int.toNat 6)).filter t → okD 60 (optD (bst p w)) = true := fun p w hp hw => by
          cases hb : bst p w with
          | none => simp only [optD, okD]
          | some u => exact wrd_ok (bst_wrd (hI w (List.mem_filter.mp hw).1) hb)
        have hok2 : ∀ (p w : List Nat), Prg p → w ∈ upto abc (Int.toNat 6) → okD 60 (optD (bst p w)) = true := fun p w hp hw => by
          cases hb : bst p w with
          | none => simp only [optD, okD]
          | some u => exact wrd_ok (bst_wrd (hI w hw) hb)
        rcases hs1 with rfl | rfl
        all_goals
          kp_flats
          intro r hr hs
          kp_flats
          intro r2 hr2 hs2
          kp_flats
          try simp only [DL.st]
          refine wc_filt (f := D.str) (h := D.str) (l := upto abc (Int.toNat 6)) (t := fun w => decide ((w.length : Int) ≤ 1 + min ((tkn p).length : Int) ((tkn q).length : Int))) h6 ?_ ?_
          · intro w hw
            have := (upto_mem.mp hw).1
            kp_flats
          · kp_flats
            refine wc_filt (f := D.str) (h := D.str) (t := fun w => !eqD (optD (bst p w)) (optD (bst q w))) (Nat.le_trans (List.length_filter_le _ _) h6) ?_ ?_
            · intro w hw
              have hw2 := (upto_mem.mp (List.mem_filter.mp hw).1).1
              kp_flats
              refine wr_at (q_neX' (hok p w pp hw) (hok q w pq hw)) ?_
              kp_flats
            · kp_flats
              have hdue := due_eq tp tq lp hs hs2 hr hr2 fun w hw => hok2 q w pq hw
              have okl : okD 60 (.lst ((due p q).map D.str)) = true := by
                simp only [okD]
                refine okDL_map fun w hw => wrd_ok (hI w (List.mem_filter.mp (List.mem_filter.mp hw).1).1)
              refine wr_at (q_eqXi okl (by simp only [okD, okDL])) ?_
              rw [eq_nilS, hdue]
              obtain ⟨B, hB⟩ : ∃ B, eqD (trp p r) (trp q r2) = B := ⟨_, rfl⟩
              rw [hB]
              obtain ⟨z, hz⟩ := shown_bl B
              kp_flats
              intro r3 _ hs3
              obtain rfl := least_uniq hs hs3
              kp_flats
              intro r4 _ hs4
              obtain rfl := least_uniq hs2 hs4
              kp_flats
              rotate_left
              · rename_i hx
                rw [hB] at hx
                cases B <;> exact absurd hx (by decide)
              intro r5 r6 hs5 hs6
              obtain rfl := least_uniq hs hs5
              obtain rfl := least_uniq hs2 hs6
              rw [hB]
              kp_flats
              all_goals first | exact ⟨_, .inl rfl, rfl⟩ | exact ⟨_, .inr rfl, rfl⟩
    · rintro e ⟨s1, hs1, rfl⟩
      have q1 : Prg [97, 65] := prg_dec (by decide)
      have q2 : Prg [] := prg_dec (by decide)
      have q3 : Prg [97, 65, 65] := prg_dec (by decide)
      have q4 : Prg [65, 97, 65] := prg_dec (by decide)
      kp_flats
      intro r s _ _
      rw [show eqD (trp [97, 65] r) (trp [] s) = false from by
        cases h : eqD (trp [97, 65] r) (trp [] s) with
        | false => rfl
        | true => exact absurd (trp_iff.mp h).1 (by decide)]
      kp_flats
      intro r s h1 h2
      have l1 : least (sucP [65, 97, 65]) 1 := ⟨by decide, fun t ht => by obtain rfl : t = 0 := by omega
                                                                          decide⟩
      have l2 : least (sucP [97, 65, 65]) 1 := ⟨by decide, fun t ht => by obtain rfl : t = 0 := by omega
                                                                          decide⟩
      obtain rfl := least_uniq h1 l1
      obtain rfl := least_uniq h2 l2
      rw [trp_iff.mpr ⟨by decide, by decide, rfl⟩]
      kp_flats
      exact kQ _
  obtain ⟨pv, s', h1, rfl⟩ := (key (fun pv s' => pv = .d (.bl true)) fun _ => rfl).eq
  exact ⟨s', h1⟩
end K24
set_option Elab.async false
set_option linter.all false
set_option maxRecDepth 100000
set_option maxHeartbeats 4000000
namespace K24
open PySem PySem.Spec PyProof.Rows L2 DL
def topS (i : Nat) : Stmt := PySem.Challenge.pw_leakyqueue_k24_whole_three_values_decide.main.body.getD i (.Pass ⟨0, 0, 0, 0⟩)
def clsB : Stmt → List Stmt
  | .ClassDef _ _ _ b _ _ _ _ _ _ _ => b
  | _ => []
abbrev s_law_words : Stmt := topS 35
abbrev s_law_pool : Stmt := topS 31
abbrev s_law_take : Stmt := topS 32
abbrev s_law_program : Stmt := topS 33
abbrev s_Effect_eq : Stmt := (clsB (topS 27)).getD 12 (.Pass ⟨0, 0, 0, 0⟩)
abbrev s_is_program : Stmt := topS 17
abbrev s_require_program : Stmt := topS 18
abbrev s_taken : Stmt := topS 19
abbrev s_put_items : Stmt := topS 20
abbrev s_places : Stmt := topS 13
abbrev s_succeeds_from : Stmt := topS 23
abbrev s_core_of : Stmt := topS 24
abbrev s_counts : Stmt := topS 21
abbrev s_triple : Stmt := topS 25
abbrev s_equivalent : Stmt := topS 29
abbrev s_Effect_takes : Stmt := (clsB (topS 27)).getD 2 (.Pass ⟨0, 0, 0, 0⟩)
abbrev s_is_word : Stmt := topS 11
abbrev s_require_word : Stmt := topS 12
abbrev s_is_integer : Stmt := topS 10
abbrev s_is_within : Stmt := topS 14
abbrev s_Effect_is_core : Stmt := (clsB (topS 27)).getD 6 (.Pass ⟨0, 0, 0, 0⟩)
abbrev s_Effect_init : Stmt := (clsB (topS 27)).getD 1 (.Pass ⟨0, 0, 0, 0⟩)
abbrev s_Effect_of : Stmt := (clsB (topS 27)).getD 7 (.Pass ⟨0, 0, 0, 0⟩)
abbrev s_law_best : Stmt := topS 34
abbrev s_law : Stmt := topS 36
abbrev s_InvalidWord_init : Stmt := (clsB (topS 3)).getD 0 (.Pass ⟨0, 0, 0, 0⟩)
abbrev s_InvalidProgram_init : Stmt := (clsB (topS 4)).getD 0 (.Pass ⟨0, 0, 0, 0⟩)
abbrev s_InvalidCore_init : Stmt := (clsB (topS 5)).getD 0 (.Pass ⟨0, 0, 0, 0⟩)
abbrev s_LimitExceeded_init : Stmt := (clsB (topS 6)).getD 0 (.Pass ⟨0, 0, 0, 0⟩)
theorem sc_law_words : FnScope ["_law_letters", "_law_most", "_law_found", "_law_last", "_law_turn", "_law_longer", "_law_word", "_law_item"] ["_law_letters", "_law_most"] (defScope s_law_words) := ⟨rfl, rfl, rfl, by decide +kernel, rfl, by decide +kernel, by decide +kernel⟩
theorem sc_law_pool : FnScope ["_law_script", "_law_k", "_law_cell", "_law_number", "_law_mixed"] ["_law_script", "_law_k"] (defScope s_law_pool) := ⟨rfl, rfl, rfl, by decide +kernel, rfl, by decide +kernel, by decide +kernel⟩
theorem sc_law_take : FnScope ["_law_pool_here", "_law_many", "_law_digit"] ["_law_pool_here", "_law_many"] (defScope s_law_take) := ⟨rfl, rfl, rfl, by decide +kernel, rfl, by decide +kernel, by decide +kernel⟩
theorem sc_law_program : FnScope ["_law_pool_here", "_law_most", "_law_letters", "_law_moves", "_law_turn"] ["_law_pool_here", "_law_most", "_law_letters"] (defScope s_law_program) := ⟨rfl, rfl, rfl, by decide +kernel, rfl, by decide +kernel, by decide +kernel⟩
theorem sc_Effect_eq : FnScope ["self", "other"] ["self", "other"] (defScope s_Effect_eq) := ⟨rfl, rfl, rfl, by decide +kernel, rfl, by decide +kernel, by decide +kernel⟩
theorem sc_is_program : FnScope ["value", "step"] ["value"] (defScope s_is_program) := ⟨rfl, rfl, rfl, by decide +kernel, rfl, by decide +kernel, by decide +kernel⟩
theorem sc_require_program : FnScope ["value"] ["value"] (defScope s_require_program) := ⟨rfl, rfl, rfl, by decide +kernel, rfl, by decide +kernel, by decide +kernel⟩
theorem sc_taken : FnScope ["program", "step"] ["program"] (defScope s_taken) := ⟨rfl, rfl, rfl, by decide +kernel, rfl, by decide +kernel, by decide +kernel⟩
theorem sc_put_items : FnScope ["program", "step"] ["program"] (defScope s_put_items) := ⟨rfl, rfl, rfl, by decide +kernel, rfl, by decide +kernel, by decide +kernel⟩
theorem sc_places : GScope ["part", "word", "start", "item", "place"] ["part", "word"] (defScope s_places) := ⟨rfl, rfl, rfl, by decide +kernel, rfl, by decide +kernel, by decide +kernel⟩
theorem sc_succeeds_from : FnScope ["takes", "puts", "numbers", "start", "found", "place", "number"] ["takes", "puts", "numbers", "start"] (defScope s_succeeds_from) := ⟨rfl, rfl, rfl, by decide +kernel, rfl, by decide +kernel, by decide +kernel⟩
theorem sc_core_of : FnScope ["takes", "puts", "numbers", "low", "high", "middle"] ["takes", "puts", "numbers"] (defScope s_core_of) := ⟨rfl, rfl, rfl, by decide +kernel, rfl, by decide +kernel, by decide +kernel⟩
theorem sc_counts : FnScope ["program", "found", "number", "step"] ["program"] (defScope s_counts) := ⟨rfl, rfl, rfl, by decide +kernel, rfl, by decide +kernel, by decide +kernel⟩
theorem sc_triple : FnScope ["program", "takes", "puts"] ["program"] (defScope s_triple) := ⟨rfl, rfl, rfl, by decide +kernel, rfl, by decide +kernel, by decide +kernel⟩
theorem sc_equivalent : FnScope ["first", "second"] ["first", "second"] (defScope s_equivalent) := ⟨rfl, rfl, rfl, by decide +kernel, rfl, by decide +kernel, by decide +kernel⟩
theorem sc_Effect_takes : FnScope ["self"] ["self"] (defScope s_Effect_takes) := ⟨rfl, rfl, rfl, by decide +kernel, rfl, by decide +kernel, by decide +kernel⟩
theorem sc_is_word : FnScope ["value", "item"] ["value"] (defScope s_is_word) := ⟨rfl, rfl, rfl, by decide +kernel, rfl, by decide +kernel, by decide +kernel⟩
theorem sc_require_word : FnScope ["value"] ["value"] (defScope s_require_word) := ⟨rfl, rfl, rfl, by decide +kernel, rfl, by decide +kernel, by decide +kernel⟩
theorem sc_is_integer : FnScope ["value"] ["value"] (defScope s_is_integer) := ⟨rfl, rfl, rfl, by decide +kernel, rfl, by decide +kernel, by decide +kernel⟩
theorem sc_is_within : FnScope ["part", "word"] ["part", "word"] (defScope s_is_within) := ⟨rfl, rfl, rfl, by decide +kernel, rfl, by decide +kernel, by decide +kernel⟩
theorem sc_Effect_is_core : FnScope ["takes", "puts", "core"] ["takes", "puts", "core"] (defScope s_Effect_is_core) := ⟨rfl, rfl, rfl, by decide +kernel, rfl, by decide +kernel, by decide +kernel⟩
theorem sc_Effect_init : FnScope ["self", "takes", "puts", "core"] ["self", "takes", "puts", "core"] (defScope s_Effect_init) := ⟨rfl, rfl, rfl, by decide +kernel, rfl, by decide +kernel, by decide +kernel⟩
theorem sc_Effect_of : FnScope ["cls", "program", "takes", "puts", "core"] ["cls", "program"] (defScope s_Effect_of) := ⟨rfl, rfl, rfl, by decide +kernel, rfl, by decide +kernel, by decide +kernel⟩
theorem sc_law_best : FnScope ["_law_moves", "_law_word", "_law_step"] ["_law_moves", "_law_word"] (defScope s_law_best) := ⟨rfl, rfl, rfl, by decide +kernel, rfl, by decide +kernel, by decide +kernel⟩
theorem sc_law : FnScope ["_law_script", "_law_words_here", "_law_k", "_law_pool_here", "_law_former", "_law_spot", "_law_latter", "_law_size", "_law_some", "_law_due", "_law_word"] ["_law_script"] (defScope s_law) := ⟨rfl, rfl, rfl, by decide +kernel, rfl, by decide +kernel, by decide +kernel⟩
theorem sci_InvalidWord : FnScope ["self", "value"] ["self", "value"] (defScope s_InvalidWord_init) := ⟨rfl, rfl, rfl, by decide +kernel, rfl, by decide +kernel, by decide +kernel⟩
theorem sci_InvalidProgram : FnScope ["self", "value"] ["self", "value"] (defScope s_InvalidProgram_init) := ⟨rfl, rfl, rfl, by decide +kernel, rfl, by decide +kernel, by decide +kernel⟩
theorem sci_InvalidCore : FnScope ["self", "value"] ["self", "value"] (defScope s_InvalidCore_init) := ⟨rfl, rfl, rfl, by decide +kernel, rfl, by decide +kernel, by decide +kernel⟩
theorem sci_LimitExceeded : FnScope ["self", "limit"] ["self", "limit"] (defScope s_LimitExceeded_init) := ⟨rfl, rfl, rfl, by decide +kernel, rfl, by decide +kernel, by decide +kernel⟩
structure Txt (K : PySem.W.Frag) (mg : Str → Option Value) where
  z_all : mg "all" = none
  z_bool : mg "bool" = none
  z_int : mg "int" = none
  z_isinstance : mg "isinstance" = none
  z_len : mg "len" = none
  z_list : mg "list" = none
  z_max : mg "max" = none
  z_min : mg "min" = none
  z_range : mg "range" = none
  z_repr : mg "repr" = none
  z_str : mg "str" = none
  z_zip : mg "zip" = none
  z_OverflowError : mg "OverflowError" = none
  tk_ITEMS : Tok
  g_ITEMS : mg "ITEMS" = some (.str "abcdefgh" tk_ITEMS)
  tk_MAX_ITEMS : Tok
  g_MAX_ITEMS : mg "MAX_ITEMS" = some (.int 400 tk_MAX_ITEMS)
  tk_MAX_STEPS : Tok
  g_MAX_STEPS : mg "MAX_STEPS" = some (.int 400 tk_MAX_STEPS)
  a_LeakError : Addr
  g_LeakError : mg "LeakError" = some (.ref a_LeakError)
  a_InvalidWord : Addr
  g_InvalidWord : mg "InvalidWord" = some (.ref a_InvalidWord)
  a_InvalidProgram : Addr
  g_InvalidProgram : mg "InvalidProgram" = some (.ref a_InvalidProgram)
  a_InvalidCore : Addr
  g_InvalidCore : mg "InvalidCore" = some (.ref a_InvalidCore)
  a_LimitExceeded : Addr
  g_LimitExceeded : mg "LimitExceeded" = some (.ref a_LimitExceeded)
  a_Effect : Addr
  g_Effect : mg "Effect" = some (.ref a_Effect)
  x_InvalidWord : XCls K a_InvalidWord "ValueError" "ValueError.__new__" "ValueError.__init__" tl_value
  no_InvalidWord : PySem.W.findIn K (.ref a_InvalidWord) "value" = some none
  ai_InvalidWord : Addr
  fi_InvalidWord : FuncData
  i_InvalidWord : PySem.W.findIn K (.ref a_InvalidWord) "__init__" = some (some (.ref ai_InvalidWord))
  j_InvalidWord : PySem.W.typeIn K (.ref ai_InvalidWord) = some (.type "function")
  F_InvalidWord : Fun K "__init__" "InvalidWord.__init__" s_InvalidWord_init ai_InvalidWord fi_InvalidWord
  xf_InvalidWord : XfC K a_InvalidWord
  xi_InvalidWord : XIs K a_InvalidWord
  how_InvalidWord : PySem.W.specialIn K (.ref a_LeakError) "__getattribute__" = some (some (.builtin "type.__getattribute__")) ∧ PySem.W.readsIn K a_LeakError (.type "type") = true ∧ PySem.W.findCls K (.ref a_LeakError) (.type "type") "__init__" = some (.val (.builtin "ValueError.__init__"))
  x_InvalidProgram : XCls K a_InvalidProgram "ValueError" "ValueError.__new__" "ValueError.__init__" tl_value
  no_InvalidProgram : PySem.W.findIn K (.ref a_InvalidProgram) "value" = some none
  ai_InvalidProgram : Addr
  fi_InvalidProgram : FuncData
  i_InvalidProgram : PySem.W.findIn K (.ref a_InvalidProgram) "__init__" = some (some (.ref ai_InvalidProgram))
  j_InvalidProgram : PySem.W.typeIn K (.ref ai_InvalidProgram) = some (.type "function")
  F_InvalidProgram : Fun K "__init__" "InvalidProgram.__init__" s_InvalidProgram_init ai_InvalidProgram fi_InvalidProgram
  xf_InvalidProgram : XfC K a_InvalidProgram
  xi_InvalidProgram : XIs K a_InvalidProgram
  how_InvalidProgram : PySem.W.specialIn K (.ref a_LeakError) "__getattribute__" = some (some (.builtin "type.__getattribute__")) ∧ PySem.W.readsIn K a_LeakError (.type "type") = true ∧ PySem.W.findCls K (.ref a_LeakError) (.type "type") "__init__" = some (.val (.builtin "ValueError.__init__"))
  x_InvalidCore : XCls K a_InvalidCore "ValueError" "ValueError.__new__" "ValueError.__init__" tl_value
  no_InvalidCore : PySem.W.findIn K (.ref a_InvalidCore) "value" = some none
  ai_InvalidCore : Addr
  fi_InvalidCore : FuncData
  i_InvalidCore : PySem.W.findIn K (.ref a_InvalidCore) "__init__" = some (some (.ref ai_InvalidCore))
  j_InvalidCore : PySem.W.typeIn K (.ref ai_InvalidCore) = some (.type "function")
  F_InvalidCore : Fun K "__init__" "InvalidCore.__init__" s_InvalidCore_init ai_InvalidCore fi_InvalidCore
  xf_InvalidCore : XfC K a_InvalidCore
  xi_InvalidCore : XIs K a_InvalidCore
  how_InvalidCore : PySem.W.specialIn K (.ref a_LeakError) "__getattribute__" = some (some (.builtin "type.__getattribute__")) ∧ PySem.W.readsIn K a_LeakError (.type "type") = true ∧ PySem.W.findCls K (.ref a_LeakError) (.type "type") "__init__" = some (.val (.builtin "ValueError.__init__"))
  x_LimitExceeded : XCls K a_LimitExceeded "OverflowError" "OverflowError.__new__" "OverflowError.__init__" tl_overflow
  no_LimitExceeded : PySem.W.findIn K (.ref a_LimitExceeded) "limit" = some none
  ai_LimitExceeded : Addr
  fi_LimitExceeded : FuncData
  i_LimitExceeded : PySem.W.findIn K (.ref a_LimitExceeded) "__init__" = some (some (.ref ai_LimitExceeded))
  j_LimitExceeded : PySem.W.typeIn K (.ref ai_LimitExceeded) = some (.type "function")
  F_LimitExceeded : Fun K "__init__" "LimitExceeded.__init__" s_LimitExceeded_init ai_LimitExceeded fi_LimitExceeded
  xf_LimitExceeded : XfC K a_LimitExceeded
  xi_LimitExceeded : XIs K a_LimitExceeded
  how_LimitExceeded : PySem.W.findCls K (.type "OverflowError") (.type "type") "__init__" = some (.val (.builtin "OverflowError.__init__"))
  a_law_words : Addr
  fd_law_words : FuncData
  g_law_words : mg "_law_words" = some (.ref a_law_words)
  k_law_words : PySem.W.keepIn K (.ref a_law_words) = true
  F_law_words : Fun K "_law_words" "_law_words" s_law_words a_law_words fd_law_words
  a_law_pool : Addr
  fd_law_pool : FuncData
  g_law_pool : mg "_law_pool" = some (.ref a_law_pool)
  k_law_pool : PySem.W.keepIn K (.ref a_law_pool) = true
  F_law_pool : Fun K "_law_pool" "_law_pool" s_law_pool a_law_pool fd_law_pool
  a_law_take : Addr
  fd_law_take : FuncData
  g_law_take : mg "_law_take" = some (.ref a_law_take)
  k_law_take : PySem.W.keepIn K (.ref a_law_take) = true
  F_law_take : Fun K "_law_take" "_law_take" s_law_take a_law_take fd_law_take
  a_law_program : Addr
  fd_law_program : FuncData
  g_law_program : mg "_law_program" = some (.ref a_law_program)
  k_law_program : PySem.W.keepIn K (.ref a_law_program) = true
  F_law_program : Fun K "_law_program" "_law_program" s_law_program a_law_program fd_law_program
  a_Effect_eq : Addr
  fd_Effect_eq : FuncData
  k_Effect_eq : PySem.W.keepIn K (.ref a_Effect_eq) = true
  F_Effect_eq : Fun K "__eq__" "Effect.__eq__" s_Effect_eq a_Effect_eq fd_Effect_eq
  a_is_program : Addr
  fd_is_program : FuncData
  g_is_program : mg "is_program" = some (.ref a_is_program)
  k_is_program : PySem.W.keepIn K (.ref a_is_program) = true
  F_is_program : Fun K "is_program" "is_program" s_is_program a_is_program fd_is_program
  a_require_program : Addr
  fd_require_program : FuncData
  g_require_program : mg "require_program" = some (.ref a_require_program)
  k_require_program : PySem.W.keepIn K (.ref a_require_program) = true
  F_require_program : Fun K "require_program" "require_program" s_require_program a_require_program fd_require_program
  a_taken : Addr
  fd_taken : FuncData
  g_taken : mg "taken" = some (.ref a_taken)
  k_taken : PySem.W.keepIn K (.ref a_taken) = true
  F_taken : Fun K "taken" "taken" s_taken a_taken fd_taken
  a_put_items : Addr
  fd_put_items : FuncData
  g_put_items : mg "put_items" = some (.ref a_put_items)
  k_put_items : PySem.W.keepIn K (.ref a_put_items) = true
  F_put_items : Fun K "put_items" "put_items" s_put_items a_put_items fd_put_items
  a_places : Addr
  fd_places : FuncData
  g_places : mg "places" = some (.ref a_places)
  k_places : PySem.W.keepIn K (.ref a_places) = true
  F_places : Fun K "places" "places" s_places a_places fd_places
  a_succeeds_from : Addr
  fd_succeeds_from : FuncData
  g_succeeds_from : mg "succeeds_from" = some (.ref a_succeeds_from)
  k_succeeds_from : PySem.W.keepIn K (.ref a_succeeds_from) = true
  F_succeeds_from : Fun K "succeeds_from" "succeeds_from" s_succeeds_from a_succeeds_from fd_succeeds_from
  a_core_of : Addr
  fd_core_of : FuncData
  g_core_of : mg "core_of" = some (.ref a_core_of)
  k_core_of : PySem.W.keepIn K (.ref a_core_of) = true
  F_core_of : Fun K "core_of" "core_of" s_core_of a_core_of fd_core_of
  a_counts : Addr
  fd_counts : FuncData
  g_counts : mg "counts" = some (.ref a_counts)
  k_counts : PySem.W.keepIn K (.ref a_counts) = true
  F_counts : Fun K "counts" "counts" s_counts a_counts fd_counts
  a_triple : Addr
  fd_triple : FuncData
  g_triple : mg "triple" = some (.ref a_triple)
  k_triple : PySem.W.keepIn K (.ref a_triple) = true
  F_triple : Fun K "triple" "triple" s_triple a_triple fd_triple
  a_equivalent : Addr
  fd_equivalent : FuncData
  g_equivalent : mg "equivalent" = some (.ref a_equivalent)
  k_equivalent : PySem.W.keepIn K (.ref a_equivalent) = true
  F_equivalent : Fun K "equivalent" "equivalent" s_equivalent a_equivalent fd_equivalent
  a_Effect_takes : Addr
  fd_Effect_takes : FuncData
  k_Effect_takes : PySem.W.keepIn K (.ref a_Effect_takes) = true
  F_Effect_takes : Fun K "takes" "Effect.takes" s_Effect_takes a_Effect_takes fd_Effect_takes
  a_is_word : Addr
  fd_is_word : FuncData
  g_is_word : mg "is_word" = some (.ref a_is_word)
  k_is_word : PySem.W.keepIn K (.ref a_is_word) = true
  F_is_word : Fun K "is_word" "is_word" s_is_word a_is_word fd_is_word
  a_require_word : Addr
  fd_require_word : FuncData
  g_require_word : mg "require_word" = some (.ref a_require_word)
  k_require_word : PySem.W.keepIn K (.ref a_require_word) = true
  F_require_word : Fun K "require_word" "require_word" s_require_word a_require_word fd_require_word
  a_is_integer : Addr
  fd_is_integer : FuncData
  g_is_integer : mg "is_integer" = some (.ref a_is_integer)
  k_is_integer : PySem.W.keepIn K (.ref a_is_integer) = true
  F_is_integer : Fun K "is_integer" "is_integer" s_is_integer a_is_integer fd_is_integer
  a_is_within : Addr
  fd_is_within : FuncData
  g_is_within : mg "is_within" = some (.ref a_is_within)
  k_is_within : PySem.W.keepIn K (.ref a_is_within) = true
  F_is_within : Fun K "is_within" "is_within" s_is_within a_is_within fd_is_within
  a_Effect_is_core : Addr
  fd_Effect_is_core : FuncData
  k_Effect_is_core : PySem.W.keepIn K (.ref a_Effect_is_core) = true
  F_Effect_is_core : Fun K "is_core" "Effect.is_core" s_Effect_is_core a_Effect_is_core fd_Effect_is_core
  a_Effect_init : Addr
  fd_Effect_init : FuncData
  k_Effect_init : PySem.W.keepIn K (.ref a_Effect_init) = true
  F_Effect_init : Fun K "__init__" "Effect.__init__" s_Effect_init a_Effect_init fd_Effect_init
  a_Effect_of : Addr
  fd_Effect_of : FuncData
  k_Effect_of : PySem.W.keepIn K (.ref a_Effect_of) = true
  F_Effect_of : Fun K "of" "Effect.of" s_Effect_of a_Effect_of fd_Effect_of
  a_law_best : Addr
  fd_law_best : FuncData
  g_law_best : mg "_law_best" = some (.ref a_law_best)
  k_law_best : PySem.W.keepIn K (.ref a_law_best) = true
  F_law_best : Fun K "_law_best" "_law_best" s_law_best a_law_best fd_law_best
  a_law : Addr
  fd_law : FuncData
  g_law : mg "law" = some (.ref a_law)
  k_law : PySem.W.keepIn K (.ref a_law) = true
  F_law : Fun K "law" "law" s_law a_law fd_law
  is_Effect_Effect : PySem.W.kitOne K (.ref a_Effect) (.ref a_Effect) = some true
  im_Effect : PySem.W.findIn K (.ref a_Effect) "__class__" = some (some (.builtin "object.__class__")) ∧ PySem.W.specialIn K (.builtin "object.__class__") "__get__" = some (some (.builtin "getset_descriptor.__get__")) ∧ PySem.W.takesIn K (.builtin "object.__class__") = some true ∧ PySem.W.mroIn K a_Effect (.type "object") = some true
  co_Effect : Cls K a_Effect
  cr_Effect : ClX.CRead K a_Effect (.type "type")
  no_Effect_own_takes : NoAttr K a_Effect "own_takes"
  no_Effect_own_puts : NoAttr K a_Effect "own_puts"
  no_Effect_own_core : NoAttr K a_Effect "own_core"
  tkc_Effect_MAX_ITEMS : Tok
  cv_Effect_MAX_ITEMS : ClX.CVal K a_Effect (.type "type") "MAX_ITEMS" (.int 400) (.int 400 tkc_Effect_MAX_ITEMS)
  mk_Effect : Mk K a_Effect a_Effect_init
  q_Effect_takes : Addr
  pr_Effect_takes : PropOf K a_Effect "takes" q_Effect_takes a_Effect_takes
  q_Effect_is_core : Addr
  st_Effect_is_core : CSta K a_Effect (.type "type") "is_core" q_Effect_is_core a_Effect_is_core
  q_Effect_of : Addr
  cm_Effect_of : ClX.CMet K a_Effect (.type "type") "of" q_Effect_of a_Effect_of
  me_Effect_eq : Meth K a_Effect "__eq__" a_Effect_eq
section
variable {P : Program} {w : World} {K : PySem.W.Frag} {mg : Str → Option Value} {base : Heap}
/-- the classes -/
abbrev Txt.tb (t : Txt K mg) : Tb := ⟨K, fun c => match c with | 0 => (t.a_LeakError, []) | 1 => (t.a_InvalidWord, ["value"]) | 2 => (t.a_InvalidProgram, ["value"]) | 3 => (t.a_InvalidCore, ["value"]) | 4 => (t.a_LimitExceeded, ["limit"]) | 5 => (t.a_Effect, ["own_takes", "own_puts", "own_core"]) | 6 => (t.a_Effect, []) | 7 => (t.a_Effect, ["own_takes"]) | 8 => (t.a_Effect, ["own_takes", "own_puts"]) | _ => (0, [])⟩
theorem fa_Effect_own_takes (t : Txt K mg) : FldAt K t.tb "own_takes" 5 0 := ⟨t.co_Effect, t.no_Effect_own_takes, show ixF "own_takes" ["own_takes", "own_puts", "own_core"] = some 0 by decide +kernel⟩
theorem sa_Effect_own_takes (t : Txt K mg) : SetAt K t.tb "own_takes" 6 7 0 := ⟨t.co_Effect, t.no_Effect_own_takes, rfl, show 0 < 1000 by decide, .inr ⟨show ixF "own_takes" [] = none by decide +kernel, rfl, rfl⟩⟩
theorem fa_Effect_own_puts (t : Txt K mg) : FldAt K t.tb "own_puts" 5 1 := ⟨t.co_Effect, t.no_Effect_own_puts, show ixF "own_puts" ["own_takes", "own_puts", "own_core"] = some 1 by decide +kernel⟩
theorem sa_Effect_own_puts (t : Txt K mg) : SetAt K t.tb "own_puts" 7 8 1 := ⟨t.co_Effect, t.no_Effect_own_puts, rfl, show 1 < 1000 by decide, .inr ⟨show ixF "own_puts" ["own_takes"] = none by decide +kernel, rfl, rfl⟩⟩
theorem fa_Effect_own_core (t : Txt K mg) : FldAt K t.tb "own_core" 5 2 := ⟨t.co_Effect, t.no_Effect_own_core, show ixF "own_core" ["own_takes", "own_puts", "own_core"] = some 2 by decide +kernel⟩
theorem sa_Effect_own_core (t : Txt K mg) : SetAt K t.tb "own_core" 8 5 2 := ⟨t.co_Effect, t.no_Effect_own_core, rfl, show 2 < 1000 by decide, .inr ⟨show ixF "own_core" ["own_takes", "own_puts"] = none by decide +kernel, rfl, rfl⟩⟩
theorem ins_Effect_Effect (t : Txt K mg) : InsAt K t.tb t.a_Effect 5 true := ⟨t.co_Effect, t.im_Effect.1, t.im_Effect.2.1, t.im_Effect.2.2.1, t.im_Effect.2.2.2, t.is_Effect_Effect⟩
theorem init_InvalidWord (t : Txt K mg) : FnOk P w K mg base (L2.CX P w) 1 t.ai_InvalidWord t.fi_InvalidWord ["self", "value"] (spX t.a_InvalidWord "value") :=
  x_def t.F_InvalidWord sci_InvalidWord fun cdv A outer s H E => pss_cons (ps_expr (pe_xinit t.x_InvalidWord rfl (.own t.a_LeakError t.g_LeakError t.how_InvalidWord.1 t.how_InvalidWord.2.1 t.how_InvalidWord.2.2 (by decide +kernel)) (pa_cons (pv 0) (pa_cons pe_str pa_nil)))) (pss_one (ps_xstore t.x_InvalidWord t.no_InvalidWord (pv 0) (pv 1)))
theorem ib_InvalidWord (t : Txt K mg) : Binds K t.fi_InvalidWord ["self", "value"] [] := t.F_InvalidWord.binds (ps := ["self", "value"]) fun _ _ _ _ _ _ us hl => match us, hl with | [_, _], _ => rfl
theorem init_InvalidProgram (t : Txt K mg) : FnOk P w K mg base (L2.CX P w) 1 t.ai_InvalidProgram t.fi_InvalidProgram ["self", "value"] (spX t.a_InvalidProgram "value") :=
  x_def t.F_InvalidProgram sci_InvalidProgram fun cdv A outer s H E => pss_cons (ps_expr (pe_xinit t.x_InvalidProgram rfl (.own t.a_LeakError t.g_LeakError t.how_InvalidProgram.1 t.how_InvalidProgram.2.1 t.how_InvalidProgram.2.2 (by decide +kernel)) (pa_cons (pv 0) (pa_cons pe_str pa_nil)))) (pss_one (ps_xstore t.x_InvalidProgram t.no_InvalidProgram (pv 0) (pv 1)))
theorem ib_InvalidProgram (t : Txt K mg) : Binds K t.fi_InvalidProgram ["self", "value"] [] := t.F_InvalidProgram.binds (ps := ["self", "value"]) fun _ _ _ _ _ _ us hl => match us, hl with | [_, _], _ => rfl
theorem init_InvalidCore (t : Txt K mg) : FnOk P w K mg base (L2.CX P w) 1 t.ai_InvalidCore t.fi_InvalidCore ["self", "value"] (spX t.a_InvalidCore "value") :=
  x_def t.F_InvalidCore sci_InvalidCore fun cdv A outer s H E => pss_cons (ps_expr (pe_xinit t.x_InvalidCore rfl (.own t.a_LeakError t.g_LeakError t.how_InvalidCore.1 t.how_InvalidCore.2.1 t.how_InvalidCore.2.2 (by decide +kernel)) (pa_cons (pv 0) (pa_cons pe_str pa_nil)))) (pss_one (ps_xstore t.x_InvalidCore t.no_InvalidCore (pv 0) (pv 1)))
theorem ib_InvalidCore (t : Txt K mg) : Binds K t.fi_InvalidCore ["self", "value"] [] := t.F_InvalidCore.binds (ps := ["self", "value"]) fun _ _ _ _ _ _ us hl => match us, hl with | [_, _], _ => rfl
theorem init_LimitExceeded (t : Txt K mg) : FnOk P w K mg base (L2.CX P w) 1 t.ai_LimitExceeded t.fi_LimitExceeded ["self", "limit"] (spX t.a_LimitExceeded "limit") :=
  x_def t.F_LimitExceeded sci_LimitExceeded fun cdv A outer s H E => pss_cons (ps_expr (pe_xinit t.x_LimitExceeded rfl (.blt "OverflowError" t.z_OverflowError PyProof.Rows.Boot.«OverflowError» (by decide) (by decide +kernel) (by kernel_rfl) t.how_LimitExceeded (by decide +kernel)) (pa_cons (pv 0) (pa_cons pe_str pa_nil)))) (pss_one (ps_xstore t.x_LimitExceeded t.no_LimitExceeded (pv 0) (pv 1)))
theorem ib_LimitExceeded (t : Txt K mg) : Binds K t.fi_LimitExceeded ["self", "limit"] [] := t.F_LimitExceeded.binds (ps := ["self", "limit"]) fun _ _ _ _ _ _ us hl => match us, hl with | [_, _], _ => rfl
theorem bd_law_words (t : Txt K mg) : Bd K t.fd_law_words ["_law_letters", "_law_most"] [] 2 (· ++ []) (· ++ []) := Bd.dfl rfl (t.F_law_words.binds (ps := ["_law_letters", "_law_most"]) fun _ _ _ _ _ _ us hl => match us, hl with | [_, _], _ => rfl) .nil
theorem ok_law_words (t : Txt K mg) : FnG P w K mg base 2 t.a_law_words t.fd_law_words ["_law_letters", "_law_most"] (spD t.tb 2 m_law_words) := by
  have F := fn_ok (P := P) (w := w) (base := base) (mg := mg) (T := t.tb) (k := 1) (fb := b_law_words) t.F_law_words sc_law_words (fun cdv A outer s H E hr gd => by
    have hu := hr.units
    have hu5 := units65 hr
    have hp := passes_of (X := cxOf (L2.CX P w) P w K mg base ["_law_letters", "_law_most", "_law_found", "_law_last", "_law_turn", "_law_longer", "_law_word", "_law_item"] "_law_words" (defScope s_law_words) t.a_law_words cdv A outer s H E) rfl
    have tk := takes_of (X := cxOf (L2.CX P w) P w K mg base ["_law_letters", "_law_most", "_law_found", "_law_last", "_law_turn", "_law_longer", "_law_word", "_law_item"] "_law_words" (defScope s_law_words) t.a_law_words cdv A outer s H E) (E := E) rfl rfl rfl rfl
    delta b_law_words
    exact ⟨_, (ss_cons (ss_set (i := 2) sc_law_words.nd rfl (by first | exact .inl rfl | exact .inr rfl) (se_lst (sa_cons (se_str (l := []) rfl) sa_nil)))
    (ss_cons (ss_set (i := 3) sc_law_words.nd rfl (by first | exact .inl rfl | exact .inr rfl) (se_lst (sa_cons (se_str (l := []) rfl) sa_nil)))
    (ss_cons (ss_W [0, 1, 3, 4, 5, 6, 7] (ss_P [4, 5, 6, 7] (ss_for hp rfl (si_rg1 rfl t.z_range (sa_cons (se_v (pv 1)) sa_nil)) (tg_n (pg_name (i := 4) sc_law_words.nd rfl (by first | exact .inl rfl | exact .inr rfl))) (sss_W [4, 5, 6, 7] (ss_cons (ss_set (i := 5) sc_law_words.nd rfl (by first | exact .inl rfl | exact .inr rfl) (se_lst sa_nil))
    (ss_cons (ss_W [3, 6, 7] (ss_P [4, 6, 7] (ss_for hp rfl (si_seq rfl (se_v (pv 3))) (tg_n (pg_name (i := 6) sc_law_words.nd rfl (by first | exact .inl rfl | exact .inr rfl))) (sss_W [6, 7] (ss_one (ss_set (i := 5) sc_law_words.nd rfl (by first | exact .inl rfl | exact .inr rfl) (se_op op_addA d_add (se_v (pv 5)) (se_lc (own := [("_law_item", 7)]) rfl sc_law_words.nd (si_seq rfl (se_v (pv 0))) (blkOk_by (by kernel_rfl)) (fun s H C cl fp => (tg_n (pg_name (i := 7) sc_law_words.nd rfl (by first | exact .inl rfl | exact .inr rfl)))) (fun s H C cl fp => sts_nil) (fun s H C cl fp => (se_op op_addA d_add (se_v (pv 6)) (se_v (pv 7))))))))))))
    (ss_cons (ss_set (i := 3) sc_law_words.nd rfl (by first | exact .inl rfl | exact .inr rfl) (se_v (pv 5)))
    (ss_one (ss_set (i := 2) sc_law_words.nd rfl (by first | exact .inl rfl | exact .inr rfl) (se_op op_addA d_add (se_v (pv 2)) (se_v (pv 5))))))))))))
    (ss_one (ss_ret (se_v (pv 2)))))))⟩)
  exact F
theorem bd_law_pool (t : Txt K mg) : Bd K t.fd_law_pool ["_law_script", "_law_k"] [] 2 (· ++ []) (· ++ []) := Bd.dfl rfl (t.F_law_pool.binds (ps := ["_law_script", "_law_k"]) fun _ _ _ _ _ _ us hl => match us, hl with | [_, _], _ => rfl) .nil
theorem ok_law_pool (t : Txt K mg) : FnG P w K mg base 2 t.a_law_pool t.fd_law_pool ["_law_script", "_law_k"] (spD t.tb 2 m_law_pool) := by
  have F := fn_ok (P := P) (w := w) (base := base) (mg := mg) (T := t.tb) (k := 1) (fb := b_law_pool) t.F_law_pool sc_law_pool (fun cdv A outer s H E hr gd => by
    have hu := hr.units
    have hu5 := units65 hr
    have hp := passes_of (X := cxOf (L2.CX P w) P w K mg base ["_law_script", "_law_k", "_law_cell", "_law_number", "_law_mixed"] "_law_pool" (defScope s_law_pool) t.a_law_pool cdv A outer s H E) rfl
    have tk := takes_of (X := cxOf (L2.CX P w) P w K mg base ["_law_script", "_law_k", "_law_cell", "_law_number", "_law_mixed"] "_law_pool" (defScope s_law_pool) t.a_law_pool cdv A outer s H E) (E := E) rfl rfl rfl rfl
    delta b_law_pool
    exact ⟨_, (ss_cons (ss_set (i := 2) sc_law_pool.nd rfl (by first | exact .inl rfl | exact .inr rfl) (se_ix rfl (se_op op_addA d_add (se_sl rfl (se_v (pv 0)) (so_some (se_v (pv 1))) (so_some (se_op op_addA d_add (se_v (pv 1)) se_int))) (se_lst (sa_cons se_int sa_nil))) se_int))
    (ss_cons (ss_set (i := 3) sc_law_pool.nd rfl (by first | exact .inl rfl | exact .inr rfl) (se_blt (call_max2 rfl) d_max2 rfl t.z_max PyProof.Rows.Boot.«max» (sa_cons (se_v (pv 2)) (sa_cons (se_op op_sub d_I0 (se_un1 un_neg d_neg se_int) (se_v (pv 2))) sa_nil))))
    (ss_cons (ss_set (i := 4) sc_law_pool.nd rfl (by first | exact .inl rfl | exact .inr rfl) (se_op op_mod d_mod (se_op op_mulA d_mul (se_op op_addA d_add (se_op op_addA d_add (se_op op_addA d_add (se_op op_mod d_mod (se_v (pv 3)) se_int) (se_op op_mulA d_mul (se_op op_mulA d_mul se_int (se_v (pv 1))) (se_v (pv 1)))) (se_op op_mulA d_mul se_int (se_v (pv 1)))) se_int) se_int) se_int))
    (ss_one (ss_ret (se_lst (sa_cons (se_op op_mulA d_mul (se_v (pv 3)) (se_typ call_int1 d_int rfl t.z_int PyProof.Rows.Boot.«int» (sa_cons (se_cmp op_ge d_B0 (se_v (pv 3)) (se_op op_pow d_pow se_int se_int)) sa_nil))) (sa_cons (se_op op_mod d_mod (se_op op_mulA d_mul (se_v (pv 4)) (se_v (pv 4))) se_int) sa_nil))))))))⟩)
  exact F
theorem bd_law_take (t : Txt K mg) : Bd K t.fd_law_take ["_law_pool_here", "_law_many"] [] 2 (· ++ []) (· ++ []) := Bd.dfl rfl (t.F_law_take.binds (ps := ["_law_pool_here", "_law_many"]) fun _ _ _ _ _ _ us hl => match us, hl with | [_, _], _ => rfl) .nil
theorem ok_law_take (t : Txt K mg) : FnG P w K mg base 2 t.a_law_take t.fd_law_take ["_law_pool_here", "_law_many"] (spD t.tb 2 m_law_take) := by
  have F := fn_ok (P := P) (w := w) (base := base) (mg := mg) (T := t.tb) (k := 1) (fb := b_law_take) t.F_law_take sc_law_take (fun cdv A outer s H E hr gd => by
    have hu := hr.units
    have hu5 := units65 hr
    have hp := passes_of (X := cxOf (L2.CX P w) P w K mg base ["_law_pool_here", "_law_many", "_law_digit"] "_law_take" (defScope s_law_take) t.a_law_take cdv A outer s H E) rfl
    have tk := takes_of (X := cxOf (L2.CX P w) P w K mg base ["_law_pool_here", "_law_many", "_law_digit"] "_law_take" (defScope s_law_take) t.a_law_take cdv A outer s H E) (E := E) rfl rfl rfl rfl
    delta b_law_take
    exact ⟨_, (ss_cons (ss_W [2] (ss_if (st_cmp op_gt d_B0 (se_ix rfl (se_v (pv 0)) se_int) se_int) (ss_cons (ss_set (i := 2) sc_law_take.nd rfl (by first | exact .inl rfl | exact .inr rfl) (se_op op_mod d_mod (se_ix rfl (se_v (pv 0)) se_int) (se_v (pv 1))))
    (ss_cons (ss_stl (i := 0) (pv 0) se_int (se_op op_fdiv d_div (se_ix rfl (se_v (pv 0)) se_int) (se_v (pv 1))))
    (ss_one (ss_ret (se_v (pv 2)))))) ss_nil))
    (ss_cons (ss_stl (i := 0) (pv 0) se_int (se_op op_mod d_mod (se_op op_addA d_add (se_op op_mulA d_mul (se_ix rfl (se_v (pv 0)) se_int) se_int) se_int) se_int))
    (ss_one (ss_ret (se_op op_mod d_mod (se_op op_fdiv d_div (se_op op_mod d_mod (se_op op_mulA d_mul (se_ix rfl (se_v (pv 0)) se_int) (se_ix rfl (se_v (pv 0)) se_int)) se_int) se_int) (se_v (pv 1)))))))⟩)
  exact F
theorem bd_law_program (t : Txt K mg) : Bd K t.fd_law_program ["_law_pool_here", "_law_most", "_law_letters"] [] 3 (· ++ []) (· ++ []) := Bd.dfl rfl (t.F_law_program.binds (ps := ["_law_pool_here", "_law_most", "_law_letters"]) fun _ _ _ _ _ _ us hl => match us, hl with | [_, _, _], _ => rfl) .nil
theorem ok_law_program (t : Txt K mg) : FnG P w K mg base 3 t.a_law_program t.fd_law_program ["_law_pool_here", "_law_most", "_law_letters"] (spD t.tb 3 m_law_program) := by
  have F := fn_ok (P := P) (w := w) (base := base) (mg := mg) (T := t.tb) (k := 2) (fb := b_law_program) t.F_law_program sc_law_program (fun cdv A outer s H E hr gd => by
    have hu := hr.units
    have hu5 := units65 hr
    have hp := passes_of (X := cxOf (L2.CX P w) P w K mg base ["_law_pool_here", "_law_most", "_law_letters", "_law_moves", "_law_turn"] "_law_program" (defScope s_law_program) t.a_law_program cdv A outer s H E) rfl
    have tk := takes_of (X := cxOf (L2.CX P w) P w K mg base ["_law_pool_here", "_law_most", "_law_letters", "_law_moves", "_law_turn"] "_law_program" (defScope s_law_program) t.a_law_program cdv A outer s H E) (E := E) rfl rfl rfl rfl
    delta b_law_program
    exact ⟨_, (ss_cons (ss_set (i := 3) sc_law_program.nd rfl (by first | exact .inl rfl | exact .inr rfl) (se_sl rfl (se_str (l := [97, 65, 98, 66, 99, 67, 100, 68, 101, 69, 102, 70, 103, 71, 104, 72]) rfl) so_none (so_some (se_op op_mulA d_mul se_int (se_v (pv 2))))))
    (ss_one (ss_ret (se_mt (fun u v h k => pe_bm PySem.F.plainAttrs_str PySem.F.slot_str_join PySem.F.type_str_join mt_join h k) d_join (se_str (l := []) rfl) (sa_cons (se_lc (own := [("_law_turn", 4)]) rfl sc_law_program.nd (si_rg1 rfl t.z_range (sa_cons (se_call (ms := [true, false]) (dfl := []) (dvs := []) (ok_law_take t) tk (hr.mono (by decide)) gd rfl t.g_law_take t.k_law_take (bd_law_take t) (fun _ => RpL.nil) (sa_cons (se_v (pv 0)) (sa_cons (se_op op_addA d_add (se_v (pv 1)) se_int) sa_nil)) (ar_cons (ar_cons ar_nil))) sa_nil)) (blkOk_by (by kernel_rfl)) (fun s H C cl fp => (tg_n (pg_name (i := 4) sc_law_program.nd rfl (by first | exact .inl rfl | exact .inr rfl)))) (fun s H C cl fp => sts_nil) (fun s H C cl fp => (se_ix rfl (se_v (pv 3)) (se_call (ms := [true, false]) (dfl := []) (dvs := []) (ok_law_take t) takes0 (hr.mono (by decide)) gd rfl t.g_law_take t.k_law_take (bd_law_take t) (fun _ => RpL.nil) (sa_cons (se_v (pv 0)) (sa_cons (se_op op_mulA d_mul se_int (se_v (pv 2))) sa_nil)) (ar_cons (ar_cons ar_nil)))))) sa_nil)))))⟩)
  exact F
theorem bd_Effect_eq (t : Txt K mg) : Bd K t.fd_Effect_eq ["self", "other"] [] 2 (· ++ []) (· ++ []) := Bd.dfl rfl (t.F_Effect_eq.binds (ps := ["self", "other"]) fun _ _ _ _ _ _ us hl => match us, hl with | [_, _], _ => rfl) .nil
theorem ok_Effect_eq (t : Txt K mg) : FnG P w K mg base 2 t.a_Effect_eq t.fd_Effect_eq ["self", "other"] (spD t.tb 2 m_Effect_eq) := by
  have F := fn_ok (P := P) (w := w) (base := base) (mg := mg) (T := t.tb) (k := 1) (fb := b_Effect_eq) t.F_Effect_eq sc_Effect_eq (fun cdv A outer s H E hr gd => by
    have hu := hr.units
    have hu5 := units65 hr
    have hp := passes_of (X := cxOf (L2.CX P w) P w K mg base ["self", "other"] "Effect.__eq__" (defScope s_Effect_eq) t.a_Effect_eq cdv A outer s H E) rfl
    have tk := takes_of (X := cxOf (L2.CX P w) P w K mg base ["self", "other"] "Effect.__eq__" (defScope s_Effect_eq) t.a_Effect_eq cdv A outer s H E) (E := E) rfl rfl rfl rfl
    delta b_Effect_eq
    exact ⟨_, (ss_cons (ss_if (st_not (st_val (se_isO (l := [(5, true)]) rfl rfl t.z_isinstance rfl t.g_Effect (in_cons (ins_Effect_Effect t) in_nil) (se_v (pv 1))))) (ss_one (ss_ret se_bl)) ss_nil)
    (ss_one (ss_ret (se_cmp (op_eqA hu) d_eqA (se_tup (sa_cons (se_fld (l := [(5, 0)]) (fl_cons (fa_Effect_own_takes t) fl_nil) (se_v (pv 0))) (sa_cons (se_fld (l := [(5, 1)]) (fl_cons (fa_Effect_own_puts t) fl_nil) (se_v (pv 0))) (sa_cons (se_fld (l := [(5, 2)]) (fl_cons (fa_Effect_own_core t) fl_nil) (se_v (pv 0))) sa_nil)))) (se_tup (sa_cons (se_fld (l := [(5, 0)]) (fl_cons (fa_Effect_own_takes t) fl_nil) (se_v (pv 1))) (sa_cons (se_fld (l := [(5, 1)]) (fl_cons (fa_Effect_own_puts t) fl_nil) (se_v (pv 1))) (sa_cons (se_fld (l := [(5, 2)]) (fl_cons (fa_Effect_own_core t) fl_nil) (se_v (pv 1))) sa_nil))))))))⟩)
  exact F
theorem bd_is_program (t : Txt K mg) : Bd K t.fd_is_program ["value"] [] 1 (· ++ []) (· ++ []) := Bd.dfl rfl (t.F_is_program.binds (ps := ["value"]) fun _ _ _ _ _ _ us hl => match us, hl with | [_], _ => rfl) .nil
theorem ok_is_program (t : Txt K mg) : FnG P w K mg base 2 t.a_is_program t.fd_is_program ["value"] (spD t.tb 1 m_is_program) := by
  have F := fn_ok (P := P) (w := w) (base := base) (mg := mg) (T := t.tb) (k := 1) (fb := b_is_program) t.F_is_program sc_is_program (fun cdv A outer s H E hr gd => by
    have hu := hr.units
    have hu5 := units65 hr
    have hp := passes_of (X := cxOf (L2.CX P w) P w K mg base ["value", "step"] "is_program" (defScope s_is_program) t.a_is_program cdv A outer s H E) rfl
    have tk := takes_of (X := cxOf (L2.CX P w) P w K mg base ["value", "step"] "is_program" (defScope s_is_program) t.a_is_program cdv A outer s H E) (E := E) rfl rfl rfl rfl
    delta b_is_program
    exact ⟨_, (ss_cons (ss_if (st_w (sw_or (st_not (st_val (se_isn (t := .str) rfl rfl t.z_isinstance rfl t.z_str PyProof.Rows.Boot.«str» (se_v (pv 0))))) (sw_or1 (st_cmp op_gt d_B0 (se_blt call_len d_len rfl t.z_len PyProof.Rows.Boot.«len» (sa_cons (se_v (pv 0)) sa_nil)) (se_gl (v := .int 400) (d := .int 400) rfl t.g_MAX_STEPS ⟨_, rfl⟩ (by intro _; simp only [Rp])))))) (ss_one (ss_ret se_bl)) ss_nil)
    (ss_one (ss_ret (se_blt (cr_all rfl) d_all rfl t.z_all PyProof.Rows.Boot.«all» (sa_cons (se_lc (own := [("step", 1)]) rfl sc_is_program.nd (si_seq rfl (se_v (pv 0))) (blkOk_by (by kernel_rfl)) (fun s H C cl fp => (tg_n (pg_name (i := 1) sc_is_program.nd rfl (by first | exact .inl rfl | exact .inr rfl)))) (fun s H C cl fp => sts_nil) (fun s H C cl fp => (se_cmp (op_inA hu5) (d_in id) (se_v (pv 1)) (se_op op_addA d_add (se_gl (v := .str "abcdefgh") (d := .str [97, 98, 99, 100, 101, 102, 103, 104]) rfl t.g_ITEMS ⟨_, rfl⟩ (by intro _; simp only [Rp]; rfl)) (se_mt0 (fun u h => pe_bm0 PySem.F.plainAttrs_str PySem.F.slot_str_upper PySem.F.type_str_upper mt_upper h) d_upper (se_gl (v := .str "abcdefgh") (d := .str [97, 98, 99, 100, 101, 102, 103, 104]) rfl t.g_ITEMS ⟨_, rfl⟩ (by intro _; simp only [Rp]; rfl))))))) sa_nil)))))⟩)
  exact F
theorem bd_require_program (t : Txt K mg) : Bd K t.fd_require_program ["value"] [] 1 (· ++ []) (· ++ []) := Bd.dfl rfl (t.F_require_program.binds (ps := ["value"]) fun _ _ _ _ _ _ us hl => match us, hl with | [_], _ => rfl) .nil
theorem ok_require_program (t : Txt K mg) : FnG P w K mg base 4 t.a_require_program t.fd_require_program ["value"] (spD t.tb 1 m_require_program) := by
  have F := fn_ok (P := P) (w := w) (base := base) (mg := mg) (T := t.tb) (k := 3) (fb := b_require_program) t.F_require_program sc_require_program (fun cdv A outer s H E hr gd => by
    have hu := hr.units
    have hu5 := units65 hr
    have hp := passes_of (X := cxOf (L2.CX P w) P w K mg base ["value"] "require_program" (defScope s_require_program) t.a_require_program cdv A outer s H E) rfl
    have tk := takes_of (X := cxOf (L2.CX P w) P w K mg base ["value"] "require_program" (defScope s_require_program) t.a_require_program cdv A outer s H E) (E := E) rfl rfl rfl rfl
    delta b_require_program
    exact ⟨_, (ss_one (ss_if (st_not (st_val (se_call (ms := [false]) (dfl := []) (dvs := []) (ok_is_program t) tk (hr.mono (by decide)) gd rfl t.g_is_program t.k_is_program (bd_is_program t) (fun _ => RpL.nil) (sa_cons (se_v (pv 0)) sa_nil) (ar_cons ar_nil)))) (ss_one (ss_raise rfl tk (fun u h => pmk_x t.x_InvalidProgram t.i_InvalidProgram t.j_InvalidProgram (init_InvalidProgram t) (hr.mono (by decide)) (ib_InvalidProgram t) rfl t.g_InvalidProgram h) (se_v (pv 0)) rfl)) ss_nil))⟩)
  exact F
theorem bd_taken (t : Txt K mg) : Bd K t.fd_taken ["program"] [] 1 (· ++ []) (· ++ []) := Bd.dfl rfl (t.F_taken.binds (ps := ["program"]) fun _ _ _ _ _ _ us hl => match us, hl with | [_], _ => rfl) .nil
theorem ok_taken (t : Txt K mg) : FnG P w K mg base 2 t.a_taken t.fd_taken ["program"] (spD t.tb 1 m_taken) := by
  have F := fn_ok (P := P) (w := w) (base := base) (mg := mg) (T := t.tb) (k := 1) (fb := b_taken) t.F_taken sc_taken (fun cdv A outer s H E hr gd => by
    have hu := hr.units
    have hu5 := units65 hr
    have hp := passes_of (X := cxOf (L2.CX P w) P w K mg base ["program", "step"] "taken" (defScope s_taken) t.a_taken cdv A outer s H E) rfl
    have tk := takes_of (X := cxOf (L2.CX P w) P w K mg base ["program", "step"] "taken" (defScope s_taken) t.a_taken cdv A outer s H E) (E := E) rfl rfl rfl rfl
    delta b_taken
    exact ⟨_, (ss_one (ss_ret (se_mt (fun u v h k => pe_bm PySem.F.plainAttrs_str PySem.F.slot_str_join PySem.F.type_str_join mt_join h k) d_join (se_str (l := []) rfl) (sa_cons (se_lc (own := [("step", 1)]) rfl sc_taken.nd (si_seq rfl (se_v (pv 0))) (blkOk_by (by kernel_rfl)) (fun s H C cl fp => (tg_n (pg_name (i := 1) sc_taken.nd rfl (by first | exact .inl rfl | exact .inr rfl)))) (fun s H C cl fp => (sts_one (st_cmp (op_notInA hu5) (d_in not) (se_v (pv 1)) (se_gl (v := .str "abcdefgh") (d := .str [97, 98, 99, 100, 101, 102, 103, 104]) rfl t.g_ITEMS ⟨_, rfl⟩ (by intro _; simp only [Rp]; rfl))))) (fun s H C cl fp => (se_mt0 (fun u h => pe_bm0 PySem.F.plainAttrs_str PySem.F.slot_str_lower PySem.F.type_str_lower mt_lower h) d_lower (se_v (pv 1))))) sa_nil))))⟩)
  exact F
theorem bd_put_items (t : Txt K mg) : Bd K t.fd_put_items ["program"] [] 1 (· ++ []) (· ++ []) := Bd.dfl rfl (t.F_put_items.binds (ps := ["program"]) fun _ _ _ _ _ _ us hl => match us, hl with | [_], _ => rfl) .nil
theorem ok_put_items (t : Txt K mg) : FnG P w K mg base 2 t.a_put_items t.fd_put_items ["program"] (spD t.tb 1 m_put_items) := by
  have F := fn_ok (P := P) (w := w) (base := base) (mg := mg) (T := t.tb) (k := 1) (fb := b_put_items) t.F_put_items sc_put_items (fun cdv A outer s H E hr gd => by
    have hu := hr.units
    have hu5 := units65 hr
    have hp := passes_of (X := cxOf (L2.CX P w) P w K mg base ["program", "step"] "put_items" (defScope s_put_items) t.a_put_items cdv A outer s H E) rfl
    have tk := takes_of (X := cxOf (L2.CX P w) P w K mg base ["program", "step"] "put_items" (defScope s_put_items) t.a_put_items cdv A outer s H E) (E := E) rfl rfl rfl rfl
    delta b_put_items
    exact ⟨_, (ss_one (ss_ret (se_mt (fun u v h k => pe_bm PySem.F.plainAttrs_str PySem.F.slot_str_join PySem.F.type_str_join mt_join h k) d_join (se_str (l := []) rfl) (sa_cons (se_lc (own := [("step", 1)]) rfl sc_put_items.nd (si_seq rfl (se_v (pv 0))) (blkOk_by (by kernel_rfl)) (fun s H C cl fp => (tg_n (pg_name (i := 1) sc_put_items.nd rfl (by first | exact .inl rfl | exact .inr rfl)))) (fun s H C cl fp => (sts_one (st_cmp (op_inA hu5) (d_in id) (se_v (pv 1)) (se_gl (v := .str "abcdefgh") (d := .str [97, 98, 99, 100, 101, 102, 103, 104]) rfl t.g_ITEMS ⟨_, rfl⟩ (by intro _; simp only [Rp]; rfl))))) (fun s H C cl fp => (se_v (pv 1)))) sa_nil))))⟩)
  exact F
theorem bn_places (t : Txt K mg) : Binds K t.fd_places ["part", "word"] [] := t.F_places.binds (ps := ["part", "word"]) fun _ _ _ _ _ _ us hl => match us, hl with | [_, _], _ => rfl
theorem ok_places (t : Txt K mg) : GFn P w K mg base 2 t.a_places t.fd_places ["part", "word"] (spG t.tb 2 m_places) := by
  refine gfn_ok t.F_places sc_places fun cdv A outer s H E pn hr => ?_
  have hu := hr.units
  have hu5 := units65 hr
  have hp := owns_gcx (P := P) (w := w) (K := K) (mg := mg) (base := base) (N := ["part", "word", "start", "item", "place"]) (qual := "places") (scope := defScope s_places) (f := t.a_places) (cd := cdv) (A := A) (outer := outer) (s := s) (H := H) (E := E) (pn := pn)
  have tk := takes_gcx (P := P) (w := w) (K := K) (mg := mg) (base := base) (N := ["part", "word", "start", "item", "place"]) (qual := "places") (scope := defScope s_places) (f := t.a_places) (cd := cdv) (A := A) (outer := outer) (s := s) (H := H) (E := E) (pn := pn)
  delta b_places
  exact ⟨_, (sgs_cons (sg_ps (W := fun cls d _ H => E cls d H) (ss_set (i := 2) sc_places.nd rfl (by first | exact .inl rfl | exact .inr rfl) se_int))
    (sgs_cons (sg_for (W := fun cls d _ H => E cls d H) hp rfl (si_seq rfl (se_v (pv 0))) (tg_n (pg_name (i := 3) sc_places.nd rfl (by first | exact .inl rfl | exact .inr rfl))) (sgs_cons (sg_ps (W := fun cls d _ H => E cls d H) (ss_set (i := 4) sc_places.nd rfl (by first | exact .inl rfl | exact .inr rfl) (se_mt (fun u v h k => pe_bm PySem.F.plainAttrs_str PySem.F.slot_str_find PySem.F.type_str_find mt_find3 h k) d_find2 (se_v (pv 1)) (sa_cons (se_v (pv 3)) (sa_cons (se_v (pv 2)) sa_nil)))))
    (sgs_cons (sg_ps (W := fun cls d _ H => E cls d H) (ss_if (st_cmp op_lt d_B0 (se_v (pv 4)) se_int) (ss_one ss_retN) ss_nil))
    (sgs_cons (sg_yield (W := fun cls d _ H => E cls d H) (se_v (pv 4)))
    (sgs_cons (sg_ps (W := fun cls d _ H => E cls d H) (ss_set (i := 2) sc_places.nd rfl (by first | exact .inl rfl | exact .inr rfl) (se_op op_addA d_add (se_v (pv 4)) se_int)))
    sgs_nil)))))
    sgs_nil))⟩
theorem bd_succeeds_from (t : Txt K mg) : Bd K t.fd_succeeds_from ["takes", "puts", "numbers", "start"] [] 4 (· ++ []) (· ++ []) := Bd.dfl rfl (t.F_succeeds_from.binds (ps := ["takes", "puts", "numbers", "start"]) fun _ _ _ _ _ _ us hl => match us, hl with | [_, _, _, _], _ => rfl) .nil
theorem ok_succeeds_from (t : Txt K mg) : FnG P w K mg base 6 t.a_succeeds_from t.fd_succeeds_from ["takes", "puts", "numbers", "start"] (spD t.tb 4 m_succeeds_from) := by
  have F := fn_ok (P := P) (w := w) (base := base) (mg := mg) (T := t.tb) (k := 5) (fb := b_succeeds_from) t.F_succeeds_from sc_succeeds_from (fun cdv A outer s H E hr gd => by
    have hu := hr.units
    have hu5 := units65 hr
    have hp := passes_of (X := cxOf (L2.CX P w) P w K mg base ["takes", "puts", "numbers", "start", "found", "place", "number"] "succeeds_from" (defScope s_succeeds_from) t.a_succeeds_from cdv A outer s H E) rfl
    have tk := takes_of (X := cxOf (L2.CX P w) P w K mg base ["takes", "puts", "numbers", "start", "found", "place", "number"] "succeeds_from" (defScope s_succeeds_from) t.a_succeeds_from cdv A outer s H E) (E := E) rfl rfl rfl rfl
    delta b_succeeds_from
    exact ⟨_, (ss_cons (ss_set (i := 4) sc_succeeds_from.nd rfl (by first | exact .inl rfl | exact .inr rfl) (se_listG (ok_places t) (hr.mono (by decide)) rfl t.g_places t.k_places (bn_places t) rfl t.z_list PyProof.Rows.Boot.«list» (sa_cons (se_sl rfl (se_v (pv 0)) (so_some (se_v (pv 3))) so_none) (sa_cons (se_v (pv 1)) sa_nil)) (ar_cons (ar_cons ar_nil))))
    (ss_cons (ss_if (st_cmp op_lt d_B0 (se_blt call_len d_len rfl t.z_len PyProof.Rows.Boot.«len» (sa_cons (se_v (pv 4)) sa_nil)) (se_op op_sub d_I0 (se_blt call_len d_len rfl t.z_len PyProof.Rows.Boot.«len» (sa_cons (se_v (pv 0)) sa_nil)) (se_v (pv 3)))) (ss_one (ss_ret se_bl)) ss_nil)
    (ss_one (ss_ret (se_blt (cr_all rfl) d_all rfl t.z_all PyProof.Rows.Boot.«all» (sa_cons (se_lc (own := [("place", 5), ("number", 6)]) rfl sc_succeeds_from.nd (si_zip rfl rfl t.z_zip (sa_cons (se_v (pv 4)) (sa_cons (se_sl rfl (se_v (pv 2)) (so_some (se_v (pv 3))) so_none) sa_nil))) (blkOk_by (by kernel_rfl)) (fun s H C cl fp => (tg_t rfl rfl (tgs_cons (tg_n (pg_name (i := 5) sc_succeeds_from.nd rfl (by first | exact .inl rfl | exact .inr rfl))) (tgs_cons (tg_n (pg_name (i := 6) sc_succeeds_from.nd rfl (by first | exact .inl rfl | exact .inr rfl))) tgs_nil)))) (fun s H C cl fp => sts_nil) (fun s H C cl fp => (se_cmp op_lt d_B0 (se_v (pv 5)) (se_v (pv 6))))) sa_nil))))))⟩)
  exact F
theorem bd_core_of (t : Txt K mg) : Bd K t.fd_core_of ["takes", "puts", "numbers"] [] 3 (· ++ []) (· ++ []) := Bd.dfl rfl (t.F_core_of.binds (ps := ["takes", "puts", "numbers"]) fun _ _ _ _ _ _ us hl => match us, hl with | [_, _, _], _ => rfl) .nil
theorem ok_core_of (t : Txt K mg) : FnG P w K mg base 7 t.a_core_of t.fd_core_of ["takes", "puts", "numbers"] (spD t.tb 3 m_core_of) := by
  have F := fn_ok (P := P) (w := w) (base := base) (mg := mg) (T := t.tb) (k := 6) (fb := b_core_of) t.F_core_of sc_core_of (fun cdv A outer s H E hr gd => by
    have hu := hr.units
    have hu5 := units65 hr
    have hp := passes_of (X := cxOf (L2.CX P w) P w K mg base ["takes", "puts", "numbers", "low", "high", "middle"] "core_of" (defScope s_core_of) t.a_core_of cdv A outer s H E) rfl
    have tk := takes_of (X := cxOf (L2.CX P w) P w K mg base ["takes", "puts", "numbers", "low", "high", "middle"] "core_of" (defScope s_core_of) t.a_core_of cdv A outer s H E) (E := E) rfl rfl rfl rfl
    delta b_core_of
    exact ⟨_, (ss_cons (ss_par (fun u h => ps_par rfl sc_core_of.nd (i := 3) (j := 4) rfl rfl (by decide) rfl rfl h (by rfl)) (sa_cons se_int (sa_cons (se_blt call_len d_len rfl t.z_len PyProof.Rows.Boot.«len» (sa_cons (se_v (pv 0)) sa_nil)) sa_nil)))
    (ss_cons (ss_W [0, 1, 2, 4, 5] (ss_P [5] (ss_while FUEL hp (st_cmp op_lt d_B0 (se_v (pv 3)) (se_v (pv 4))) (sss_W [5] (ss_cons (ss_set (i := 5) sc_core_of.nd rfl (by first | exact .inl rfl | exact .inr rfl) (se_op op_fdiv d_div (se_op op_addA d_add (se_v (pv 3)) (se_v (pv 4))) se_int))
    (ss_one (ss_if (st_val (se_call (ms := [false, false, false, false]) (dfl := []) (dvs := []) (ok_succeeds_from t) tk (hr.mono (by decide)) gd rfl t.g_succeeds_from t.k_succeeds_from (bd_succeeds_from t) (fun _ => RpL.nil) (sa_cons (se_v (pv 0)) (sa_cons (se_v (pv 1)) (sa_cons (se_v (pv 2)) (sa_cons (se_v (pv 5)) sa_nil)))) (ar_cons (ar_cons (ar_cons (ar_cons ar_nil)))))) (ss_one (ss_set (i := 4) sc_core_of.nd rfl (by first | exact .inl rfl | exact .inr rfl) (se_v (pv 5)))) (ss_one (ss_set (i := 3) sc_core_of.nd rfl (by first | exact .inl rfl | exact .inr rfl) (se_op op_addA d_add (se_v (pv 5)) se_int))))))))))
    (ss_one (ss_ret (se_v (pv 3))))))⟩)
  exact F
theorem bd_counts (t : Txt K mg) : Bd K t.fd_counts ["program"] [] 1 (· ++ []) (· ++ []) := Bd.dfl rfl (t.F_counts.binds (ps := ["program"]) fun _ _ _ _ _ _ us hl => match us, hl with | [_], _ => rfl) .nil
theorem ok_counts (t : Txt K mg) : FnG P w K mg base 2 t.a_counts t.fd_counts ["program"] (spD t.tb 1 m_counts) := by
  have F := fn_ok (P := P) (w := w) (base := base) (mg := mg) (T := t.tb) (k := 1) (fb := b_counts) t.F_counts sc_counts (fun cdv A outer s H E hr gd => by
    have hu := hr.units
    have hu5 := units65 hr
    have hp := passes_of (X := cxOf (L2.CX P w) P w K mg base ["program", "found", "number", "step"] "counts" (defScope s_counts) t.a_counts cdv A outer s H E) rfl
    have tk := takes_of (X := cxOf (L2.CX P w) P w K mg base ["program", "found", "number", "step"] "counts" (defScope s_counts) t.a_counts cdv A outer s H E) (E := E) rfl rfl rfl rfl
    delta b_counts
    exact ⟨_, (ss_cons (ss_set (i := 1) sc_counts.nd rfl (by first | exact .inl rfl | exact .inr rfl) (se_lst sa_nil))
    (ss_cons (ss_set (i := 2) sc_counts.nd rfl (by first | exact .inl rfl | exact .inr rfl) se_int)
    (ss_cons (ss_W [0, 2, 3] (ss_P [3] (ss_for hp rfl (si_seq rfl (se_v (pv 0))) (tg_n (pg_name (i := 3) sc_counts.nd rfl (by first | exact .inl rfl | exact .inr rfl))) (sss_W [3] (ss_one (ss_if (st_cmp (op_inA hu5) (d_in id) (se_v (pv 3)) (se_gl (v := .str "abcdefgh") (d := .str [97, 98, 99, 100, 101, 102, 103, 104]) rfl t.g_ITEMS ⟨_, rfl⟩ (by intro _; simp only [Rp]; rfl))) (ss_one (ss_aug (i := 2) sc_counts.nd rfl (by first | exact .inl rfl | exact .inr rfl) se_int iop_addA d_augAdd)) (ss_one (ss_expr (se_mu (fun u k => pe_bm PySem.F.plainAttrs_list PySem.F.slot_list_append PySem.F.type_list_append mt_append (pv 1) k) d_app (sa_cons (se_v (pv 2)) sa_nil))))))))))
    (ss_one (ss_ret (se_v (pv 1)))))))⟩)
  exact F
theorem bd_triple (t : Txt K mg) : Bd K t.fd_triple ["program"] [] 1 (· ++ []) (· ++ []) := Bd.dfl rfl (t.F_triple.binds (ps := ["program"]) fun _ _ _ _ _ _ us hl => match us, hl with | [_], _ => rfl) .nil
theorem ok_triple (t : Txt K mg) : FnG P w K mg base 8 t.a_triple t.fd_triple ["program"] (spD t.tb 1 m_triple) := by
  have F := fn_ok (P := P) (w := w) (base := base) (mg := mg) (T := t.tb) (k := 7) (fb := b_triple) t.F_triple sc_triple (fun cdv A outer s H E hr gd => by
    have hu := hr.units
    have hu5 := units65 hr
    have hp := passes_of (X := cxOf (L2.CX P w) P w K mg base ["program", "takes", "puts"] "triple" (defScope s_triple) t.a_triple cdv A outer s H E) rfl
    have tk := takes_of (X := cxOf (L2.CX P w) P w K mg base ["program", "takes", "puts"] "triple" (defScope s_triple) t.a_triple cdv A outer s H E) (E := E) rfl rfl rfl rfl
    delta b_triple
    exact ⟨_, (ss_cons (ss_par (fun u h => ps_par rfl sc_triple.nd (i := 1) (j := 2) rfl rfl (by decide) rfl rfl h (by rfl)) (sa_cons (se_call (ms := [false]) (dfl := []) (dvs := []) (ok_taken t) tk (hr.mono (by decide)) gd rfl t.g_taken t.k_taken (bd_taken t) (fun _ => RpL.nil) (sa_cons (se_v (pv 0)) sa_nil) (ar_cons ar_nil)) (sa_cons (se_call (ms := [false]) (dfl := []) (dvs := []) (ok_put_items t) tk (hr.mono (by decide)) gd rfl t.g_put_items t.k_put_items (bd_put_items t) (fun _ => RpL.nil) (sa_cons (se_v (pv 0)) sa_nil) (ar_cons ar_nil)) sa_nil)))
    (ss_one (ss_ret (se_tup (sa_cons (se_v (pv 1)) (sa_cons (se_v (pv 2)) (sa_cons (se_call (ms := [false, false, false]) (dfl := []) (dvs := []) (ok_core_of t) tk (hr.mono (by decide)) gd rfl t.g_core_of t.k_core_of (bd_core_of t) (fun _ => RpL.nil) (sa_cons (se_v (pv 1)) (sa_cons (se_v (pv 2)) (sa_cons (se_call (ms := [false]) (dfl := []) (dvs := []) (ok_counts t) tk (hr.mono (by decide)) gd rfl t.g_counts t.k_counts (bd_counts t) (fun _ => RpL.nil) (sa_cons (se_v (pv 0)) sa_nil) (ar_cons ar_nil)) sa_nil))) (ar_cons (ar_cons (ar_cons ar_nil)))) sa_nil)))))))⟩)
  exact F
theorem bd_equivalent (t : Txt K mg) : Bd K t.fd_equivalent ["first", "second"] [] 2 (· ++ []) (· ++ []) := Bd.dfl rfl (t.F_equivalent.binds (ps := ["first", "second"]) fun _ _ _ _ _ _ us hl => match us, hl with | [_, _], _ => rfl) .nil
theorem ok_equivalent (t : Txt K mg) : FnG P w K mg base 9 t.a_equivalent t.fd_equivalent ["first", "second"] (spD t.tb 2 m_equivalent) := by
  have F := fn_ok (P := P) (w := w) (base := base) (mg := mg) (T := t.tb) (k := 8) (fb := b_equivalent) t.F_equivalent sc_equivalent (fun cdv A outer s H E hr gd => by
    have hu := hr.units
    have hu5 := units65 hr
    have hp := passes_of (X := cxOf (L2.CX P w) P w K mg base ["first", "second"] "equivalent" (defScope s_equivalent) t.a_equivalent cdv A outer s H E) rfl
    have tk := takes_of (X := cxOf (L2.CX P w) P w K mg base ["first", "second"] "equivalent" (defScope s_equivalent) t.a_equivalent cdv A outer s H E) (E := E) rfl rfl rfl rfl
    delta b_equivalent
    exact ⟨_, (ss_cons (ss_expr (se_call (ms := [false]) (dfl := []) (dvs := []) (ok_require_program t) tk (hr.mono (by decide)) gd rfl t.g_require_program t.k_require_program (bd_require_program t) (fun _ => RpL.nil) (sa_cons (se_v (pv 0)) sa_nil) (ar_cons ar_nil)))
    (ss_cons (ss_expr (se_call (ms := [false]) (dfl := []) (dvs := []) (ok_require_program t) tk (hr.mono (by decide)) gd rfl t.g_require_program t.k_require_program (bd_require_program t) (fun _ => RpL.nil) (sa_cons (se_v (pv 1)) sa_nil) (ar_cons ar_nil)))
    (ss_one (ss_ret (se_cmp (op_eqA hu) d_eqA (se_call (ms := [false]) (dfl := []) (dvs := []) (ok_triple t) tk (hr.mono (by decide)) gd rfl t.g_triple t.k_triple (bd_triple t) (fun _ => RpL.nil) (sa_cons (se_v (pv 0)) sa_nil) (ar_cons ar_nil)) (se_call (ms := [false]) (dfl := []) (dvs := []) (ok_triple t) tk (hr.mono (by decide)) gd rfl t.g_triple t.k_triple (bd_triple t) (fun _ => RpL.nil) (sa_cons (se_v (pv 1)) sa_nil) (ar_cons ar_nil)))))))⟩)
  exact F
theorem bd_Effect_takes (t : Txt K mg) : Bd K t.fd_Effect_takes ["self"] [] 1 (· ++ []) (· ++ []) := Bd.dfl rfl (t.F_Effect_takes.binds (ps := ["self"]) fun _ _ _ _ _ _ us hl => match us, hl with | [_], _ => rfl) .nil
theorem ok_Effect_takes (t : Txt K mg) : FnG P w K mg base 2 t.a_Effect_takes t.fd_Effect_takes ["self"] (spD t.tb 1 m_Effect_takes) := by
  have F := fn_ok (P := P) (w := w) (base := base) (mg := mg) (T := t.tb) (k := 1) (fb := b_Effect_takes) t.F_Effect_takes sc_Effect_takes (fun cdv A outer s H E hr gd => by
    have hu := hr.units
    have hu5 := units65 hr
    have hp := passes_of (X := cxOf (L2.CX P w) P w K mg base ["self"] "Effect.takes" (defScope s_Effect_takes) t.a_Effect_takes cdv A outer s H E) rfl
    have tk := takes_of (X := cxOf (L2.CX P w) P w K mg base ["self"] "Effect.takes" (defScope s_Effect_takes) t.a_Effect_takes cdv A outer s H E) (E := E) rfl rfl rfl rfl
    delta b_Effect_takes
    exact ⟨_, (ss_one (ss_ret (se_fld (l := [(5, 0)]) (fl_cons (fa_Effect_own_takes t) fl_nil) (se_v (pv 0)))))⟩)
  exact F
theorem bd_is_word (t : Txt K mg) : Bd K t.fd_is_word ["value"] [] 1 (· ++ []) (· ++ []) := Bd.dfl rfl (t.F_is_word.binds (ps := ["value"]) fun _ _ _ _ _ _ us hl => match us, hl with | [_], _ => rfl) .nil
theorem ok_is_word (t : Txt K mg) : FnG P w K mg base 2 t.a_is_word t.fd_is_word ["value"] (spD t.tb 1 m_is_word) := by
  have F := fn_ok (P := P) (w := w) (base := base) (mg := mg) (T := t.tb) (k := 1) (fb := b_is_word) t.F_is_word sc_is_word (fun cdv A outer s H E hr gd => by
    have hu := hr.units
    have hu5 := units65 hr
    have hp := passes_of (X := cxOf (L2.CX P w) P w K mg base ["value", "item"] "is_word" (defScope s_is_word) t.a_is_word cdv A outer s H E) rfl
    have tk := takes_of (X := cxOf (L2.CX P w) P w K mg base ["value", "item"] "is_word" (defScope s_is_word) t.a_is_word cdv A outer s H E) (E := E) rfl rfl rfl rfl
    delta b_is_word
    exact ⟨_, (ss_one (ss_ret (se_and (se_isn (t := .str) rfl rfl t.z_isinstance rfl t.z_str PyProof.Rows.Boot.«str» (se_v (pv 0))) (se_and (se_cmp op_le d_B0 (se_blt call_len d_len rfl t.z_len PyProof.Rows.Boot.«len» (sa_cons (se_v (pv 0)) sa_nil)) (se_gl (v := .int 400) (d := .int 400) rfl t.g_MAX_ITEMS ⟨_, rfl⟩ (by intro _; simp only [Rp]))) (se_one (se_blt (cr_all rfl) d_all rfl t.z_all PyProof.Rows.Boot.«all» (sa_cons (se_lc (own := [("item", 1)]) rfl sc_is_word.nd (si_seq rfl (se_v (pv 0))) (blkOk_by (by kernel_rfl)) (fun s H C cl fp => (tg_n (pg_name (i := 1) sc_is_word.nd rfl (by first | exact .inl rfl | exact .inr rfl)))) (fun s H C cl fp => sts_nil) (fun s H C cl fp => (se_cmp (op_inA hu5) (d_in id) (se_v (pv 1)) (se_gl (v := .str "abcdefgh") (d := .str [97, 98, 99, 100, 101, 102, 103, 104]) rfl t.g_ITEMS ⟨_, rfl⟩ (by intro _; simp only [Rp]; rfl))))) sa_nil)))))))⟩)
  exact F
theorem bd_require_word (t : Txt K mg) : Bd K t.fd_require_word ["value"] [] 1 (· ++ []) (· ++ []) := Bd.dfl rfl (t.F_require_word.binds (ps := ["value"]) fun _ _ _ _ _ _ us hl => match us, hl with | [_], _ => rfl) .nil
theorem ok_require_word (t : Txt K mg) : FnG P w K mg base 4 t.a_require_word t.fd_require_word ["value"] (spD t.tb 1 m_require_word) := by
  have F := fn_ok (P := P) (w := w) (base := base) (mg := mg) (T := t.tb) (k := 3) (fb := b_require_word) t.F_require_word sc_require_word (fun cdv A outer s H E hr gd => by
    have hu := hr.units
    have hu5 := units65 hr
    have hp := passes_of (X := cxOf (L2.CX P w) P w K mg base ["value"] "require_word" (defScope s_require_word) t.a_require_word cdv A outer s H E) rfl
    have tk := takes_of (X := cxOf (L2.CX P w) P w K mg base ["value"] "require_word" (defScope s_require_word) t.a_require_word cdv A outer s H E) (E := E) rfl rfl rfl rfl
    delta b_require_word
    exact ⟨_, (ss_one (ss_if (st_not (st_val (se_call (ms := [false]) (dfl := []) (dvs := []) (ok_is_word t) tk (hr.mono (by decide)) gd rfl t.g_is_word t.k_is_word (bd_is_word t) (fun _ => RpL.nil) (sa_cons (se_v (pv 0)) sa_nil) (ar_cons ar_nil)))) (ss_one (ss_raise rfl tk (fun u h => pmk_x t.x_InvalidWord t.i_InvalidWord t.j_InvalidWord (init_InvalidWord t) (hr.mono (by decide)) (ib_InvalidWord t) rfl t.g_InvalidWord h) (se_v (pv 0)) rfl)) ss_nil))⟩)
  exact F
theorem bd_is_integer (t : Txt K mg) : Bd K t.fd_is_integer ["value"] [] 1 (· ++ []) (· ++ []) := Bd.dfl rfl (t.F_is_integer.binds (ps := ["value"]) fun _ _ _ _ _ _ us hl => match us, hl with | [_], _ => rfl) .nil
theorem ok_is_integer (t : Txt K mg) : FnG P w K mg base 2 t.a_is_integer t.fd_is_integer ["value"] (spD t.tb 1 m_is_integer) := by
  have F := fn_ok (P := P) (w := w) (base := base) (mg := mg) (T := t.tb) (k := 1) (fb := b_is_integer) t.F_is_integer sc_is_integer (fun cdv A outer s H E hr gd => by
    have hu := hr.units
    have hu5 := units65 hr
    have hp := passes_of (X := cxOf (L2.CX P w) P w K mg base ["value"] "is_integer" (defScope s_is_integer) t.a_is_integer cdv A outer s H E) rfl
    have tk := takes_of (X := cxOf (L2.CX P w) P w K mg base ["value"] "is_integer" (defScope s_is_integer) t.a_is_integer cdv A outer s H E) (E := E) rfl rfl rfl rfl
    delta b_is_integer
    exact ⟨_, (ss_one (ss_ret (se_and (se_isn (t := .int) rfl rfl t.z_isinstance rfl t.z_int PyProof.Rows.Boot.«int» (se_v (pv 0))) (se_one (se_not (se_isn (t := .bool) rfl rfl t.z_isinstance rfl t.z_bool PyProof.Rows.Boot.«bool» (se_v (pv 0))))))))⟩)
  exact F
theorem bd_is_within (t : Txt K mg) : Bd K t.fd_is_within ["part", "word"] [] 2 (· ++ []) (· ++ []) := Bd.dfl rfl (t.F_is_within.binds (ps := ["part", "word"]) fun _ _ _ _ _ _ us hl => match us, hl with | [_, _], _ => rfl) .nil
theorem ok_is_within (t : Txt K mg) : FnG P w K mg base 6 t.a_is_within t.fd_is_within ["part", "word"] (spD t.tb 2 m_is_within) := by
  have F := fn_ok (P := P) (w := w) (base := base) (mg := mg) (T := t.tb) (k := 5) (fb := b_is_within) t.F_is_within sc_is_within (fun cdv A outer s H E hr gd => by
    have hu := hr.units
    have hu5 := units65 hr
    have hp := passes_of (X := cxOf (L2.CX P w) P w K mg base ["part", "word"] "is_within" (defScope s_is_within) t.a_is_within cdv A outer s H E) rfl
    have tk := takes_of (X := cxOf (L2.CX P w) P w K mg base ["part", "word"] "is_within" (defScope s_is_within) t.a_is_within cdv A outer s H E) (E := E) rfl rfl rfl rfl
    delta b_is_within
    exact ⟨_, (ss_one (ss_ret (se_cmp (op_eqA hu) d_eqA (se_blt call_len d_len rfl t.z_len PyProof.Rows.Boot.«len» (sa_cons (se_listG (ok_places t) (hr.mono (by decide)) rfl t.g_places t.k_places (bn_places t) rfl t.z_list PyProof.Rows.Boot.«list» (sa_cons (se_v (pv 0)) (sa_cons (se_v (pv 1)) sa_nil)) (ar_cons (ar_cons ar_nil))) sa_nil)) (se_blt call_len d_len rfl t.z_len PyProof.Rows.Boot.«len» (sa_cons (se_v (pv 0)) sa_nil)))))⟩)
  exact F
theorem bd_Effect_is_core (t : Txt K mg) : Bd K t.fd_Effect_is_core ["takes", "puts", "core"] [] 3 (· ++ []) (· ++ []) := Bd.dfl rfl (t.F_Effect_is_core.binds (ps := ["takes", "puts", "core"]) fun _ _ _ _ _ _ us hl => match us, hl with | [_, _, _], _ => rfl) .nil
theorem ok_Effect_is_core (t : Txt K mg) : FnG P w K mg base 7 t.a_Effect_is_core t.fd_Effect_is_core ["takes", "puts", "core"] (spD t.tb 3 m_Effect_is_core) := by
  have F := fn_ok (P := P) (w := w) (base := base) (mg := mg) (T := t.tb) (k := 6) (fb := b_Effect_is_core) t.F_Effect_is_core sc_Effect_is_core (fun cdv A outer s H E hr gd => by
    have hu := hr.units
    have hu5 := units65 hr
    have hp := passes_of (X := cxOf (L2.CX P w) P w K mg base ["takes", "puts", "core"] "Effect.is_core" (defScope s_Effect_is_core) t.a_Effect_is_core cdv A outer s H E) rfl
    have tk := takes_of (X := cxOf (L2.CX P w) P w K mg base ["takes", "puts", "core"] "Effect.is_core" (defScope s_Effect_is_core) t.a_Effect_is_core cdv A outer s H E) (E := E) rfl rfl rfl rfl
    delta b_Effect_is_core
    exact ⟨_, (ss_cons (ss_expr (se_call (ms := [false]) (dfl := []) (dvs := []) (ok_require_word t) tk (hr.mono (by decide)) gd rfl t.g_require_word t.k_require_word (bd_require_word t) (fun _ => RpL.nil) (sa_cons (se_v (pv 0)) sa_nil) (ar_cons ar_nil)))
    (ss_cons (ss_expr (se_call (ms := [false]) (dfl := []) (dvs := []) (ok_require_word t) tk (hr.mono (by decide)) gd rfl t.g_require_word t.k_require_word (bd_require_word t) (fun _ => RpL.nil) (sa_cons (se_v (pv 1)) sa_nil) (ar_cons ar_nil)))
    (ss_one (ss_ret (se_and (se_call (ms := [false]) (dfl := []) (dvs := []) (ok_is_integer t) tk (hr.mono (by decide)) gd rfl t.g_is_integer t.k_is_integer (bd_is_integer t) (fun _ => RpL.nil) (sa_cons (se_v (pv 2)) sa_nil) (ar_cons ar_nil)) (se_and (se_chain op_le d_B0 op_le d_B0 se_int (se_v (pv 2)) (se_blt call_len d_len rfl t.z_len PyProof.Rows.Boot.«len» (sa_cons (se_v (pv 0)) sa_nil))) (se_one (se_call (ms := [false, false]) (dfl := []) (dvs := []) (ok_is_within t) tk (hr.mono (by decide)) gd rfl t.g_is_within t.k_is_within (bd_is_within t) (fun _ => RpL.nil) (sa_cons (se_sl rfl (se_v (pv 0)) (so_some (se_v (pv 2))) so_none) (sa_cons (se_v (pv 1)) sa_nil)) (ar_cons (ar_cons ar_nil))))))))))⟩)
  exact F
theorem bd_Effect_init (t : Txt K mg) : Bd K t.fd_Effect_init ["self", "takes", "puts", "core"] [] 4 (· ++ []) (· ++ []) := Bd.dfl rfl (t.F_Effect_init.binds (ps := ["self", "takes", "puts", "core"]) fun _ _ _ _ _ _ us hl => match us, hl with | [_, _, _, _], _ => rfl) .nil
theorem ok_Effect_init (t : Txt K mg) : FnG P w K mg base 9 t.a_Effect_init t.fd_Effect_init ["self", "takes", "puts", "core"] (spD t.tb 4 m_Effect_init) := by
  have F := fn_ok (P := P) (w := w) (base := base) (mg := mg) (T := t.tb) (k := 8) (fb := b_Effect_init) t.F_Effect_init sc_Effect_init (fun cdv A outer s H E hr gd => by
    have hu := hr.units
    have hu5 := units65 hr
    have hp := passes_of (X := cxOf (L2.CX P w) P w K mg base ["self", "takes", "puts", "core"] "Effect.__init__" (defScope s_Effect_init) t.a_Effect_init cdv A outer s H E) rfl
    have tk := takes_of (X := cxOf (L2.CX P w) P w K mg base ["self", "takes", "puts", "core"] "Effect.__init__" (defScope s_Effect_init) t.a_Effect_init cdv A outer s H E) (E := E) rfl rfl rfl rfl
    delta b_Effect_init
    exact ⟨_, (ss_cons (ss_expr (se_call (ms := [false]) (dfl := []) (dvs := []) (ok_require_word t) tk (hr.mono (by decide)) gd rfl t.g_require_word t.k_require_word (bd_require_word t) (fun _ => RpL.nil) (sa_cons (se_v (pv 1)) sa_nil) (ar_cons ar_nil)))
    (ss_cons (ss_expr (se_call (ms := [false]) (dfl := []) (dvs := []) (ok_require_word t) tk (hr.mono (by decide)) gd rfl t.g_require_word t.k_require_word (bd_require_word t) (fun _ => RpL.nil) (sa_cons (se_v (pv 2)) sa_nil) (ar_cons ar_nil)))
    (ss_cons (ss_if (st_not (st_val (se_sta (ms := [false, false, false]) (ok_Effect_is_core t) tk (hr.mono (by decide)) gd rfl t.g_Effect t.cr_Effect t.st_Effect_is_core (bd_Effect_is_core t) (sa_cons (se_v (pv 1)) (sa_cons (se_v (pv 2)) (sa_cons (se_v (pv 3)) sa_nil))) (ar_cons (ar_cons (ar_cons ar_nil)))))) (ss_one (ss_raise rfl tk (fun u h => pmk_x t.x_InvalidCore t.i_InvalidCore t.j_InvalidCore (init_InvalidCore t) (hr.mono (by decide)) (ib_InvalidCore t) rfl t.g_InvalidCore h) (se_v (pv 3)) rfl)) ss_nil)
    (ss_cons (ss_if (st_cmp op_gt d_B0 (se_op op_addA d_add (se_blt call_len d_len rfl t.z_len PyProof.Rows.Boot.«len» (sa_cons (se_v (pv 1)) sa_nil)) (se_blt call_len d_len rfl t.z_len PyProof.Rows.Boot.«len» (sa_cons (se_v (pv 2)) sa_nil))) (se_cval rfl t.g_Effect t.cr_Effect t.cv_Effect_MAX_ITEMS (d := .int 400) (by intro _; simp only [Rp]))) (ss_one (ss_raise rfl tk (fun u h => pmk_x t.x_LimitExceeded t.i_LimitExceeded t.j_LimitExceeded (init_LimitExceeded t) (hr.mono (by decide)) (ib_LimitExceeded t) rfl t.g_LimitExceeded h) (se_cval rfl t.g_Effect t.cr_Effect t.cv_Effect_MAX_ITEMS (d := .int 400) (by intro _; simp only [Rp])) rfl)) ss_nil)
    (ss_cons (ss_setF (l := [(6, 7, 0)]) (sl_cons (sa_Effect_own_takes t) sl_nil) (pv 0) (se_v (pv 1)))
    (ss_cons (ss_setF (l := [(7, 8, 1)]) (sl_cons (sa_Effect_own_puts t) sl_nil) (pv 0) (se_v (pv 2)))
    (ss_one (ss_setF (l := [(8, 5, 2)]) (sl_cons (sa_Effect_own_core t) sl_nil) (pv 0) (se_v (pv 3))))))))))⟩)
  exact F
theorem bd_Effect_of (t : Txt K mg) : Bd K t.fd_Effect_of ["cls", "program"] [] 2 (· ++ []) (· ++ []) := Bd.dfl rfl (t.F_Effect_of.binds (ps := ["cls", "program"]) fun _ _ _ _ _ _ us hl => match us, hl with | [_, _], _ => rfl) .nil
theorem ok_Effect_of (t : Txt K mg) : FnG P w K mg base 11 t.a_Effect_of t.fd_Effect_of ["cls", "program"] (spD t.tb 2 m_Effect_of) := by
  have F := fn_ok (P := P) (w := w) (base := base) (mg := mg) (T := t.tb) (k := 10) (fb := b_Effect_of) t.F_Effect_of sc_Effect_of (fun cdv A outer s H E hr gd => by
    have hu := hr.units
    have hu5 := units65 hr
    have hp := passes_of (X := cxOf (L2.CX P w) P w K mg base ["cls", "program", "takes", "puts", "core"] "Effect.of" (defScope s_Effect_of) t.a_Effect_of cdv A outer s H E) rfl
    have tk := takes_of (X := cxOf (L2.CX P w) P w K mg base ["cls", "program", "takes", "puts", "core"] "Effect.of" (defScope s_Effect_of) t.a_Effect_of cdv A outer s H E) (E := E) rfl rfl rfl rfl
    delta b_Effect_of
    exact ⟨_, (ss_cons (ss_expr (se_call (ms := [false]) (dfl := []) (dvs := []) (ok_require_program t) tk (hr.mono (by decide)) gd rfl t.g_require_program t.k_require_program (bd_require_program t) (fun _ => RpL.nil) (sa_cons (se_v (pv 1)) sa_nil) (ar_cons ar_nil)))
    (ss_cons (ss_tgt (tg_t rfl rfl (tgs_cons (tg_n (pg_name (i := 2) sc_Effect_of.nd rfl (by first | exact .inl rfl | exact .inr rfl))) (tgs_cons (tg_n (pg_name (i := 3) sc_Effect_of.nd rfl (by first | exact .inl rfl | exact .inr rfl))) (tgs_cons (tg_n (pg_name (i := 4) sc_Effect_of.nd rfl (by first | exact .inl rfl | exact .inr rfl))) tgs_nil)))) (se_call (ms := [false]) (dfl := []) (dvs := []) (ok_triple t) tk (hr.mono (by decide)) gd rfl t.g_triple t.k_triple (bd_triple t) (fun _ => RpL.nil) (sa_cons (se_v (pv 1)) sa_nil) (ar_cons ar_nil)))
    (ss_one (ss_ret (se_make (c := 5) (c0 := 6) (ok_Effect_init t) tk (hr.mono (by decide)) gd t.mk_Effect (bd_Effect_init t) rfl rfl rfl (se_v (pv 0)) (sa_cons (se_v (pv 2)) (sa_cons (se_v (pv 3)) (sa_cons (se_v (pv 4)) sa_nil))) (ar_cons (ar_cons (ar_cons ar_nil))))))))⟩)
  exact F
theorem bd_law_best (t : Txt K mg) : Bd K t.fd_law_best ["_law_moves", "_law_word"] [] 2 (· ++ []) (· ++ []) := Bd.dfl rfl (t.F_law_best.binds (ps := ["_law_moves", "_law_word"]) fun _ _ _ _ _ _ us hl => match us, hl with | [_, _], _ => rfl) .nil
theorem ok_law_best (t : Txt K mg) : FnG P w K mg base 2 t.a_law_best t.fd_law_best ["_law_moves", "_law_word"] (spD t.tb 2 m_law_best) := by
  have F := fn_ok (P := P) (w := w) (base := base) (mg := mg) (T := t.tb) (k := 1) (fb := b_law_best) t.F_law_best sc_law_best (fun cdv A outer s H E hr gd => by
    have hu := hr.units
    have hu5 := units65 hr
    have hp := passes_of (X := cxOf (L2.CX P w) P w K mg base ["_law_moves", "_law_word", "_law_step"] "_law_best" (defScope s_law_best) t.a_law_best cdv A outer s H E) rfl
    have tk := takes_of (X := cxOf (L2.CX P w) P w K mg base ["_law_moves", "_law_word", "_law_step"] "_law_best" (defScope s_law_best) t.a_law_best cdv A outer s H E) (E := E) rfl rfl rfl rfl
    delta b_law_best
    exact ⟨_, (ss_cons (ss_W [0, 2] (ss_P [2] (ss_for hp rfl (si_seq rfl (se_v (pv 0))) (tg_n (pg_name (i := 2) sc_law_best.nd rfl (by first | exact .inl rfl | exact .inr rfl))) (sss_W [2] (ss_one (ss_if (st_cmp (op_inA hu5) (d_in id) (se_v (pv 2)) (se_str (l := [97, 98, 99, 100, 101, 102, 103, 104]) rfl)) (ss_one (ss_set (i := 1) sc_law_best.nd rfl (by first | exact .inl rfl | exact .inr rfl) (se_op op_addA d_add (se_v (pv 1)) (se_v (pv 2))))) (ss_one (ss_if (st_cmp (op_inA hu5) (d_in id) (se_mt0 (fun u h => pe_bm0 PySem.F.plainAttrs_str PySem.F.slot_str_lower PySem.F.type_str_lower mt_lower h) d_lower (se_v (pv 2))) (se_v (pv 1))) (ss_one (ss_set (i := 1) sc_law_best.nd rfl (by first | exact .inl rfl | exact .inr rfl) (se_sl rfl (se_v (pv 1)) (so_some (se_op op_addA d_add (se_mt (fun u v h k => pe_bm PySem.F.plainAttrs_str PySem.F.slot_str_index PySem.F.type_str_index mt_sindex h k) d_index (se_v (pv 1)) (sa_cons (se_mt0 (fun u h => pe_bm0 PySem.F.plainAttrs_str PySem.F.slot_str_lower PySem.F.type_str_lower mt_lower h) d_lower (se_v (pv 2))) sa_nil)) se_int)) so_none))) (ss_one (ss_ret se_non))))))))))
    (ss_one (ss_ret (se_v (pv 1)))))⟩)
  exact F
theorem bd_law (t : Txt K mg) : Bd K t.fd_law ["_law_script"] [] 1 (· ++ []) (· ++ []) := Bd.dfl rfl (t.F_law.binds (ps := ["_law_script"]) fun _ _ _ _ _ _ us hl => match us, hl with | [_], _ => rfl) .nil
theorem ok_law (t : Txt K mg) : FnG P w K mg base 13 t.a_law t.fd_law ["_law_script"] (spD t.tb 1 m_law) := by
  have F := fn_ok (P := P) (w := w) (base := base) (mg := mg) (T := t.tb) (k := 12) (fb := b_law) t.F_law sc_law (fun cdv A outer s H E hr gd => by
    have hu := hr.units
    have hu5 := units65 hr
    have hp := passes_of (X := cxOf (L2.CX P w) P w K mg base ["_law_script", "_law_words_here", "_law_k", "_law_pool_here", "_law_former", "_law_spot", "_law_latter", "_law_size", "_law_some", "_law_due", "_law_word"] "law" (defScope s_law) t.a_law cdv A outer s H E) rfl
    have tk := takes_of (X := cxOf (L2.CX P w) P w K mg base ["_law_script", "_law_words_here", "_law_k", "_law_pool_here", "_law_former", "_law_spot", "_law_latter", "_law_size", "_law_some", "_law_due", "_law_word"] "law" (defScope s_law) t.a_law cdv A outer s H E) (E := E) rfl rfl rfl rfl
    delta b_law
    exact ⟨_, (ss_cons (ss_set (i := 1) sc_law.nd rfl (by first | exact .inl rfl | exact .inr rfl) (se_call (ms := [false, false]) (dfl := []) (dvs := []) (ok_law_words t) tk (hr.mono (by decide)) gd rfl t.g_law_words t.k_law_words (bd_law_words t) (fun _ => RpL.nil) (sa_cons (se_str (l := [97, 98, 99]) rfl) (sa_cons se_int sa_nil)) (ar_cons (ar_cons ar_nil))))
    (ss_cons (ss_W [0, 1, 2, 3, 4, 5, 6, 7, 8, 9, 10] (ss_P [2, 3, 4, 5, 6, 7, 8, 9, 10] (ss_for hp rfl (si_rg1 rfl t.z_range (sa_cons (se_blt (call_max2 rfl) d_max2 rfl t.z_max PyProof.Rows.Boot.«max» (sa_cons se_int (sa_cons (se_blt (call_min2 rfl) d_min2 rfl t.z_min PyProof.Rows.Boot.«min» (sa_cons se_int (sa_cons (se_blt call_len d_len rfl t.z_len PyProof.Rows.Boot.«len» (sa_cons (se_v (pv 0)) sa_nil)) sa_nil))) sa_nil))) sa_nil)) (tg_n (pg_name (i := 2) sc_law.nd rfl (by first | exact .inl rfl | exact .inr rfl))) (sss_W [2, 3, 4, 5, 6, 7, 8, 9, 10] (ss_cons (ss_set (i := 3) sc_law.nd rfl (by first | exact .inl rfl | exact .inr rfl) (se_call (ms := [false, false]) (dfl := []) (dvs := []) (ok_law_pool t) tk (hr.mono (by decide)) gd rfl t.g_law_pool t.k_law_pool (bd_law_pool t) (fun _ => RpL.nil) (sa_cons (se_v (pv 0)) (sa_cons (se_v (pv 2)) sa_nil)) (ar_cons (ar_cons ar_nil))))
    (ss_cons (ss_set (i := 4) sc_law.nd rfl (by first | exact .inl rfl | exact .inr rfl) (se_call (ms := [true, false, false]) (dfl := []) (dvs := []) (ok_law_program t) tk (hr.mono (by decide)) gd rfl t.g_law_program t.k_law_program (bd_law_program t) (fun _ => RpL.nil) (sa_cons (se_v (pv 3)) (sa_cons se_int (sa_cons se_int sa_nil))) (ar_cons (ar_cons (ar_cons ar_nil)))))
    (ss_cons (ss_set (i := 5) sc_law.nd rfl (by first | exact .inl rfl | exact .inr rfl) (se_call (ms := [true, false]) (dfl := []) (dvs := []) (ok_law_take t) tk (hr.mono (by decide)) gd rfl t.g_law_take t.k_law_take (bd_law_take t) (fun _ => RpL.nil) (sa_cons (se_v (pv 3)) (sa_cons se_int sa_nil)) (ar_cons (ar_cons ar_nil))))
    (ss_cons (ss_set (i := 6) sc_law.nd rfl (by first | exact .inl rfl | exact .inr rfl) (se_op op_addA d_add (se_op op_addA d_add (se_sl rfl (se_v (pv 4)) so_none (so_some (se_v (pv 5)))) (se_revB rfl (se_sl rfl (se_v (pv 4)) (so_some (se_v (pv 5))) (so_some (se_op op_addA d_add (se_v (pv 5)) se_int))))) (se_sl rfl (se_v (pv 4)) (so_some (se_op op_addA d_add (se_v (pv 5)) se_int)) so_none)))
    (ss_cons (ss_if (st_cmp (op_eqA hu) d_eqA (se_call (ms := [true, false]) (dfl := []) (dvs := []) (ok_law_take t) tk (hr.mono (by decide)) gd rfl t.g_law_take t.k_law_take (bd_law_take t) (fun _ => RpL.nil) (sa_cons (se_v (pv 3)) (sa_cons se_int sa_nil)) (ar_cons (ar_cons ar_nil))) se_int) (ss_one (ss_set (i := 6) sc_law.nd rfl (by first | exact .inl rfl | exact .inr rfl) (se_call (ms := [true, false, false]) (dfl := []) (dvs := []) (ok_law_program t) tk (hr.mono (by decide)) gd rfl t.g_law_program t.k_law_program (bd_law_program t) (fun _ => RpL.nil) (sa_cons (se_v (pv 3)) (sa_cons se_int (sa_cons se_int sa_nil))) (ar_cons (ar_cons (ar_cons ar_nil)))))) ss_nil)
    (ss_cons (ss_set (i := 7) sc_law.nd rfl (by first | exact .inl rfl | exact .inr rfl) (se_op op_addA d_add se_int (se_blt (call_min2 rfl) d_min2 rfl t.z_min PyProof.Rows.Boot.«min» (sa_cons (se_blt call_len d_len rfl t.z_len PyProof.Rows.Boot.«len» (sa_cons (se_prop (l := [5]) (ok_Effect_takes t) (hr.mono (by decide)) gd t.co_Effect t.pr_Effect_takes (bd_Effect_takes t) (nom1 (names := ["own_takes", "own_puts", "own_core"]) rfl rfl (by decide +kernel)) (se_cm (ms := [false, false]) (ok_Effect_of t) tk (hr.mono (by decide)) gd t.cr_Effect t.cm_Effect_of (bd_Effect_of t) rfl (se_cls (c := 5) rfl t.g_Effect rfl) (sa_cons (se_v (pv 4)) sa_nil) (ar_cons (ar_cons ar_nil)))) sa_nil)) (sa_cons (se_blt call_len d_len rfl t.z_len PyProof.Rows.Boot.«len» (sa_cons (se_prop (l := [5]) (ok_Effect_takes t) (hr.mono (by decide)) gd t.co_Effect t.pr_Effect_takes (bd_Effect_takes t) (nom1 (names := ["own_takes", "own_puts", "own_core"]) rfl rfl (by decide +kernel)) (se_cm (ms := [false, false]) (ok_Effect_of t) tk (hr.mono (by decide)) gd t.cr_Effect t.cm_Effect_of (bd_Effect_of t) rfl (se_cls (c := 5) rfl t.g_Effect rfl) (sa_cons (se_v (pv 6)) sa_nil) (ar_cons (ar_cons ar_nil)))) sa_nil)) sa_nil)))))
    (ss_cons (by first | exact (ss_setLc (own := [("_law_word", 10)]) rfl sc_law.nd (i := 8) rfl rfl (sw_true rfl rfl rfl (by decide +kernel)) (si_seq rfl (se_v (pv 1))) (blkOk_by (by kernel_rfl)) (fun s H C cl fp => (tg_n (pg_name (i := 10) sc_law.nd rfl (by first | exact .inl rfl | exact .inr rfl)))) (fun s H C cl fp => (sts_one (st_cmp op_le d_B0 (se_blt call_len d_len rfl t.z_len PyProof.Rows.Boot.«len» (sa_cons (se_v (pv 10)) sa_nil)) (se_v (pv 7))))) (fun s H C cl fp => (se_v (pv 10)))) | exact (ss_set (i := 8) sc_law.nd rfl (by first | exact .inl rfl | exact .inr rfl) (se_lc (own := [("_law_word", 10)]) rfl sc_law.nd (si_seq rfl (se_v (pv 1))) (blkOk_by (by kernel_rfl)) (fun s H C cl fp => (tg_n (pg_name (i := 10) sc_law.nd rfl (by first | exact .inl rfl | exact .inr rfl)))) (fun s H C cl fp => (sts_one (st_cmp op_le d_B0 (se_blt call_len d_len rfl t.z_len PyProof.Rows.Boot.«len» (sa_cons (se_v (pv 10)) sa_nil)) (se_v (pv 7))))) (fun s H C cl fp => (se_v (pv 10))))))
    (ss_cons (ss_set (i := 9) sc_law.nd rfl (by first | exact .inl rfl | exact .inr rfl) (se_cmp (op_eqA hu) d_eqA (se_lc (own := [("_law_word", 10)]) rfl sc_law.nd (si_seq rfl (se_v (pv 8))) (blkOk_by (by kernel_rfl)) (fun s H C cl fp => (tg_n (pg_name (i := 10) sc_law.nd rfl (by first | exact .inl rfl | exact .inr rfl)))) (fun s H C cl fp => (sts_one (st_cmp (op_neA hu) d_neA (se_call (ms := [false, false]) (dfl := []) (dvs := []) (ok_law_best t) takes0 (hr.mono (by decide)) gd rfl t.g_law_best t.k_law_best (bd_law_best t) (fun _ => RpL.nil) (sa_cons (se_v (pv 4)) (sa_cons (se_v (pv 10)) sa_nil)) (ar_cons (ar_cons ar_nil))) (se_call (ms := [false, false]) (dfl := []) (dvs := []) (ok_law_best t) takes0 (hr.mono (by decide)) gd rfl t.g_law_best t.k_law_best (bd_law_best t) (fun _ => RpL.nil) (sa_cons (se_v (pv 6)) (sa_cons (se_v (pv 10)) sa_nil)) (ar_cons (ar_cons ar_nil)))))) (fun s H C cl fp => (se_v (pv 10)))) (se_lst sa_nil)))
    (ss_one (ss_if (st_w (sw_or (st_cmp (op_neA hu) d_neA (se_own t.me_Effect_eq (ok_Effect_eq t) (hr.mono (by decide)) gd (bd_Effect_eq t) (nom1 (names := ["own_takes", "own_puts", "own_core"]) rfl rfl (by decide +kernel)) (se_cm (ms := [false, false]) (ok_Effect_of t) tk (hr.mono (by decide)) gd t.cr_Effect t.cm_Effect_of (bd_Effect_of t) rfl (se_cls (c := 5) rfl t.g_Effect rfl) (sa_cons (se_v (pv 4)) sa_nil) (ar_cons (ar_cons ar_nil))) (se_cm (ms := [false, false]) (ok_Effect_of t) tk (hr.mono (by decide)) gd t.cr_Effect t.cm_Effect_of (bd_Effect_of t) rfl (se_cls (c := 5) rfl t.g_Effect rfl) (sa_cons (se_v (pv 6)) sa_nil) (ar_cons (ar_cons ar_nil)))) (se_v (pv 9))) (sw_or1 (st_cmp (op_neA hu) d_neA (se_blt (call_repr gd hu) d_repr rfl t.z_repr PyProof.Rows.Boot.«repr» (sa_cons (se_call (ms := [false, false]) (dfl := []) (dvs := []) (ok_equivalent t) tk (hr.mono (by decide)) gd rfl t.g_equivalent t.k_equivalent (bd_equivalent t) (fun _ => RpL.nil) (sa_cons (se_v (pv 4)) (sa_cons (se_v (pv 6)) sa_nil)) (ar_cons (ar_cons ar_nil))) sa_nil)) (se_blt (call_repr gd hu) d_repr rfl t.z_repr PyProof.Rows.Boot.«repr» (sa_cons (se_v (pv 9)) sa_nil)))))) (ss_one (ss_ret se_bl)) ss_nil))))))))))))))
    (ss_one (ss_ret (se_and (se_cmp op_isB' (d_isB id) (se_call (ms := [false, false]) (dfl := []) (dvs := []) (ok_equivalent t) tk (hr.mono (by decide)) gd rfl t.g_equivalent t.k_equivalent (bd_equivalent t) (fun _ => RpL.nil) (sa_cons (se_str (l := [97, 65]) rfl) (sa_cons (se_str (l := []) rfl) sa_nil)) (ar_cons (ar_cons ar_nil))) se_bl) (se_one (se_cmp op_isB' (d_isB id) (se_callK0 (ks := ["second", "first"]) (perm := permL [1, 0]) (g := permL [1, 0]) (gV := permL [1, 0]) (ok_equivalent t) tk (hr.mono (by decide)) gd rfl t.g_equivalent t.k_equivalent (Bd.kw t.F_equivalent fun _ _ _ _ _ _ ws hl => match ws, hl with | [_, _], _ => rfl) (fun G ds xs r l => rpl_perm r [1, 0] (by rw [l]; decide)) (sk_cons (se_str (l := [97, 65, 65]) rfl) (sk_cons (se_str (l := [65, 97, 65]) rfl) sk_nil)) (ar_cons (ar_cons ar_nil))) se_bl)))))))⟩)
  exact F
end
theorem all_mk {l : PySem.W.OpenLaw} {w : World} {K : PySem.W.Frag} {h : Heap} {mg : Str → Option Value} {fa : Addr} (X : K.In h) (G : h.Ns mainGlobals mg) (hfa : mg "law" = some (.ref fa))
    {tk_ITEMS : Tok}
    {tk_MAX_ITEMS : Tok}
    {tk_MAX_STEPS : Tok}
    {a_LeakError : Addr}
    {a_InvalidWord : Addr}
    {a_InvalidProgram : Addr}
    {a_InvalidCore : Addr}
    {a_LimitExceeded : Addr}
    {a_Effect : Addr}
    {tkc_Effect_MAX_ITEMS : Tok}
    {a_Effect_init : Addr}
    {a_Effect_takes : Addr}
    {q_Effect_takes : Addr} {rs_Effect_takes : List Value}
    {a_Effect_is_core : Addr}
    {q_Effect_is_core : Addr} {rs_Effect_is_core : List Value}
    {a_Effect_of : Addr}
    {q_Effect_of : Addr} {rs_Effect_of : List Value}
    {a_Effect_eq : Addr}
    {nm_InvalidWord q_InvalidWord : Str} {N_InvalidWord : Addr} {bs_InvalidWord sub_InvalidWord bm_InvalidWord : List Value} {sn_InvalidWord : List Str} {ab_InvalidWord : Bool} {col_InvalidWord : Option Bool} {dd_InvalidWord : Option Addr} {m0_InvalidWord m1_InvalidWord m2_InvalidWord m3_InvalidWord m5_InvalidWord : Option Value}
    {ai_InvalidWord : Addr} {oi_InvalidWord vi_InvalidWord di_InvalidWord pi_InvalidWord ci_InvalidWord ti_InvalidWord : Value} {odi_InvalidWord ani_InvalidWord : Option Addr} {sli_InvalidWord : Array (Option Value)}
    {nm_InvalidProgram q_InvalidProgram : Str} {N_InvalidProgram : Addr} {bs_InvalidProgram sub_InvalidProgram bm_InvalidProgram : List Value} {sn_InvalidProgram : List Str} {ab_InvalidProgram : Bool} {col_InvalidProgram : Option Bool} {dd_InvalidProgram : Option Addr} {m0_InvalidProgram m1_InvalidProgram m2_InvalidProgram m3_InvalidProgram m5_InvalidProgram : Option Value}
    {ai_InvalidProgram : Addr} {oi_InvalidProgram vi_InvalidProgram di_InvalidProgram pi_InvalidProgram ci_InvalidProgram ti_InvalidProgram : Value} {odi_InvalidProgram ani_InvalidProgram : Option Addr} {sli_InvalidProgram : Array (Option Value)}
    {nm_InvalidCore q_InvalidCore : Str} {N_InvalidCore : Addr} {bs_InvalidCore sub_InvalidCore bm_InvalidCore : List Value} {sn_InvalidCore : List Str} {ab_InvalidCore : Bool} {col_InvalidCore : Option Bool} {dd_InvalidCore : Option Addr} {m0_InvalidCore m1_InvalidCore m2_InvalidCore m3_InvalidCore m5_InvalidCore : Option Value}
    {ai_InvalidCore : Addr} {oi_InvalidCore vi_InvalidCore di_InvalidCore pi_InvalidCore ci_InvalidCore ti_InvalidCore : Value} {odi_InvalidCore ani_InvalidCore : Option Addr} {sli_InvalidCore : Array (Option Value)}
    {nm_LimitExceeded q_LimitExceeded : Str} {N_LimitExceeded : Addr} {bs_LimitExceeded sub_LimitExceeded bm_LimitExceeded : List Value} {sn_LimitExceeded : List Str} {ab_LimitExceeded : Bool} {col_LimitExceeded : Option Bool} {dd_LimitExceeded : Option Addr} {m0_LimitExceeded m1_LimitExceeded m2_LimitExceeded m3_LimitExceeded m5_LimitExceeded : Option Value}
    {ai_LimitExceeded : Addr} {oi_LimitExceeded vi_LimitExceeded di_LimitExceeded pi_LimitExceeded ci_LimitExceeded ti_LimitExceeded : Value} {odi_LimitExceeded ani_LimitExceeded : Option Addr} {sli_LimitExceeded : Array (Option Value)}
    {a_law_words : Addr} {o_law_words v_law_words d_law_words p_law_words c_law_words y_law_words : Value} {od_law_words an_law_words : Option Addr} {sl_law_words : Array (Option Value)}
    {a_law_pool : Addr} {o_law_pool v_law_pool d_law_pool p_law_pool c_law_pool y_law_pool : Value} {od_law_pool an_law_pool : Option Addr} {sl_law_pool : Array (Option Value)}
    {a_law_take : Addr} {o_law_take v_law_take d_law_take p_law_take c_law_take y_law_take : Value} {od_law_take an_law_take : Option Addr} {sl_law_take : Array (Option Value)}
    {a_law_program : Addr} {o_law_program v_law_program d_law_program p_law_program c_law_program y_law_program : Value} {od_law_program an_law_program : Option Addr} {sl_law_program : Array (Option Value)}
    {o_Effect_eq v_Effect_eq d_Effect_eq p_Effect_eq c_Effect_eq y_Effect_eq : Value} {od_Effect_eq an_Effect_eq : Option Addr} {sl_Effect_eq : Array (Option Value)}
    {a_is_program : Addr} {o_is_program v_is_program d_is_program p_is_program c_is_program y_is_program : Value} {od_is_program an_is_program : Option Addr} {sl_is_program : Array (Option Value)}
    {a_require_program : Addr} {o_require_program v_require_program d_require_program p_require_program c_require_program y_require_program : Value} {od_require_program an_require_program : Option Addr} {sl_require_program : Array (Option Value)}
    {a_taken : Addr} {o_taken v_taken d_taken p_taken c_taken y_taken : Value} {od_taken an_taken : Option Addr} {sl_taken : Array (Option Value)}
    {a_put_items : Addr} {o_put_items v_put_items d_put_items p_put_items c_put_items y_put_items : Value} {od_put_items an_put_items : Option Addr} {sl_put_items : Array (Option Value)}
    {a_places : Addr} {o_places v_places d_places p_places c_places y_places : Value} {od_places an_places : Option Addr} {sl_places : Array (Option Value)}
    {a_succeeds_from : Addr} {o_succeeds_from v_succeeds_from d_succeeds_from p_succeeds_from c_succeeds_from y_succeeds_from : Value} {od_succeeds_from an_succeeds_from : Option Addr} {sl_succeeds_from : Array (Option Value)}
    {a_core_of : Addr} {o_core_of v_core_of d_core_of p_core_of c_core_of y_core_of : Value} {od_core_of an_core_of : Option Addr} {sl_core_of : Array (Option Value)}
    {a_counts : Addr} {o_counts v_counts d_counts p_counts c_counts y_counts : Value} {od_counts an_counts : Option Addr} {sl_counts : Array (Option Value)}
    {a_triple : Addr} {o_triple v_triple d_triple p_triple c_triple y_triple : Value} {od_triple an_triple : Option Addr} {sl_triple : Array (Option Value)}
    {a_equivalent : Addr} {o_equivalent v_equivalent d_equivalent p_equivalent c_equivalent y_equivalent : Value} {od_equivalent an_equivalent : Option Addr} {sl_equivalent : Array (Option Value)}
    {o_Effect_takes v_Effect_takes d_Effect_takes p_Effect_takes c_Effect_takes y_Effect_takes : Value} {od_Effect_takes an_Effect_takes : Option Addr} {sl_Effect_takes : Array (Option Value)}
    {a_is_word : Addr} {o_is_word v_is_word d_is_word p_is_word c_is_word y_is_word : Value} {od_is_word an_is_word : Option Addr} {sl_is_word : Array (Option Value)}
    {a_require_word : Addr} {o_require_word v_require_word d_require_word p_require_word c_require_word y_require_word : Value} {od_require_word an_require_word : Option Addr} {sl_require_word : Array (Option Value)}
    {a_is_integer : Addr} {o_is_integer v_is_integer d_is_integer p_is_integer c_is_integer y_is_integer : Value} {od_is_integer an_is_integer : Option Addr} {sl_is_integer : Array (Option Value)}
    {a_is_within : Addr} {o_is_within v_is_within d_is_within p_is_within c_is_within y_is_within : Value} {od_is_within an_is_within : Option Addr} {sl_is_within : Array (Option Value)}
    {o_Effect_is_core v_Effect_is_core d_Effect_is_core p_Effect_is_core c_Effect_is_core y_Effect_is_core : Value} {od_Effect_is_core an_Effect_is_core : Option Addr} {sl_Effect_is_core : Array (Option Value)}
    {o_Effect_init v_Effect_init d_Effect_init p_Effect_init c_Effect_init y_Effect_init : Value} {od_Effect_init an_Effect_init : Option Addr} {sl_Effect_init : Array (Option Value)}
    {o_Effect_of v_Effect_of d_Effect_of p_Effect_of c_Effect_of y_Effect_of : Value} {od_Effect_of an_Effect_of : Option Addr} {sl_Effect_of : Array (Option Value)}
    {a_law_best : Addr} {o_law_best v_law_best d_law_best p_law_best c_law_best y_law_best : Value} {od_law_best an_law_best : Option Addr} {sl_law_best : Array (Option Value)}
    {a_law : Addr} {o_law v_law d_law p_law c_law y_law : Value} {od_law an_law : Option Addr} {sl_law : Array (Option Value)}
    (z_all : PySem.W.nsIn K mainGlobals "all" = some none)
    (z_bool : PySem.W.nsIn K mainGlobals "bool" = some none)
    (z_int : PySem.W.nsIn K mainGlobals "int" = some none)
    (z_isinstance : PySem.W.nsIn K mainGlobals "isinstance" = some none)
    (z_len : PySem.W.nsIn K mainGlobals "len" = some none)
    (z_list : PySem.W.nsIn K mainGlobals "list" = some none)
    (z_max : PySem.W.nsIn K mainGlobals "max" = some none)
    (z_min : PySem.W.nsIn K mainGlobals "min" = some none)
    (z_range : PySem.W.nsIn K mainGlobals "range" = some none)
    (z_repr : PySem.W.nsIn K mainGlobals "repr" = some none)
    (z_str : PySem.W.nsIn K mainGlobals "str" = some none)
    (z_zip : PySem.W.nsIn K mainGlobals "zip" = some none)
    (z_OverflowError : PySem.W.nsIn K mainGlobals "OverflowError" = some none)
    (g_ITEMS : PySem.W.nsIn K mainGlobals "ITEMS" = some (some (.str "abcdefgh" tk_ITEMS)))
    (g_MAX_ITEMS : PySem.W.nsIn K mainGlobals "MAX_ITEMS" = some (some (.int 400 tk_MAX_ITEMS)))
    (g_MAX_STEPS : PySem.W.nsIn K mainGlobals "MAX_STEPS" = some (some (.int 400 tk_MAX_STEPS)))
    (g_LeakError : PySem.W.nsIn K mainGlobals "LeakError" = some (some (.ref a_LeakError)))
    (g_InvalidWord : PySem.W.nsIn K mainGlobals "InvalidWord" = some (some (.ref a_InvalidWord)))
    (g_InvalidProgram : PySem.W.nsIn K mainGlobals "InvalidProgram" = some (some (.ref a_InvalidProgram)))
    (g_InvalidCore : PySem.W.nsIn K mainGlobals "InvalidCore" = some (some (.ref a_InvalidCore)))
    (g_LimitExceeded : PySem.W.nsIn K mainGlobals "LimitExceeded" = some (some (.ref a_LimitExceeded)))
    (g_Effect : PySem.W.nsIn K mainGlobals "Effect" = some (some (.ref a_Effect)))
    (ex_LeakError : PySem.W.subIn K (.ref a_LeakError) (.type "BaseException") = some true)
    (ty_LeakError : PySem.W.typeIn K (.ref a_LeakError) = some (.type "type"))
    (hd_LeakError : PySem.W.hasDictIn K a_LeakError = true)
    (ex_InvalidWord : PySem.W.subIn K (.ref a_InvalidWord) (.type "BaseException") = some true)
    (ty_InvalidWord : PySem.W.typeIn K (.ref a_InvalidWord) = some (.type "type"))
    (hd_InvalidWord : PySem.W.hasDictIn K a_InvalidWord = true)
    (ex_InvalidProgram : PySem.W.subIn K (.ref a_InvalidProgram) (.type "BaseException") = some true)
    (ty_InvalidProgram : PySem.W.typeIn K (.ref a_InvalidProgram) = some (.type "type"))
    (hd_InvalidProgram : PySem.W.hasDictIn K a_InvalidProgram = true)
    (ex_InvalidCore : PySem.W.subIn K (.ref a_InvalidCore) (.type "BaseException") = some true)
    (ty_InvalidCore : PySem.W.typeIn K (.ref a_InvalidCore) = some (.type "type"))
    (hd_InvalidCore : PySem.W.hasDictIn K a_InvalidCore = true)
    (ex_LimitExceeded : PySem.W.subIn K (.ref a_LimitExceeded) (.type "BaseException") = some true)
    (ty_LimitExceeded : PySem.W.typeIn K (.ref a_LimitExceeded) = some (.type "type"))
    (hd_LimitExceeded : PySem.W.hasDictIn K a_LimitExceeded = true)
    (ty_Effect : PySem.W.typeIn K (.ref a_Effect) = some (.type "type"))
    (hd_Effect : PySem.W.hasDictIn K a_Effect = true)
    (pg_Effect : PySem.W.plainGet K a_Effect Str.empty = true)
    (po_Effect : PySem.W.plainOver K a_Effect = true)
    (sa_Effect : PySem.W.findIn K (.ref a_Effect) "__setattr__" = some (some (.builtin "object.__setattr__")))
    (kp_Effect : PySem.W.keepIn K (.ref a_Effect) = true)
    (rd_Effect : PySem.W.readsIn K a_Effect (.type "type") = true)
    (ga_Effect : PySem.W.specialIn K (.ref a_Effect) "__getattribute__" = some (some (.builtin "type.__getattribute__")))
    (kl_Effect : PySem.W.findIn K (.ref a_Effect) "__class__" = some (some (.builtin "object.__class__")))
    (gt_Effect : PySem.W.specialIn K (.builtin "object.__class__") "__get__" = some (some (.builtin "getset_descriptor.__get__")))
    (tk_Effect : PySem.W.takesIn K (.builtin "object.__class__") = some true)
    (ob_Effect : PySem.W.mroIn K a_Effect (.type "object") = some true)
    (no_Effect_own_takes : PySem.W.findIn K (.ref a_Effect) "own_takes" = some none)
    (no_Effect_own_puts : PySem.W.findIn K (.ref a_Effect) "own_puts" = some none)
    (no_Effect_own_core : PySem.W.findIn K (.ref a_Effect) "own_core" = some none)
    (cv_Effect_MAX_ITEMS : PySem.W.findCls K (.ref a_Effect) (.type "type") "MAX_ITEMS" = some (.val (.int 400 tkc_Effect_MAX_ITEMS)))
    (mk_Effect : PySem.W.makesIn K a_Effect = true)
    (i_Effect : PySem.W.findIn K (.ref a_Effect) "__init__" = some (some (.ref a_Effect_init)))
    (j_Effect : PySem.W.isFn K (.ref a_Effect_init) = true)
    (p1_Effect_takes : PySem.W.findIn K (.ref a_Effect) "takes" = some (some (.ref q_Effect_takes)))
    (p2_Effect_takes : PySem.W.specialIn K (.ref q_Effect_takes) "__get__" = some (some (.builtin "property.__get__")))
    (p3_Effect_takes : PySem.W.takesIn K (.ref q_Effect_takes) = some true)
    (p4_Effect_takes : PySem.W.recIn K q_Effect_takes "property" = some (.ref a_Effect_takes :: rs_Effect_takes))
    (p1_Effect_is_core : PySem.W.findCls K (.ref a_Effect) (.type "type") "is_core" = some (.get (.builtin "staticmethod.__get__") (.ref q_Effect_is_core) .none (.ref a_Effect)))
    (p4_Effect_is_core : PySem.W.recIn K q_Effect_is_core "staticmethod" = some (.ref a_Effect_is_core :: rs_Effect_is_core))
    (p1_Effect_of : PySem.W.findCls K (.ref a_Effect) (.type "type") "of" = some (.get (.builtin "classmethod.__get__") (.ref q_Effect_of) .none (.ref a_Effect)))
    (p4_Effect_of : PySem.W.recIn K q_Effect_of "classmethod" = some (.ref a_Effect_of :: rs_Effect_of))
    (p5_Effect_of : PySem.W.fnIn K a_Effect_of = true)
    (m1_Effect_eq : PySem.W.findIn K (.ref a_Effect) "__eq__" = some (some (.ref a_Effect_eq)))
    (m2_Effect_eq : PySem.W.isFn K (.ref a_Effect_eq) = true)
    (xL_InvalidWord : K.lookup a_InvalidWord = some (excClassObj nm_InvalidWord q_InvalidWord a_InvalidWord N_InvalidWord bs_InvalidWord bm_InvalidWord true sn_InvalidWord sub_InvalidWord ab_InvalidWord col_InvalidWord dd_InvalidWord m0_InvalidWord m1_InvalidWord m2_InvalidWord m3_InvalidWord m5_InvalidWord "ValueError.__new__"))
    (ln_InvalidWord : bm_InvalidWord = [a_LeakError].map Value.ref ++ tl_value)
    (sa_InvalidWord : PySem.W.findIn K (.ref a_InvalidWord) "__setattr__" = some (some (.builtin "object.__setattr__")))
    (kp_InvalidWord : PySem.W.keepIn K (.ref a_InvalidWord) = true)
    (no_InvalidWord : PySem.W.findIn K (.ref a_InvalidWord) "value" = some none)
    (i_InvalidWord : PySem.W.findIn K (.ref a_InvalidWord) "__init__" = some (some (.ref ai_InvalidWord)))
    (j_InvalidWord : PySem.W.typeIn K (.ref ai_InvalidWord) = some (.type "function"))
    (li_InvalidWord : K.lookup ai_InvalidWord = some ⟨oi_InvalidWord, odi_InvalidWord, .func (PySem.W.fnOf "__init__" "InvalidWord.__init__" (defArgs s_InvalidWord_init) (defBody s_InvalidWord_init) (defScope s_InvalidWord_init) .none vi_InvalidWord di_InvalidWord pi_InvalidWord ani_InvalidWord ci_InvalidWord ti_InvalidWord), sli_InvalidWord⟩)
    (cdi_InvalidWord : PySem.W.codeIn K ci_InvalidWord "InvalidWord.__init__" = true)
    (ki_InvalidWord : PySem.W.keepIn K (.ref ai_InvalidWord) = true)
    (ga_InvalidWord : PySem.W.findIn K (.ref a_InvalidWord) "__getattribute__" = some (some (.builtin "BaseException.__getattribute__")))
    (gg_InvalidWord : PySem.W.findIn K (.ref a_InvalidWord) "__getattr__" = some none)
    (kl_InvalidWord : PySem.W.findIn K (.ref a_InvalidWord) "__class__" = some (some (.builtin "object.__class__")))
    (gt_InvalidWord : PySem.W.specialIn K (.builtin "object.__class__") "__get__" = some (some (.builtin "getset_descriptor.__get__")))
    (tk_InvalidWord : PySem.W.takesIn K (.builtin "object.__class__") = some true)
    (ob_InvalidWord : PySem.W.mroIn K a_InvalidWord (.type "object") = some true)
    (h1_InvalidWord : PySem.W.specialIn K (.ref a_LeakError) "__getattribute__" = some (some (.builtin "type.__getattribute__")))
    (h2_InvalidWord : PySem.W.readsIn K a_LeakError (.type "type") = true)
    (h3_InvalidWord : PySem.W.findCls K (.ref a_LeakError) (.type "type") "__init__" = some (.val (.builtin "ValueError.__init__")))
    (xL_InvalidProgram : K.lookup a_InvalidProgram = some (excClassObj nm_InvalidProgram q_InvalidProgram a_InvalidProgram N_InvalidProgram bs_InvalidProgram bm_InvalidProgram true sn_InvalidProgram sub_InvalidProgram ab_InvalidProgram col_InvalidProgram dd_InvalidProgram m0_InvalidProgram m1_InvalidProgram m2_InvalidProgram m3_InvalidProgram m5_InvalidProgram "ValueError.__new__"))
    (ln_InvalidProgram : bm_InvalidProgram = [a_LeakError].map Value.ref ++ tl_value)
    (sa_InvalidProgram : PySem.W.findIn K (.ref a_InvalidProgram) "__setattr__" = some (some (.builtin "object.__setattr__")))
    (kp_InvalidProgram : PySem.W.keepIn K (.ref a_InvalidProgram) = true)
    (no_InvalidProgram : PySem.W.findIn K (.ref a_InvalidProgram) "value" = some none)
    (i_InvalidProgram : PySem.W.findIn K (.ref a_InvalidProgram) "__init__" = some (some (.ref ai_InvalidProgram)))
    (j_InvalidProgram : PySem.W.typeIn K (.ref ai_InvalidProgram) = some (.type "function"))
    (li_InvalidProgram : K.lookup ai_InvalidProgram = some ⟨oi_InvalidProgram, odi_InvalidProgram, .func (PySem.W.fnOf "__init__" "InvalidProgram.__init__" (defArgs s_InvalidProgram_init) (defBody s_InvalidProgram_init) (defScope s_InvalidProgram_init) .none vi_InvalidProgram di_InvalidProgram pi_InvalidProgram ani_InvalidProgram ci_InvalidProgram ti_InvalidProgram), sli_InvalidProgram⟩)
    (cdi_InvalidProgram : PySem.W.codeIn K ci_InvalidProgram "InvalidProgram.__init__" = true)
    (ki_InvalidProgram : PySem.W.keepIn K (.ref ai_InvalidProgram) = true)
    (ga_InvalidProgram : PySem.W.findIn K (.ref a_InvalidProgram) "__getattribute__" = some (some (.builtin "BaseException.__getattribute__")))
    (gg_InvalidProgram : PySem.W.findIn K (.ref a_InvalidProgram) "__getattr__" = some none)
    (kl_InvalidProgram : PySem.W.findIn K (.ref a_InvalidProgram) "__class__" = some (some (.builtin "object.__class__")))
    (gt_InvalidProgram : PySem.W.specialIn K (.builtin "object.__class__") "__get__" = some (some (.builtin "getset_descriptor.__get__")))
    (tk_InvalidProgram : PySem.W.takesIn K (.builtin "object.__class__") = some true)
    (ob_InvalidProgram : PySem.W.mroIn K a_InvalidProgram (.type "object") = some true)
    (h1_InvalidProgram : PySem.W.specialIn K (.ref a_LeakError) "__getattribute__" = some (some (.builtin "type.__getattribute__")))
    (h2_InvalidProgram : PySem.W.readsIn K a_LeakError (.type "type") = true)
    (h3_InvalidProgram : PySem.W.findCls K (.ref a_LeakError) (.type "type") "__init__" = some (.val (.builtin "ValueError.__init__")))
    (xL_InvalidCore : K.lookup a_InvalidCore = some (excClassObj nm_InvalidCore q_InvalidCore a_InvalidCore N_InvalidCore bs_InvalidCore bm_InvalidCore true sn_InvalidCore sub_InvalidCore ab_InvalidCore col_InvalidCore dd_InvalidCore m0_InvalidCore m1_InvalidCore m2_InvalidCore m3_InvalidCore m5_InvalidCore "ValueError.__new__"))
    (ln_InvalidCore : bm_InvalidCore = [a_LeakError].map Value.ref ++ tl_value)
    (sa_InvalidCore : PySem.W.findIn K (.ref a_InvalidCore) "__setattr__" = some (some (.builtin "object.__setattr__")))
    (kp_InvalidCore : PySem.W.keepIn K (.ref a_InvalidCore) = true)
    (no_InvalidCore : PySem.W.findIn K (.ref a_InvalidCore) "value" = some none)
    (i_InvalidCore : PySem.W.findIn K (.ref a_InvalidCore) "__init__" = some (some (.ref ai_InvalidCore)))
    (j_InvalidCore : PySem.W.typeIn K (.ref ai_InvalidCore) = some (.type "function"))
    (li_InvalidCore : K.lookup ai_InvalidCore = some ⟨oi_InvalidCore, odi_InvalidCore, .func (PySem.W.fnOf "__init__" "InvalidCore.__init__" (defArgs s_InvalidCore_init) (defBody s_InvalidCore_init) (defScope s_InvalidCore_init) .none vi_InvalidCore di_InvalidCore pi_InvalidCore ani_InvalidCore ci_InvalidCore ti_InvalidCore), sli_InvalidCore⟩)
    (cdi_InvalidCore : PySem.W.codeIn K ci_InvalidCore "InvalidCore.__init__" = true)
    (ki_InvalidCore : PySem.W.keepIn K (.ref ai_InvalidCore) = true)
    (ga_InvalidCore : PySem.W.findIn K (.ref a_InvalidCore) "__getattribute__" = some (some (.builtin "BaseException.__getattribute__")))
    (gg_InvalidCore : PySem.W.findIn K (.ref a_InvalidCore) "__getattr__" = some none)
    (kl_InvalidCore : PySem.W.findIn K (.ref a_InvalidCore) "__class__" = some (some (.builtin "object.__class__")))
    (gt_InvalidCore : PySem.W.specialIn K (.builtin "object.__class__") "__get__" = some (some (.builtin "getset_descriptor.__get__")))
    (tk_InvalidCore : PySem.W.takesIn K (.builtin "object.__class__") = some true)
    (ob_InvalidCore : PySem.W.mroIn K a_InvalidCore (.type "object") = some true)
    (h1_InvalidCore : PySem.W.specialIn K (.ref a_LeakError) "__getattribute__" = some (some (.builtin "type.__getattribute__")))
    (h2_InvalidCore : PySem.W.readsIn K a_LeakError (.type "type") = true)
    (h3_InvalidCore : PySem.W.findCls K (.ref a_LeakError) (.type "type") "__init__" = some (.val (.builtin "ValueError.__init__")))
    (xL_LimitExceeded : K.lookup a_LimitExceeded = some (excClassObj nm_LimitExceeded q_LimitExceeded a_LimitExceeded N_LimitExceeded bs_LimitExceeded bm_LimitExceeded true sn_LimitExceeded sub_LimitExceeded ab_LimitExceeded col_LimitExceeded dd_LimitExceeded m0_LimitExceeded m1_LimitExceeded m2_LimitExceeded m3_LimitExceeded m5_LimitExceeded "OverflowError.__new__"))
    (ln_LimitExceeded : bm_LimitExceeded = [].map Value.ref ++ tl_overflow)
    (sa_LimitExceeded : PySem.W.findIn K (.ref a_LimitExceeded) "__setattr__" = some (some (.builtin "object.__setattr__")))
    (kp_LimitExceeded : PySem.W.keepIn K (.ref a_LimitExceeded) = true)
    (no_LimitExceeded : PySem.W.findIn K (.ref a_LimitExceeded) "limit" = some none)
    (i_LimitExceeded : PySem.W.findIn K (.ref a_LimitExceeded) "__init__" = some (some (.ref ai_LimitExceeded)))
    (j_LimitExceeded : PySem.W.typeIn K (.ref ai_LimitExceeded) = some (.type "function"))
    (li_LimitExceeded : K.lookup ai_LimitExceeded = some ⟨oi_LimitExceeded, odi_LimitExceeded, .func (PySem.W.fnOf "__init__" "LimitExceeded.__init__" (defArgs s_LimitExceeded_init) (defBody s_LimitExceeded_init) (defScope s_LimitExceeded_init) .none vi_LimitExceeded di_LimitExceeded pi_LimitExceeded ani_LimitExceeded ci_LimitExceeded ti_LimitExceeded), sli_LimitExceeded⟩)
    (cdi_LimitExceeded : PySem.W.codeIn K ci_LimitExceeded "LimitExceeded.__init__" = true)
    (ki_LimitExceeded : PySem.W.keepIn K (.ref ai_LimitExceeded) = true)
    (ga_LimitExceeded : PySem.W.findIn K (.ref a_LimitExceeded) "__getattribute__" = some (some (.builtin "BaseException.__getattribute__")))
    (gg_LimitExceeded : PySem.W.findIn K (.ref a_LimitExceeded) "__getattr__" = some none)
    (kl_LimitExceeded : PySem.W.findIn K (.ref a_LimitExceeded) "__class__" = some (some (.builtin "object.__class__")))
    (gt_LimitExceeded : PySem.W.specialIn K (.builtin "object.__class__") "__get__" = some (some (.builtin "getset_descriptor.__get__")))
    (tk_LimitExceeded : PySem.W.takesIn K (.builtin "object.__class__") = some true)
    (ob_LimitExceeded : PySem.W.mroIn K a_LimitExceeded (.type "object") = some true)
    (h3_LimitExceeded : PySem.W.findCls K (.type "OverflowError") (.type "type") "__init__" = some (.val (.builtin "OverflowError.__init__")))
    (g_law_words : PySem.W.nsIn K mainGlobals "_law_words" = some (some (.ref a_law_words)))
    (l_law_words : K.lookup a_law_words = some ⟨o_law_words, od_law_words, .func (PySem.W.fnOf "_law_words" "_law_words" (defArgs s_law_words) (defBody s_law_words) (defScope s_law_words) .none v_law_words d_law_words p_law_words an_law_words c_law_words y_law_words), sl_law_words⟩)
    (cd_law_words : PySem.W.codeIn K c_law_words "_law_words" = true)
    (k_law_words : PySem.W.keepIn K (.ref a_law_words) = true)
    (g_law_pool : PySem.W.nsIn K mainGlobals "_law_pool" = some (some (.ref a_law_pool)))
    (l_law_pool : K.lookup a_law_pool = some ⟨o_law_pool, od_law_pool, .func (PySem.W.fnOf "_law_pool" "_law_pool" (defArgs s_law_pool) (defBody s_law_pool) (defScope s_law_pool) .none v_law_pool d_law_pool p_law_pool an_law_pool c_law_pool y_law_pool), sl_law_pool⟩)
    (cd_law_pool : PySem.W.codeIn K c_law_pool "_law_pool" = true)
    (k_law_pool : PySem.W.keepIn K (.ref a_law_pool) = true)
    (g_law_take : PySem.W.nsIn K mainGlobals "_law_take" = some (some (.ref a_law_take)))
    (l_law_take : K.lookup a_law_take = some ⟨o_law_take, od_law_take, .func (PySem.W.fnOf "_law_take" "_law_take" (defArgs s_law_take) (defBody s_law_take) (defScope s_law_take) .none v_law_take d_law_take p_law_take an_law_take c_law_take y_law_take), sl_law_take⟩)
    (cd_law_take : PySem.W.codeIn K c_law_take "_law_take" = true)
    (k_law_take : PySem.W.keepIn K (.ref a_law_take) = true)
    (g_law_program : PySem.W.nsIn K mainGlobals "_law_program" = some (some (.ref a_law_program)))
    (l_law_program : K.lookup a_law_program = some ⟨o_law_program, od_law_program, .func (PySem.W.fnOf "_law_program" "_law_program" (defArgs s_law_program) (defBody s_law_program) (defScope s_law_program) .none v_law_program d_law_program p_law_program an_law_program c_law_program y_law_program), sl_law_program⟩)
    (cd_law_program : PySem.W.codeIn K c_law_program "_law_program" = true)
    (k_law_program : PySem.W.keepIn K (.ref a_law_program) = true)
    (l_Effect_eq : K.lookup a_Effect_eq = some ⟨o_Effect_eq, od_Effect_eq, .func (PySem.W.fnOf "__eq__" "Effect.__eq__" (defArgs s_Effect_eq) (defBody s_Effect_eq) (defScope s_Effect_eq) .none v_Effect_eq d_Effect_eq p_Effect_eq an_Effect_eq c_Effect_eq y_Effect_eq), sl_Effect_eq⟩)
    (cd_Effect_eq : PySem.W.codeIn K c_Effect_eq "Effect.__eq__" = true)
    (k_Effect_eq : PySem.W.keepIn K (.ref a_Effect_eq) = true)
    (g_is_program : PySem.W.nsIn K mainGlobals "is_program" = some (some (.ref a_is_program)))
    (l_is_program : K.lookup a_is_program = some ⟨o_is_program, od_is_program, .func (PySem.W.fnOf "is_program" "is_program" (defArgs s_is_program) (defBody s_is_program) (defScope s_is_program) .none v_is_program d_is_program p_is_program an_is_program c_is_program y_is_program), sl_is_program⟩)
    (cd_is_program : PySem.W.codeIn K c_is_program "is_program" = true)
    (k_is_program : PySem.W.keepIn K (.ref a_is_program) = true)
    (g_require_program : PySem.W.nsIn K mainGlobals "require_program" = some (some (.ref a_require_program)))
    (l_require_program : K.lookup a_require_program = some ⟨o_require_program, od_require_program, .func (PySem.W.fnOf "require_program" "require_program" (defArgs s_require_program) (defBody s_require_program) (defScope s_require_program) .none v_require_program d_require_program p_require_program an_require_program c_require_program y_require_program), sl_require_program⟩)
    (cd_require_program : PySem.W.codeIn K c_require_program "require_program" = true)
    (k_require_program : PySem.W.keepIn K (.ref a_require_program) = true)
    (g_taken : PySem.W.nsIn K mainGlobals "taken" = some (some (.ref a_taken)))
    (l_taken : K.lookup a_taken = some ⟨o_taken, od_taken, .func (PySem.W.fnOf "taken" "taken" (defArgs s_taken) (defBody s_taken) (defScope s_taken) .none v_taken d_taken p_taken an_taken c_taken y_taken), sl_taken⟩)
    (cd_taken : PySem.W.codeIn K c_taken "taken" = true)
    (k_taken : PySem.W.keepIn K (.ref a_taken) = true)
    (g_put_items : PySem.W.nsIn K mainGlobals "put_items" = some (some (.ref a_put_items)))
    (l_put_items : K.lookup a_put_items = some ⟨o_put_items, od_put_items, .func (PySem.W.fnOf "put_items" "put_items" (defArgs s_put_items) (defBody s_put_items) (defScope s_put_items) .none v_put_items d_put_items p_put_items an_put_items c_put_items y_put_items), sl_put_items⟩)
    (cd_put_items : PySem.W.codeIn K c_put_items "put_items" = true)
    (k_put_items : PySem.W.keepIn K (.ref a_put_items) = true)
    (g_places : PySem.W.nsIn K mainGlobals "places" = some (some (.ref a_places)))
    (l_places : K.lookup a_places = some ⟨o_places, od_places, .func (PySem.W.fnOf "places" "places" (defArgs s_places) (defBody s_places) (defScope s_places) .none v_places d_places p_places an_places c_places y_places), sl_places⟩)
    (cd_places : PySem.W.codeIn K c_places "places" = true)
    (k_places : PySem.W.keepIn K (.ref a_places) = true)
    (g_succeeds_from : PySem.W.nsIn K mainGlobals "succeeds_from" = some (some (.ref a_succeeds_from)))
    (l_succeeds_from : K.lookup a_succeeds_from = some ⟨o_succeeds_from, od_succeeds_from, .func (PySem.W.fnOf "succeeds_from" "succeeds_from" (defArgs s_succeeds_from) (defBody s_succeeds_from) (defScope s_succeeds_from) .none v_succeeds_from d_succeeds_from p_succeeds_from an_succeeds_from c_succeeds_from y_succeeds_from), sl_succeeds_from⟩)
    (cd_succeeds_from : PySem.W.codeIn K c_succeeds_from "succeeds_from" = true)
    (k_succeeds_from : PySem.W.keepIn K (.ref a_succeeds_from) = true)
    (g_core_of : PySem.W.nsIn K mainGlobals "core_of" = some (some (.ref a_core_of)))
    (l_core_of : K.lookup a_core_of = some ⟨o_core_of, od_core_of, .func (PySem.W.fnOf "core_of" "core_of" (defArgs s_core_of) (defBody s_core_of) (defScope s_core_of) .none v_core_of d_core_of p_core_of an_core_of c_core_of y_core_of), sl_core_of⟩)
    (cd_core_of : PySem.W.codeIn K c_core_of "core_of" = true)
    (k_core_of : PySem.W.keepIn K (.ref a_core_of) = true)
    (g_counts : PySem.W.nsIn K mainGlobals "counts" = some (some (.ref a_counts)))
    (l_counts : K.lookup a_counts = some ⟨o_counts, od_counts, .func (PySem.W.fnOf "counts" "counts" (defArgs s_counts) (defBody s_counts) (defScope s_counts) .none v_counts d_counts p_counts an_counts c_counts y_counts), sl_counts⟩)
    (cd_counts : PySem.W.codeIn K c_counts "counts" = true)
    (k_counts : PySem.W.keepIn K (.ref a_counts) = true)
    (g_triple : PySem.W.nsIn K mainGlobals "triple" = some (some (.ref a_triple)))
    (l_triple : K.lookup a_triple = some ⟨o_triple, od_triple, .func (PySem.W.fnOf "triple" "triple" (defArgs s_triple) (defBody s_triple) (defScope s_triple) .none v_triple d_triple p_triple an_triple c_triple y_triple), sl_triple⟩)
    (cd_triple : PySem.W.codeIn K c_triple "triple" = true)
    (k_triple : PySem.W.keepIn K (.ref a_triple) = true)
    (g_equivalent : PySem.W.nsIn K mainGlobals "equivalent" = some (some (.ref a_equivalent)))
    (l_equivalent : K.lookup a_equivalent = some ⟨o_equivalent, od_equivalent, .func (PySem.W.fnOf "equivalent" "equivalent" (defArgs s_equivalent) (defBody s_equivalent) (defScope s_equivalent) .none v_equivalent d_equivalent p_equivalent an_equivalent c_equivalent y_equivalent), sl_equivalent⟩)
    (cd_equivalent : PySem.W.codeIn K c_equivalent "equivalent" = true)
    (k_equivalent : PySem.W.keepIn K (.ref a_equivalent) = true)
    (l_Effect_takes : K.lookup a_Effect_takes = some ⟨o_Effect_takes, od_Effect_takes, .func (PySem.W.fnOf "takes" "Effect.takes" (defArgs s_Effect_takes) (defBody s_Effect_takes) (defScope s_Effect_takes) .none v_Effect_takes d_Effect_takes p_Effect_takes an_Effect_takes c_Effect_takes y_Effect_takes), sl_Effect_takes⟩)
    (cd_Effect_takes : PySem.W.codeIn K c_Effect_takes "Effect.takes" = true)
    (k_Effect_takes : PySem.W.keepIn K (.ref a_Effect_takes) = true)
    (g_is_word : PySem.W.nsIn K mainGlobals "is_word" = some (some (.ref a_is_word)))
    (l_is_word : K.lookup a_is_word = some ⟨o_is_word, od_is_word, .func (PySem.W.fnOf "is_word" "is_word" (defArgs s_is_word) (defBody s_is_word) (defScope s_is_word) .none v_is_word d_is_word p_is_word an_is_word c_is_word y_is_word), sl_is_word⟩)
    (cd_is_word : PySem.W.codeIn K c_is_word "is_word" = true)
    (k_is_word : PySem.W.keepIn K (.ref a_is_word) = true)
    (g_require_word : PySem.W.nsIn K mainGlobals "require_word" = some (some (.ref a_require_word)))
    (l_require_word : K.lookup a_require_word = some ⟨o_require_word, od_require_word, .func (PySem.W.fnOf "require_word" "require_word" (defArgs s_require_word) (defBody s_require_word) (defScope s_require_word) .none v_require_word d_require_word p_require_word an_require_word c_require_word y_require_word), sl_require_word⟩)
    (cd_require_word : PySem.W.codeIn K c_require_word "require_word" = true)
    (k_require_word : PySem.W.keepIn K (.ref a_require_word) = true)
    (g_is_integer : PySem.W.nsIn K mainGlobals "is_integer" = some (some (.ref a_is_integer)))
    (l_is_integer : K.lookup a_is_integer = some ⟨o_is_integer, od_is_integer, .func (PySem.W.fnOf "is_integer" "is_integer" (defArgs s_is_integer) (defBody s_is_integer) (defScope s_is_integer) .none v_is_integer d_is_integer p_is_integer an_is_integer c_is_integer y_is_integer), sl_is_integer⟩)
    (cd_is_integer : PySem.W.codeIn K c_is_integer "is_integer" = true)
    (k_is_integer : PySem.W.keepIn K (.ref a_is_integer) = true)
    (g_is_within : PySem.W.nsIn K mainGlobals "is_within" = some (some (.ref a_is_within)))
    (l_is_within : K.lookup a_is_within = some ⟨o_is_within, od_is_within, .func (PySem.W.fnOf "is_within" "is_within" (defArgs s_is_within) (defBody s_is_within) (defScope s_is_within) .none v_is_within d_is_within p_is_within an_is_within c_is_within y_is_within), sl_is_within⟩)
    (cd_is_within : PySem.W.codeIn K c_is_within "is_within" = true)
    (k_is_within : PySem.W.keepIn K (.ref a_is_within) = true)
    (l_Effect_is_core : K.lookup a_Effect_is_core = some ⟨o_Effect_is_core, od_Effect_is_core, .func (PySem.W.fnOf "is_core" "Effect.is_core" (defArgs s_Effect_is_core) (defBody s_Effect_is_core) (defScope s_Effect_is_core) .none v_Effect_is_core d_Effect_is_core p_Effect_is_core an_Effect_is_core c_Effect_is_core y_Effect_is_core), sl_Effect_is_core⟩)
    (cd_Effect_is_core : PySem.W.codeIn K c_Effect_is_core "Effect.is_core" = true)
    (k_Effect_is_core : PySem.W.keepIn K (.ref a_Effect_is_core) = true)
    (l_Effect_init : K.lookup a_Effect_init = some ⟨o_Effect_init, od_Effect_init, .func (PySem.W.fnOf "__init__" "Effect.__init__" (defArgs s_Effect_init) (defBody s_Effect_init) (defScope s_Effect_init) .none v_Effect_init d_Effect_init p_Effect_init an_Effect_init c_Effect_init y_Effect_init), sl_Effect_init⟩)
    (cd_Effect_init : PySem.W.codeIn K c_Effect_init "Effect.__init__" = true)
    (k_Effect_init : PySem.W.keepIn K (.ref a_Effect_init) = true)
    (l_Effect_of : K.lookup a_Effect_of = some ⟨o_Effect_of, od_Effect_of, .func (PySem.W.fnOf "of" "Effect.of" (defArgs s_Effect_of) (defBody s_Effect_of) (defScope s_Effect_of) .none v_Effect_of d_Effect_of p_Effect_of an_Effect_of c_Effect_of y_Effect_of), sl_Effect_of⟩)
    (cd_Effect_of : PySem.W.codeIn K c_Effect_of "Effect.of" = true)
    (k_Effect_of : PySem.W.keepIn K (.ref a_Effect_of) = true)
    (g_law_best : PySem.W.nsIn K mainGlobals "_law_best" = some (some (.ref a_law_best)))
    (l_law_best : K.lookup a_law_best = some ⟨o_law_best, od_law_best, .func (PySem.W.fnOf "_law_best" "_law_best" (defArgs s_law_best) (defBody s_law_best) (defScope s_law_best) .none v_law_best d_law_best p_law_best an_law_best c_law_best y_law_best), sl_law_best⟩)
    (cd_law_best : PySem.W.codeIn K c_law_best "_law_best" = true)
    (k_law_best : PySem.W.keepIn K (.ref a_law_best) = true)
    (g_law : PySem.W.nsIn K mainGlobals "law" = some (some (.ref a_law)))
    (l_law : K.lookup a_law = some ⟨o_law, od_law, .func (PySem.W.fnOf "law" "law" (defArgs s_law) (defBody s_law) (defScope s_law) .none v_law d_law p_law an_law c_law y_law), sl_law⟩)
    (cd_law : PySem.W.codeIn K c_law "law" = true)
    (k_law : PySem.W.keepIn K (.ref a_law) = true)
    (law_ok : LawOk 63 m_law) : ∃ fd : FuncData, (∀ (s : Shared) (u : Value), BindsTo s fd ⟨[u], []⟩ [("_law_script", u)]) ∧ ∀ base : Heap, K.In base → base.Ns mainGlobals mg → FnG l.prog w K mg base 13 fa fd ["_law_script"] (spLaw 63 K) := by
  have same := hfa.symm.trans (PySem.W.mg_of X G g_law)
  cases same
  have t : ∃ t : Txt K mg, t.a_law = fa ∧ t.fd_law = PySem.W.fnOf "law" "law" (defArgs s_law) (defBody s_law) (defScope s_law) .none v_law d_law p_law an_law c_law y_law := ⟨{
    z_all := PySem.W.mg_none_of X G z_all
    z_bool := PySem.W.mg_none_of X G z_bool
    z_int := PySem.W.mg_none_of X G z_int
    z_isinstance := PySem.W.mg_none_of X G z_isinstance
    z_len := PySem.W.mg_none_of X G z_len
    z_list := PySem.W.mg_none_of X G z_list
    z_max := PySem.W.mg_none_of X G z_max
    z_min := PySem.W.mg_none_of X G z_min
    z_range := PySem.W.mg_none_of X G z_range
    z_repr := PySem.W.mg_none_of X G z_repr
    z_str := PySem.W.mg_none_of X G z_str
    z_zip := PySem.W.mg_none_of X G z_zip
    z_OverflowError := PySem.W.mg_none_of X G z_OverflowError
    tk_ITEMS := tk_ITEMS
    g_ITEMS := PySem.W.mg_of X G g_ITEMS
    tk_MAX_ITEMS := tk_MAX_ITEMS
    g_MAX_ITEMS := PySem.W.mg_of X G g_MAX_ITEMS
    tk_MAX_STEPS := tk_MAX_STEPS
    g_MAX_STEPS := PySem.W.mg_of X G g_MAX_STEPS
    a_LeakError := a_LeakError
    g_LeakError := PySem.W.mg_of X G g_LeakError
    a_InvalidWord := a_InvalidWord
    g_InvalidWord := PySem.W.mg_of X G g_InvalidWord
    a_InvalidProgram := a_InvalidProgram
    g_InvalidProgram := PySem.W.mg_of X G g_InvalidProgram
    a_InvalidCore := a_InvalidCore
    g_InvalidCore := PySem.W.mg_of X G g_InvalidCore
    a_LimitExceeded := a_LimitExceeded
    g_LimitExceeded := PySem.W.mg_of X G g_LimitExceeded
    a_Effect := a_Effect
    g_Effect := PySem.W.mg_of X G g_Effect
    co_Effect := ⟨pg_Effect, hd_Effect, po_Effect, sa_Effect⟩
    cr_Effect := ⟨rd_Effect, ga_Effect⟩
    im_Effect := ⟨kl_Effect, gt_Effect, tk_Effect, ob_Effect⟩
    is_Effect_Effect := kit_same
    no_Effect_own_takes := no_Effect_own_takes
    no_Effect_own_puts := no_Effect_own_puts
    no_Effect_own_core := no_Effect_own_core
    tkc_Effect_MAX_ITEMS := tkc_Effect_MAX_ITEMS
    cv_Effect_MAX_ITEMS := ⟨cv_Effect_MAX_ITEMS, ⟨_, rfl⟩⟩
    mk_Effect := ⟨mk_Effect, i_Effect, j_Effect, kp_Effect⟩
    q_Effect_takes := q_Effect_takes
    pr_Effect_takes := ⟨p1_Effect_takes, p2_Effect_takes, p3_Effect_takes, ⟨_, p4_Effect_takes⟩⟩
    q_Effect_is_core := q_Effect_is_core
    st_Effect_is_core := ⟨p1_Effect_is_core, ⟨_, p4_Effect_is_core⟩, k_Effect_is_core⟩
    q_Effect_of := q_Effect_of
    cm_Effect_of := ⟨p1_Effect_of, ⟨_, p4_Effect_of⟩, p5_Effect_of⟩
    me_Effect_eq := ⟨m1_Effect_eq, m2_Effect_eq, k_Effect_eq⟩
    x_InvalidWord := ⟨xb_value, ⟨_, _, _, _, bm_InvalidWord, _, _, _, _, _, _, _, _, _, _, xL_InvalidWord, [a_LeakError], ln_InvalidWord⟩, sa_InvalidWord, ex_InvalidWord, ty_InvalidWord, kp_InvalidWord⟩
    no_InvalidWord := no_InvalidWord
    ai_InvalidWord := ai_InvalidWord
    fi_InvalidWord := _
    i_InvalidWord := i_InvalidWord
    j_InvalidWord := j_InvalidWord
    F_InvalidWord := fun_mk (st := s_InvalidWord_init) li_InvalidWord cdi_InvalidWord ki_InvalidWord
    xf_InvalidWord := ⟨ga_InvalidWord, gg_InvalidWord, ex_InvalidWord, hd_InvalidWord⟩
    xi_InvalidWord := ⟨(by obtain ⟨cd, hc, _⟩ := PySem.W.any_some hd_InvalidWord; rw [hc]; rfl), ga_InvalidWord, gg_InvalidWord, ex_InvalidWord, kl_InvalidWord, gt_InvalidWord, tk_InvalidWord, ob_InvalidWord⟩
    how_InvalidWord := ⟨h1_InvalidWord, h2_InvalidWord, h3_InvalidWord⟩
    x_InvalidProgram := ⟨xb_value, ⟨_, _, _, _, bm_InvalidProgram, _, _, _, _, _, _, _, _, _, _, xL_InvalidProgram, [a_LeakError], ln_InvalidProgram⟩, sa_InvalidProgram, ex_InvalidProgram, ty_InvalidProgram, kp_InvalidProgram⟩
    no_InvalidProgram := no_InvalidProgram
    ai_InvalidProgram := ai_InvalidProgram
    fi_InvalidProgram := _
    i_InvalidProgram := i_InvalidProgram
    j_InvalidProgram := j_InvalidProgram
    F_InvalidProgram := fun_mk (st := s_InvalidProgram_init) li_InvalidProgram cdi_InvalidProgram ki_InvalidProgram
    xf_InvalidProgram := ⟨ga_InvalidProgram, gg_InvalidProgram, ex_InvalidProgram, hd_InvalidProgram⟩
    xi_InvalidProgram := ⟨(by obtain ⟨cd, hc, _⟩ := PySem.W.any_some hd_InvalidProgram; rw [hc]; rfl), ga_InvalidProgram, gg_InvalidProgram, ex_InvalidProgram, kl_InvalidProgram, gt_InvalidProgram, tk_InvalidProgram, ob_InvalidProgram⟩
    how_InvalidProgram := ⟨h1_InvalidProgram, h2_InvalidProgram, h3_InvalidProgram⟩
    x_InvalidCore := ⟨xb_value, ⟨_, _, _, _, bm_InvalidCore, _, _, _, _, _, _, _, _, _, _, xL_InvalidCore, [a_LeakError], ln_InvalidCore⟩, sa_InvalidCore, ex_InvalidCore, ty_InvalidCore, kp_InvalidCore⟩
    no_InvalidCore := no_InvalidCore
    ai_InvalidCore := ai_InvalidCore
    fi_InvalidCore := _
    i_InvalidCore := i_InvalidCore
    j_InvalidCore := j_InvalidCore
    F_InvalidCore := fun_mk (st := s_InvalidCore_init) li_InvalidCore cdi_InvalidCore ki_InvalidCore
    xf_InvalidCore := ⟨ga_InvalidCore, gg_InvalidCore, ex_InvalidCore, hd_InvalidCore⟩
    xi_InvalidCore := ⟨(by obtain ⟨cd, hc, _⟩ := PySem.W.any_some hd_InvalidCore; rw [hc]; rfl), ga_InvalidCore, gg_InvalidCore, ex_InvalidCore, kl_InvalidCore, gt_InvalidCore, tk_InvalidCore, ob_InvalidCore⟩
    how_InvalidCore := ⟨h1_InvalidCore, h2_InvalidCore, h3_InvalidCore⟩
    x_LimitExceeded := ⟨xb_overflow, ⟨_, _, _, _, bm_LimitExceeded, _, _, _, _, _, _, _, _, _, _, xL_LimitExceeded, [], ln_LimitExceeded⟩, sa_LimitExceeded, ex_LimitExceeded, ty_LimitExceeded, kp_LimitExceeded⟩
    no_LimitExceeded := no_LimitExceeded
    ai_LimitExceeded := ai_LimitExceeded
    fi_LimitExceeded := _
    i_LimitExceeded := i_LimitExceeded
    j_LimitExceeded := j_LimitExceeded
    F_LimitExceeded := fun_mk (st := s_LimitExceeded_init) li_LimitExceeded cdi_LimitExceeded ki_LimitExceeded
    xf_LimitExceeded := ⟨ga_LimitExceeded, gg_LimitExceeded, ex_LimitExceeded, hd_LimitExceeded⟩
    xi_LimitExceeded := ⟨(by obtain ⟨cd, hc, _⟩ := PySem.W.any_some hd_LimitExceeded; rw [hc]; rfl), ga_LimitExceeded, gg_LimitExceeded, ex_LimitExceeded, kl_LimitExceeded, gt_LimitExceeded, tk_LimitExceeded, ob_LimitExceeded⟩
    how_LimitExceeded := h3_LimitExceeded
    a_law_words := a_law_words
    fd_law_words := _
    g_law_words := PySem.W.mg_of X G g_law_words
    k_law_words := k_law_words
    F_law_words := fun_mk (st := s_law_words) l_law_words cd_law_words k_law_words
    a_law_pool := a_law_pool
    fd_law_pool := _
    g_law_pool := PySem.W.mg_of X G g_law_pool
    k_law_pool := k_law_pool
    F_law_pool := fun_mk (st := s_law_pool) l_law_pool cd_law_pool k_law_pool
    a_law_take := a_law_take
    fd_law_take := _
    g_law_take := PySem.W.mg_of X G g_law_take
    k_law_take := k_law_take
    F_law_take := fun_mk (st := s_law_take) l_law_take cd_law_take k_law_take
    a_law_program := a_law_program
    fd_law_program := _
    g_law_program := PySem.W.mg_of X G g_law_program
    k_law_program := k_law_program
    F_law_program := fun_mk (st := s_law_program) l_law_program cd_law_program k_law_program
    a_Effect_eq := a_Effect_eq
    fd_Effect_eq := _
    k_Effect_eq := k_Effect_eq
    F_Effect_eq := fun_mk (st := s_Effect_eq) l_Effect_eq cd_Effect_eq k_Effect_eq
    a_is_program := a_is_program
    fd_is_program := _
    g_is_program := PySem.W.mg_of X G g_is_program
    k_is_program := k_is_program
    F_is_program := fun_mk (st := s_is_program) l_is_program cd_is_program k_is_program
    a_require_program := a_require_program
    fd_require_program := _
    g_require_program := PySem.W.mg_of X G g_require_program
    k_require_program := k_require_program
    F_require_program := fun_mk (st := s_require_program) l_require_program cd_require_program k_require_program
    a_taken := a_taken
    fd_taken := _
    g_taken := PySem.W.mg_of X G g_taken
    k_taken := k_taken
    F_taken := fun_mk (st := s_taken) l_taken cd_taken k_taken
    a_put_items := a_put_items
    fd_put_items := _
    g_put_items := PySem.W.mg_of X G g_put_items
    k_put_items := k_put_items
    F_put_items := fun_mk (st := s_put_items) l_put_items cd_put_items k_put_items
    a_places := a_places
    fd_places := _
    g_places := PySem.W.mg_of X G g_places
    k_places := k_places
    F_places := fun_mk (st := s_places) l_places cd_places k_places
    a_succeeds_from := a_succeeds_from
    fd_succeeds_from := _
    g_succeeds_from := PySem.W.mg_of X G g_succeeds_from
    k_succeeds_from := k_succeeds_from
    F_succeeds_from := fun_mk (st := s_succeeds_from) l_succeeds_from cd_succeeds_from k_succeeds_from
    a_core_of := a_core_of
    fd_core_of := _
    g_core_of := PySem.W.mg_of X G g_core_of
    k_core_of := k_core_of
    F_core_of := fun_mk (st := s_core_of) l_core_of cd_core_of k_core_of
    a_counts := a_counts
    fd_counts := _
    g_counts := PySem.W.mg_of X G g_counts
    k_counts := k_counts
    F_counts := fun_mk (st := s_counts) l_counts cd_counts k_counts
    a_triple := a_triple
    fd_triple := _
    g_triple := PySem.W.mg_of X G g_triple
    k_triple := k_triple
    F_triple := fun_mk (st := s_triple) l_triple cd_triple k_triple
    a_equivalent := a_equivalent
    fd_equivalent := _
    g_equivalent := PySem.W.mg_of X G g_equivalent
    k_equivalent := k_equivalent
    F_equivalent := fun_mk (st := s_equivalent) l_equivalent cd_equivalent k_equivalent
    a_Effect_takes := a_Effect_takes
    fd_Effect_takes := _
    k_Effect_takes := k_Effect_takes
    F_Effect_takes := fun_mk (st := s_Effect_takes) l_Effect_takes cd_Effect_takes k_Effect_takes
    a_is_word := a_is_word
    fd_is_word := _
    g_is_word := PySem.W.mg_of X G g_is_word
    k_is_word := k_is_word
    F_is_word := fun_mk (st := s_is_word) l_is_word cd_is_word k_is_word
    a_require_word := a_require_word
    fd_require_word := _
    g_require_word := PySem.W.mg_of X G g_require_word
    k_require_word := k_require_word
    F_require_word := fun_mk (st := s_require_word) l_require_word cd_require_word k_require_word
    a_is_integer := a_is_integer
    fd_is_integer := _
    g_is_integer := PySem.W.mg_of X G g_is_integer
    k_is_integer := k_is_integer
    F_is_integer := fun_mk (st := s_is_integer) l_is_integer cd_is_integer k_is_integer
    a_is_within := a_is_within
    fd_is_within := _
    g_is_within := PySem.W.mg_of X G g_is_within
    k_is_within := k_is_within
    F_is_within := fun_mk (st := s_is_within) l_is_within cd_is_within k_is_within
    a_Effect_is_core := a_Effect_is_core
    fd_Effect_is_core := _
    k_Effect_is_core := k_Effect_is_core
    F_Effect_is_core := fun_mk (st := s_Effect_is_core) l_Effect_is_core cd_Effect_is_core k_Effect_is_core
    a_Effect_init := a_Effect_init
    fd_Effect_init := _
    k_Effect_init := k_Effect_init
    F_Effect_init := fun_mk (st := s_Effect_init) l_Effect_init cd_Effect_init k_Effect_init
    a_Effect_of := a_Effect_of
    fd_Effect_of := _
    k_Effect_of := k_Effect_of
    F_Effect_of := fun_mk (st := s_Effect_of) l_Effect_of cd_Effect_of k_Effect_of
    a_law_best := a_law_best
    fd_law_best := _
    g_law_best := PySem.W.mg_of X G g_law_best
    k_law_best := k_law_best
    F_law_best := fun_mk (st := s_law_best) l_law_best cd_law_best k_law_best
    a_law := fa
    fd_law := _
    g_law := PySem.W.mg_of X G g_law
    k_law := k_law
    F_law := fun_mk (st := s_law) l_law cd_law k_law
    }, rfl, rfl⟩
  obtain ⟨t, e1, e2⟩ := t
  refine ⟨PySem.W.fnOf "law" "law" (defArgs s_law) (defBody s_law) (defScope s_law) .none v_law d_law p_law an_law c_law y_law, fun s v => .of_eq rfl, fun base _ _ => ?_⟩
  have F := law_fng (n := 63) (ok_law (P := l.prog) (w := w) (base := base) t) rfl law_ok
  rw [e1, e2] at F
  exact F
end K24
set_option Elab.async false
set_option linter.all false
set_option maxRecDepth 100000
set_option maxHeartbeats 4000000
open PySem PySem.W PyProof.Rows
set_option maxHeartbeats 0 in
theorem PySem.Challenge.cw_leakyqueue_k24_whole_three_values_decide_holds : PySem.Challenge.rw_leakyqueue_k24_whole_three_values_decide.Holds := by
  w_on; o_law; k_head; (case hw => w_witness2)
  k_fill
  refine DL.walk_g (l := PySem.Challenge.rw_leakyqueue_k24_whole_three_values_decide) (n := 63) (k := 13) (x := "_law_script") (sp := fun K => DL.spLaw 63 K) rfl (by decide) rfl ⟨rfl, by decide, by decide⟩ (fun w h Y => PySem.W.kIn_of Y) ?F (fun _ _ a ns hl _ _ hS => ⟨a, ns, rfl, hS, hl, fun _ => rfl⟩)
  case F =>
    intro w mg fa h KX G hmg
    refine' K24.all_mk KX G hmg ?z_all ?z_bool ?z_int ?z_isinstance ?z_len ?z_list ?z_max ?z_min ?z_range ?z_repr ?z_str ?z_zip ?z_OverflowError ?g_ITEMS ?g_MAX_ITEMS ?g_MAX_STEPS ?g_LeakError ?g_InvalidWord ?g_InvalidProgram ?g_InvalidCore ?g_LimitExceeded ?g_Effect ?ex_LeakError ?ty_LeakError ?hd_LeakError ?ex_InvalidWord ?ty_InvalidWord ?hd_InvalidWord ?ex_InvalidProgram ?ty_InvalidProgram ?hd_InvalidProgram ?ex_InvalidCore ?ty_InvalidCore ?hd_InvalidCore ?ex_LimitExceeded ?ty_LimitExceeded ?hd_LimitExceeded ?ty_Effect ?hd_Effect ?pg_Effect ?po_Effect ?sa_Effect ?kp_Effect ?rd_Effect ?ga_Effect ?kl_Effect ?gt_Effect ?tk_Effect ?ob_Effect ?no_Effect_own_takes ?no_Effect_own_puts ?no_Effect_own_core ?cv_Effect_MAX_ITEMS ?mk_Effect ?i_Effect ?j_Effect ?p1_Effect_takes ?p2_Effect_takes ?p3_Effect_takes ?p4_Effect_takes ?p1_Effect_is_core ?p4_Effect_is_core ?p1_Effect_of ?p4_Effect_of ?p5_Effect_of ?m1_Effect_eq ?m2_Effect_eq ?xL_InvalidWord ?ln_InvalidWord ?sa_InvalidWord ?kp_InvalidWord ?no_InvalidWord ?i_InvalidWord ?j_InvalidWord ?li_InvalidWord ?cdi_InvalidWord ?ki_InvalidWord ?ga_InvalidWord ?gg_InvalidWord ?kl_InvalidWord ?gt_InvalidWord ?tk_InvalidWord ?ob_InvalidWord ?h1_InvalidWord ?h2_InvalidWord ?h3_InvalidWord ?xL_InvalidProgram ?ln_InvalidProgram ?sa_InvalidProgram ?kp_InvalidProgram ?no_InvalidProgram ?i_InvalidProgram ?j_InvalidProgram ?li_InvalidProgram ?cdi_InvalidProgram ?ki_InvalidProgram ?ga_InvalidProgram ?gg_InvalidProgram ?kl_InvalidProgram ?gt_InvalidProgram ?tk_InvalidProgram ?ob_InvalidProgram ?h1_InvalidProgram ?h2_InvalidProgram ?h3_InvalidProgram ?xL_InvalidCore ?ln_InvalidCore ?sa_InvalidCore ?kp_InvalidCore ?no_InvalidCore ?i_InvalidCore ?j_InvalidCore ?li_InvalidCore ?cdi_InvalidCore ?ki_InvalidCore ?ga_InvalidCore ?gg_InvalidCore ?kl_InvalidCore ?gt_InvalidCore ?tk_InvalidCore ?ob_InvalidCore ?h1_InvalidCore ?h2_InvalidCore ?h3_InvalidCore ?xL_LimitExceeded ?ln_LimitExceeded ?sa_LimitExceeded ?kp_LimitExceeded ?no_LimitExceeded ?i_LimitExceeded ?j_LimitExceeded ?li_LimitExceeded ?cdi_LimitExceeded ?ki_LimitExceeded ?ga_LimitExceeded ?gg_LimitExceeded ?kl_LimitExceeded ?gt_LimitExceeded ?tk_LimitExceeded ?ob_LimitExceeded ?h3_LimitExceeded ?g_law_words ?l_law_words ?cd_law_words ?k_law_words ?g_law_pool ?l_law_pool ?cd_law_pool ?k_law_pool ?g_law_take ?l_law_take ?cd_law_take ?k_law_take ?g_law_program ?l_law_program ?cd_law_program ?k_law_program ?l_Effect_eq ?cd_Effect_eq ?k_Effect_eq ?g_is_program ?l_is_program ?cd_is_program ?k_is_program ?g_require_program ?l_require_program ?cd_require_program ?k_require_program ?g_taken ?l_taken ?cd_taken ?k_taken ?g_put_items ?l_put_items ?cd_put_items ?k_put_items ?g_places ?l_places ?cd_places ?k_places ?g_succeeds_from ?l_succeeds_from ?cd_succeeds_from ?k_succeeds_from ?g_core_of ?l_core_of ?cd_core_of ?k_core_of ?g_counts ?l_counts ?cd_counts ?k_counts ?g_triple ?l_triple ?cd_triple ?k_triple ?g_equivalent ?l_equivalent ?cd_equivalent ?k_equivalent ?l_Effect_takes ?cd_Effect_takes ?k_Effect_takes ?g_is_word ?l_is_word ?cd_is_word ?k_is_word ?g_require_word ?l_require_word ?cd_require_word ?k_require_word ?g_is_integer ?l_is_integer ?cd_is_integer ?k_is_integer ?g_is_within ?l_is_within ?cd_is_within ?k_is_within ?l_Effect_is_core ?cd_Effect_is_core ?k_Effect_is_core ?l_Effect_init ?cd_Effect_init ?k_Effect_init ?l_Effect_of ?cd_Effect_of ?k_Effect_of ?g_law_best ?l_law_best ?cd_law_best ?k_law_best ?g_law ?l_law ?cd_law ?k_law K24.law_ok
    (case z_all => k_is)
    (case z_bool => k_is)
    (case z_int => k_is)
    (case z_isinstance => k_is)
    (case z_len => k_is)
    (case z_list => k_is)
    (case z_max => k_is)
    (case z_min => k_is)
    (case z_range => k_is)
    (case z_repr => k_is)
    (case z_str => k_is)
    (case z_zip => k_is)
    (case z_OverflowError => k_is)
    (case g_ITEMS => k_is)
    (case g_MAX_ITEMS => k_is)
    (case g_MAX_STEPS => k_is)
    (case g_LeakError => k_is)
    (case g_InvalidWord => k_is)
    (case g_InvalidProgram => k_is)
    (case g_InvalidCore => k_is)
    (case g_LimitExceeded => k_is)
    (case g_Effect => k_is)
    (case ex_LeakError => k_is)
    (case ty_LeakError => k_is)
    (case hd_LeakError => k_is)
    (case ex_InvalidWord => k_is)
    (case ty_InvalidWord => k_is)
    (case hd_InvalidWord => k_is)
    (case ex_InvalidProgram => k_is)
    (case ty_InvalidProgram => k_is)
    (case hd_InvalidProgram => k_is)
    (case ex_InvalidCore => k_is)
    (case ty_InvalidCore => k_is)
    (case hd_InvalidCore => k_is)
    (case ex_LimitExceeded => k_is)
    (case ty_LimitExceeded => k_is)
    (case hd_LimitExceeded => k_is)
    (case ty_Effect => k_is)
    (case hd_Effect => k_is)
    (case pg_Effect => k_is)
    (case po_Effect => k_is)
    (case sa_Effect => k_is)
    (case kp_Effect => k_is)
    (case rd_Effect => k_is)
    (case ga_Effect => k_is)
    (case kl_Effect => k_is)
    (case gt_Effect => k_is)
    (case tk_Effect => k_is)
    (case ob_Effect => k_is)
    (case no_Effect_own_takes => k_is)
    (case no_Effect_own_puts => k_is)
    (case no_Effect_own_core => k_is)
    (case cv_Effect_MAX_ITEMS => k_is)
    (case mk_Effect => k_is)
    (case i_Effect => k_is)
    (case j_Effect => k_is)
    (case p1_Effect_takes => k_is)
    (case p2_Effect_takes => k_is)
    (case p3_Effect_takes => k_is)
    (case p4_Effect_takes => k_is)
    (case p1_Effect_is_core => k_is)
    (case p4_Effect_is_core => k_is)
    (case p1_Effect_of => k_is)
    (case p4_Effect_of => k_is)
    (case p5_Effect_of => k_is)
    (case m1_Effect_eq => k_is)
    (case m2_Effect_eq => k_is)
    (case xL_InvalidWord => k_is)
    (case ln_InvalidWord => rfl)
    (case sa_InvalidWord => k_is)
    (case kp_InvalidWord => k_is)
    (case no_InvalidWord => k_is)
    (case i_InvalidWord => k_is)
    (case j_InvalidWord => k_is)
    (case li_InvalidWord => k_is)
    (case cdi_InvalidWord => k_is)
    (case ki_InvalidWord => k_is)
    (case ga_InvalidWord => k_is)
    (case gg_InvalidWord => k_is)
    (case kl_InvalidWord => k_is)
    (case gt_InvalidWord => k_is)
    (case tk_InvalidWord => k_is)
    (case ob_InvalidWord => k_is)
    (case h1_InvalidWord => k_is)
    (case h2_InvalidWord => k_is)
    (case h3_InvalidWord => k_is)
    (case xL_InvalidProgram => k_is)
    (case ln_InvalidProgram => rfl)
    (case sa_InvalidProgram => k_is)
    (case kp_InvalidProgram => k_is)
    (case no_InvalidProgram => k_is)
    (case i_InvalidProgram => k_is)
    (case j_InvalidProgram => k_is)
    (case li_InvalidProgram => k_is)
    (case cdi_InvalidProgram => k_is)
    (case ki_InvalidProgram => k_is)
    (case ga_InvalidProgram => k_is)
    (case gg_InvalidProgram => k_is)
    (case kl_InvalidProgram => k_is)
    (case gt_InvalidProgram => k_is)
    (case tk_InvalidProgram => k_is)
    (case ob_InvalidProgram => k_is)
    (case h1_InvalidProgram => k_is)
    (case h2_InvalidProgram => k_is)
    (case h3_InvalidProgram => k_is)
    (case xL_InvalidCore => k_is)
    (case ln_InvalidCore => rfl)
    (case sa_InvalidCore => k_is)
    (case kp_InvalidCore => k_is)
    (case no_InvalidCore => k_is)
    (case i_InvalidCore => k_is)
    (case j_InvalidCore => k_is)
    (case li_InvalidCore => k_is)
    (case cdi_InvalidCore => k_is)
    (case ki_InvalidCore => k_is)
    (case ga_InvalidCore => k_is)
    (case gg_InvalidCore => k_is)
    (case kl_InvalidCore => k_is)
    (case gt_InvalidCore => k_is)
    (case tk_InvalidCore => k_is)
    (case ob_InvalidCore => k_is)
    (case h1_InvalidCore => k_is)
    (case h2_InvalidCore => k_is)
    (case h3_InvalidCore => k_is)
    (case xL_LimitExceeded => k_is)
    (case ln_LimitExceeded => rfl)
    (case sa_LimitExceeded => k_is)
    (case kp_LimitExceeded => k_is)
    (case no_LimitExceeded => k_is)
    (case i_LimitExceeded => k_is)
    (case j_LimitExceeded => k_is)
    (case li_LimitExceeded => k_is)
    (case cdi_LimitExceeded => k_is)
    (case ki_LimitExceeded => k_is)
    (case ga_LimitExceeded => k_is)
    (case gg_LimitExceeded => k_is)
    (case kl_LimitExceeded => k_is)
    (case gt_LimitExceeded => k_is)
    (case tk_LimitExceeded => k_is)
    (case ob_LimitExceeded => k_is)
    (case h3_LimitExceeded => k_is)
    (case g_law_words => k_is)
    (case l_law_words => k_is)
    (case cd_law_words => k_is)
    (case k_law_words => k_is)
    (case g_law_pool => k_is)
    (case l_law_pool => k_is)
    (case cd_law_pool => k_is)
    (case k_law_pool => k_is)
    (case g_law_take => k_is)
    (case l_law_take => k_is)
    (case cd_law_take => k_is)
    (case k_law_take => k_is)
    (case g_law_program => k_is)
    (case l_law_program => k_is)
    (case cd_law_program => k_is)
    (case k_law_program => k_is)
    (case l_Effect_eq => k_is)
    (case cd_Effect_eq => k_is)
    (case k_Effect_eq => k_is)
    (case g_is_program => k_is)
    (case l_is_program => k_is)
    (case cd_is_program => k_is)
    (case k_is_program => k_is)
    (case g_require_program => k_is)
    (case l_require_program => k_is)
    (case cd_require_program => k_is)
    (case k_require_program => k_is)
    (case g_taken => k_is)
    (case l_taken => k_is)
    (case cd_taken => k_is)
    (case k_taken => k_is)
    (case g_put_items => k_is)
    (case l_put_items => k_is)
    (case cd_put_items => k_is)
    (case k_put_items => k_is)
    (case g_places => k_is)
    (case l_places => k_is)
    (case cd_places => k_is)
    (case k_places => k_is)
    (case g_succeeds_from => k_is)
    (case l_succeeds_from => k_is)
    (case cd_succeeds_from => k_is)
    (case k_succeeds_from => k_is)
    (case g_core_of => k_is)
    (case l_core_of => k_is)
    (case cd_core_of => k_is)
    (case k_core_of => k_is)
    (case g_counts => k_is)
    (case l_counts => k_is)
    (case cd_counts => k_is)
    (case k_counts => k_is)
    (case g_triple => k_is)
    (case l_triple => k_is)
    (case cd_triple => k_is)
    (case k_triple => k_is)
    (case g_equivalent => k_is)
    (case l_equivalent => k_is)
    (case cd_equivalent => k_is)
    (case k_equivalent => k_is)
    (case l_Effect_takes => k_is)
    (case cd_Effect_takes => k_is)
    (case k_Effect_takes => k_is)
    (case g_is_word => k_is)
    (case l_is_word => k_is)
    (case cd_is_word => k_is)
    (case k_is_word => k_is)
    (case g_require_word => k_is)
    (case l_require_word => k_is)
    (case cd_require_word => k_is)
    (case k_require_word => k_is)
    (case g_is_integer => k_is)
    (case l_is_integer => k_is)
    (case cd_is_integer => k_is)
    (case k_is_integer => k_is)
    (case g_is_within => k_is)
    (case l_is_within => k_is)
    (case cd_is_within => k_is)
    (case k_is_within => k_is)
    (case l_Effect_is_core => k_is)
    (case cd_Effect_is_core => k_is)
    (case k_Effect_is_core => k_is)
    (case l_Effect_init => k_is)
    (case cd_Effect_init => k_is)
    (case k_Effect_init => k_is)
    (case l_Effect_of => k_is)
    (case cd_Effect_of => k_is)
    (case k_Effect_of => k_is)
    (case g_law_best => k_is)
    (case l_law_best => k_is)
    (case cd_law_best => k_is)
    (case k_law_best => k_is)
    (case g_law => k_is)
    (case l_law => k_is)
    (case cd_law => k_is)
    (case k_law => k_is)
