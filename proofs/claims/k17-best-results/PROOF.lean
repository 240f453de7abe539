import PyProof.Rows.All
import Wide.All
import OpenK.AllK
import Wide.FinOn
import PySem.Challenge.RW_leakyqueue_k17_best_results
import HandS.ForMost
import HandS.CallSlots
import HandS.WordsExc
import HandS.Deep
import HandS.StrMore
import HandS.EndBits
import HandS.IsInst
import HandS.Replace
import PyProof.ReprRoads
import PyProof.ListStr
import HandS.ExcInit
import HandS.TryMany
import KE.KExcInit
import HandS.ExcField
import HandS.ExcIs
import KE.KExcIs
import PyProof.Rows.StrCase
import PyProof.Rows.StrBetween
set_option Elab.async false
set_option linter.all false
set_option maxRecDepth 100000
set_option maxHeartbeats 4000000
/-! The data layer: mirrors over plain data for defs of the text. -/
namespace DL
open PySem PySem.Spec PyProof.Rows L2

abbrev St := L2.St
/-- plain data -/
inductive D where
  | non | bl (b : Bool) | int (i : Int) | str (l : List Nat)
  | lst (l : List D) | tup (l : List D)
  | dic (ks vs : List D)
  | obj (c : Nat) (vs : List D)
  | fro (l : List D)

abbrev S (l : List Nat) : Str := ⟨l.toArray⟩

/-- the table of classes (their addresses, the names of their attributes), and the written part -/
structure Tb where
  K : PySem.W.Frag
  cls : Nat → Addr × List Str

def kD : Key → D
  | .inl i => .int i
  | .inr x => .str x.cps.toList

mutual
/-- in G the value v stands for d -/
def Rp (T : Tb) (G : Hp) : D → V → Prop
  | .non, v => v = .non
  | .bl b, v => v = .bl b
  | .int i, v => v = .int i
  | .str l, v => v = .str (S l)
  | .lst ds, v => ∃ a xs, v = .ref a ∧ G a = some (.lst xs) ∧ RpL T G ds xs
  | .tup ds, v => ∃ a xs, v = .ref a ∧ G a = some (.tup xs) ∧ RpL T G ds xs
  | .dic ks vs, v => ∃ a kvs, v = .ref a ∧ G a = some (.dK kvs) ∧ ks = kvs.map (fun p => kD p.1) ∧ RpL T G vs (kvs.map (·.2))
  | .obj c vs, v => ∃ a dx fs, v = .ref a ∧ G a = some (.ins (T.cls c).1 dx fs) ∧ fs.map (·.1) = (T.cls c).2 ∧ RpL T G vs (fs.map (·.2))
  | .fro ds, v => ∃ a xs, v = .ref a ∧ SqL T.K G a xs ∧ RpL T G ds xs
def RpL (T : Tb) (G : Hp) : List D → List V → Prop
  | [], xs => xs = []
  | d :: ds, xs => ∃ x r, xs = x :: r ∧ Rp T G d x ∧ RpL T G ds r
end

section
variable {T : Tb} {G G' H : Hp}
/-- one heap within another -/
def Sub (G H : Hp) : Prop := ∀ a o, G a = some o → H a = some o
theorem Sub.refl : Sub G G := fun _ _ h => h
theorem Sub.trans {A B C : Hp} (a : Sub A B) (b : Sub B C) : Sub A C := fun x o h => b x o (a x o h)
theorem Sub.new {p : Addr} {o : HO} (h : H p = none) : Sub H (upd H p o) := fun b x e => by
  rw [upd_ne (ne_of_none e h)]
  exact e
theorem Sub.seq {K : PySem.W.Frag} {a : Addr} {xs : List V} (e : Sub G H) (h : SqL K G a xs) : SqL K H a xs := by
  rcases h with (h | ⟨o, h⟩) | h
  · exact .inl (.inl (e _ _ h))
  · exact .inl (.inr ⟨o, e _ _ h⟩)
  · exact .inr h

mutual
theorem Rp.mono (e : Sub G G') : ∀ (d : D) (v : V), Rp T G d v → Rp T G' d v
  | .non, v, h => by simp only [Rp] at h ⊢; exact h
  | .bl b, v, h => by simp only [Rp] at h ⊢; exact h
  | .int i, v, h => by simp only [Rp] at h ⊢; exact h
  | .str l, v, h => by simp only [Rp] at h ⊢; exact h
  | .lst ds, v, h => by
    simp only [Rp] at h ⊢
    obtain ⟨a, xs, h1, h2, h3⟩ := h
    exact ⟨a, xs, h1, e _ _ h2, RpL.mono e ds xs h3⟩
  | .tup ds, v, h => by
    simp only [Rp] at h ⊢
    obtain ⟨a, xs, h1, h2, h3⟩ := h
    exact ⟨a, xs, h1, e _ _ h2, RpL.mono e ds xs h3⟩
  | .dic ks vs, v, h => by
    simp only [Rp] at h ⊢
    obtain ⟨a, kvs, h1, h2, h3, h4⟩ := h
    exact ⟨a, kvs, h1, e _ _ h2, h3, RpL.mono e vs _ h4⟩
  | .obj c vs, v, h => by
    simp only [Rp] at h ⊢
    obtain ⟨a, dx, fs, h1, h2, h3, h4⟩ := h
    exact ⟨a, dx, fs, h1, e _ _ h2, h3, RpL.mono e vs _ h4⟩
  | .fro ds, v, h => by
    simp only [Rp] at h ⊢
    obtain ⟨a, xs, h1, h2, h3⟩ := h
    exact ⟨a, xs, h1, e.seq h2, RpL.mono e ds xs h3⟩
theorem RpL.mono (e : Sub G G') : ∀ (ds : List D) (xs : List V), RpL T G ds xs → RpL T G' ds xs
  | [], xs, h => by simp only [RpL] at h ⊢; exact h
  | d :: ds, xs, h => by
    simp only [RpL] at h ⊢
    obtain ⟨x, r, h1, h2, h3⟩ := h
    exact ⟨x, r, h1, Rp.mono e d x h2, RpL.mono e ds r h3⟩
end
theorem RpL.length : ∀ {ds : List D} {xs : List V}, RpL T G ds xs → xs.length = ds.length
  | [], xs, h => by simp only [RpL] at h; rw [h]; rfl
  | d :: ds, xs, h => by
    simp only [RpL] at h
    obtain ⟨x, r, rfl, _, h3⟩ := h
    simp [RpL.length h3]
theorem RpL.get : ∀ {ds : List D} {xs : List V}, RpL T G ds xs → ∀ {i : Nat} {d : D}, ds[i]? = some d → ∃ x, xs[i]? = some x ∧ Rp T G d x
  | [], xs, h, i, d, e => by simp at e
  | d0 :: ds, xs, h, i, d, e => by
    simp only [RpL] at h
    obtain ⟨x, r, rfl, h2, h3⟩ := h
    cases i with
    | zero => simp at e; subst e; exact ⟨x, rfl, h2⟩
    | succ i => exact RpL.get h3 (i := i) (by simpa using e)
theorem RpL.append : ∀ {ds es : List D} {xs ys : List V}, RpL T G ds xs → RpL T G es ys → RpL T G (ds ++ es) (xs ++ ys)
  | [], es, xs, ys, h, h' => by simp only [RpL] at h; subst h; exact h'
  | d :: ds, es, xs, ys, h, h' => by
    simp only [RpL] at h
    obtain ⟨x, r, rfl, h2, h3⟩ := h
    show RpL T G (d :: (ds ++ es)) _
    simp only [RpL]
    exact ⟨x, r ++ ys, rfl, h2, RpL.append h3 h'⟩
theorem RpL.nil : RpL T G [] [] := by simp only [RpL]
theorem RpL.cons {d : D} {v : V} {ds : List D} {xs : List V} (h : Rp T G d v) (h' : RpL T G ds xs) : RpL T G (d :: ds) (v :: xs) := by
  simp only [RpL]; exact ⟨v, xs, rfl, h, h'⟩
theorem RpL.drop : ∀ (n : Nat) {ds : List D} {xs : List V}, RpL T G ds xs → RpL T G (ds.drop n) (xs.drop n)
  | 0, _, _, h => h
  | n + 1, [], xs, h => by simp only [RpL] at h; subst h; exact RpL.nil
  | n + 1, d :: ds, xs, h => by
    simp only [RpL] at h
    obtain ⟨x, r, rfl, h2, h3⟩ := h
    exact RpL.drop n h3
theorem RpL.take : ∀ (n : Nat) {ds : List D} {xs : List V}, RpL T G ds xs → RpL T G (ds.take n) (xs.take n)
  | 0, _, _, h => RpL.nil
  | n + 1, [], xs, h => by simp only [RpL] at h; subst h; exact RpL.nil
  | n + 1, d :: ds, xs, h => by
    simp only [RpL] at h
    obtain ⟨x, r, rfl, h2, h3⟩ := h
    exact RpL.cons h2 (RpL.take n h3)
theorem RpL.set : ∀ (n : Nat) {ds : List D} {xs : List V} {d : D} {v : V}, RpL T G ds xs → Rp T G d v → RpL T G (ds.set n d) (xs.set n v)
  | n, [], xs, _, _, h, _ => by simp only [RpL] at h; subst h; exact RpL.nil
  | 0, d :: ds, xs, _, _, h, q => by
    simp only [RpL] at h
    obtain ⟨x, r, rfl, h2, h3⟩ := h
    exact RpL.cons q h3
  | n + 1, d :: ds, xs, _, _, h, q => by
    simp only [RpL] at h
    obtain ⟨x, r, rfl, h2, h3⟩ := h
    exact RpL.cons h2 (RpL.set n h3 q)
end

/-- what a mutable object holds -/
def Cp (T : Tb) (G H : Hp) (p : Addr) : D → Prop
  | .lst ds => ∃ xs, H p = some (.lst xs) ∧ RpL T G ds xs
  | .dic ks vs => ∃ kvs, H p = some (.dK kvs) ∧ ks = kvs.map (fun p => kD p.1) ∧ RpL T G vs (kvs.map (·.2))
  | .obj c vs => ∃ dx fs, H p = some (.ins (T.cls c).1 dx fs) ∧ fs.map (·.1) = (T.cls c).2 ∧ RpL T G vs (fs.map (·.2))
  | _ => False

/-- a name's content: nothing known; plain data; a mutable object of this def's own (true: the caller's) -/
inductive Sl where
  | un | va (d : D) | ce (b : Bool) (d : D)
abbrev Env := List Sl
@[simp] def gt : Env → Nat → Sl
  | [], _ => .un
  | s :: _, 0 => s
  | _ :: r, n + 1 => gt r n
@[simp] def st : Env → Nat → Sl → Env
  | [], _, _ => []
  | _ :: r, 0, x => x :: r
  | s :: r, n + 1, x => s :: st r n x
theorem st_len : ∀ (e : Env) (n : Nat) (x : Sl), (st e n x).length = e.length
  | [], _, _ => rfl
  | _ :: _, 0, _ => rfl
  | s :: r, n + 1, x => by show (st r n x).length + 1 = r.length + 1; rw [st_len r n x]
theorem gt_st : ∀ (e : Env) (n : Nat) (x : Sl) (m : Nat), gt (st e n x) m = if m = n ∧ n < e.length then x else gt e m
  | [], n, x, m => by simp [st, gt]
  | s :: r, 0, x, 0 => by simp [st, gt]
  | s :: r, 0, x, m + 1 => by simp [st, gt]
  | s :: r, n + 1, x, 0 => by simp [st, gt]
  | s :: r, n + 1, x, m + 1 => by
    show gt (st r n x) m = _
    rw [gt_st r n x m]
    show _ = if m + 1 = n + 1 ∧ n + 1 < r.length + 1 then x else gt r m
    by_cases h : m = n ∧ n < r.length
    · rw [if_pos h, if_pos ⟨by omega, by omega⟩]
    · rw [if_neg h, if_neg (fun ⟨a, b⟩ => h ⟨by omega, by omega⟩)]
theorem gt_lt : ∀ {e : Env} {n : Nat}, gt e n ≠ .un → n < e.length
  | [], n, h => absurd rfl h
  | s :: r, 0, h => Nat.succ_pos _
  | s :: r, n + 1, h => Nat.succ_lt_succ (gt_lt (e := r) (n := n) h)

theorem st_st : ∀ (e : Env) (i : Nat) (x y : Sl), st (st e i x) i y = st e i y
  | [], _, _, _ => rfl
  | _ :: _, 0, _, _ => rfl
  | s :: r, i + 1, x, y => by show s :: _ = s :: _; rw [st_st r i x y]

/-- what stays through a body: Pr is to be kept; A: where the caller's mutable objects stand -/
structure Fx where
  T : Tb
  Pr : Hp
  A : Nat → Option Addr

/-- the state: G is frozen -/
structure SR (F : Fx) (G H : Hp) (σ : St) (e : Env) : Prop where
  prot : Sub F.Pr H
  sub : Sub G H
  len : e.length = σ.length
  va : ∀ i d, gt e i = .va d → ∃ v, σ[i]? = some (some v) ∧ Rp F.T G d v
  ce : ∀ i b d, gt e i = .ce b d → ∃ p, σ[i]? = some (some (.ref p)) ∧ (b = true → F.A i = some p) ∧ F.Pr p = none ∧ G p = none ∧ Cp F.T G H p d
  dis : ∀ i j b d b' d' p, gt e i = .ce b d → gt e j = .ce b' d' → σ[i]? = some (some (.ref p)) → σ[j]? = some (some (.ref p)) → i = j

def Ext (Pr G G' : Hp) : Prop := Sub G G' ∧ ∀ a o, G' a = some o → G a = some o ∨ Pr a = none
theorem Ext.refl {Pr G : Hp} : Ext Pr G G := ⟨Sub.refl, fun _ _ h => .inl h⟩
theorem Ext.trans {Pr G G1 G2 : Hp} (a : Ext Pr G G1) (b : Ext Pr G1 G2) : Ext Pr G G2 :=
  ⟨a.1.trans b.1, fun x o h => (b.2 x o h).elim (fun q => a.2 x o q) .inr⟩

/-- what an expression hands out: data; the mutable object of a name; a new mutable object -/
inductive PV where
  | d (d : D) | sl (i : Nat) | nw (d : D)

def Off (σ : St) (e : Env) (p : Addr) : Prop := ∀ i b d', gt e i = .ce b d' → σ[i]? ≠ some (some (.ref p))
def PVR (F : Fx) (G H : Hp) (σ : St) (e : Env) : PV → V → Prop
  | .d d, v => Rp F.T G d v
  | .sl i, v => σ[i]? = some (some v)
  | .nw d, v => ∃ p, v = .ref p ∧ F.Pr p = none ∧ G p = none ∧ Off σ e p ∧ Cp F.T G H p d

inductive R (α : Type) where
  | ok (a : α) | ex (c : Nat) (d : D) (e : Env) | no
@[reducible] def R.bind {α β : Type} (x : R α) (f : α → R β) : R β := match x with
  | .ok a => f a
  | .ex c d e => .ex c d e
  | .no => .no
instance : Monad R where
  pure := .ok
  bind := R.bind
@[simp] theorem R.bind_ok {α β : Type} (a : α) (f : α → R β) : ((R.ok a : R α) >>= f) = f a := rfl
@[simp] theorem R.bind_ex {α β : Type} (c : Nat) (d : D) (e : Env) (f : α → R β) : ((R.ex c d e : R α) >>= f) = .ex c d e := rfl
@[simp] theorem R.bind_no {α β : Type} (f : α → R β) : ((R.no : R α) >>= f) = .no := rfl
@[simp] theorem R.pure_ok {α : Type} (a : α) : (pure a : R α) = .ok a := rfl
@[simp] def R.of {α : Type} : Option α → R α
  | some a => .ok a
  | none => .no

/-- an exception of class c with the value d -/
def WEx (F : Fx) (W : WX) (σ : St) (G : Hp) (c : Nat) (d : D) (e : Env) : Prop := ∀ (dct : Addr) (v : V) (f : Str) (G' H' : Hp), Ext F.Pr G G' → SR F G' H' σ e → Rp F.T G' d v → (F.T.cls c).2 = [f] → H' dct = some (.xd [(f, v)]) → W (.ref (F.T.cls c).1) (some dct) σ H'

/-- what is wanted behind an expression -/
def OkE {α β : Type} (F : Fx) (W : WX) (σ : St) (G : Hp) (Q : β → Hp → Prop) (rel : Hp → Hp → Env → α → β → Prop) : R (α × Env) → Prop
  | .ok (a, e') => ∀ (v : β) (G' H' : Hp), Ext F.Pr G G' → SR F G' H' σ e' → rel G' H' e' a v → Q v H'
  | .ex c d e' => WEx F W σ G c d e'
  | .no => False

abbrev FE := Env → R (PV × Env)
abbrev FT := Env → R (Bool × Env)
abbrev FA := Env → R (List PV × Env)

section
variable {F : Fx} {W : WX} {G G1 H H1 : Hp} {σ : St} {e e1 : Env} {α β α' β' : Type}
theorem WEx.ext {c : Nat} {d : D} (x : Ext F.Pr G G1) (h : WEx F W σ G c d e) : WEx F W σ G1 c d e :=
  fun dct v f G' H' x' s r n q => h dct v f G' H' (x.trans x') s r n q
theorem OkE.ext {Q : β → Hp → Prop} {rel : Hp → Hp → Env → α → β → Prop} {r : R (α × Env)} (x : Ext F.Pr G G1) (h : OkE F W σ G Q rel r) : OkE F W σ G1 Q rel r := by
  cases r with
  | ok a => obtain ⟨a, e'⟩ := a; exact fun v G' H' x' => h v G' H' (x.trans x')
  | ex c d e' => exact WEx.ext x h
  | no => exact h
theorem OkE.first {Q : β → Hp → Prop} {rel : Hp → Hp → Env → α → β → Prop} {Q1 : β' → Hp → Prop} {rel1 : Hp → Hp → Env → α' → β' → Prop} {r : R (α' × Env)} {k : α' × Env → R (α × Env)}
    (h : OkE F W σ G Q rel (r >>= k)) (hk : ∀ a e1 v G1 H1, Ext F.Pr G G1 → SR F G1 H1 σ e1 → rel1 G1 H1 e1 a v → OkE F W σ G1 Q rel (k (a, e1)) → Q1 v H1) : OkE F W σ G Q1 rel1 r := by
  cases r with
  | ok a => obtain ⟨a, e'⟩ := a; exact fun v G' H' x' s q => hk a e' v G' H' x' s q (h.ext x')
  | ex c d e' => exact h
  | no => exact h

theorem Cp.mono {T : Tb} {p : Addr} {G' H' : Hp} (eg : Sub G G') (eh : ∀ o, H p = some o → H' p = some o) : ∀ {d : D}, Cp T G H p d → Cp T G' H' p d
  | .lst ds, ⟨xs, h1, h2⟩ => ⟨xs, eh _ h1, RpL.mono eg _ _ h2⟩
  | .dic ks vs, ⟨kvs, h1, h2, h3⟩ => ⟨kvs, eh _ h1, h2, RpL.mono eg _ _ h3⟩
  | .obj c vs, ⟨dx, fs, h1, h2, h3⟩ => ⟨dx, fs, eh _ h1, h2, RpL.mono eg _ _ h3⟩
theorem Cp.here {T : Tb} {p : Addr} : ∀ {d : D}, Cp T G H p d → ∃ o, H p = some o
  | .lst ds, ⟨xs, h1, h2⟩ => ⟨_, h1⟩
  | .dic ks vs, ⟨kvs, h1, h2, h3⟩ => ⟨_, h1⟩
  | .obj c vs, ⟨dx, fs, h1, h2, h3⟩ => ⟨_, h1⟩
/-- a mutable object, frozen -/
theorem Cp.froz {T : Tb} {p : Addr} {o : HO} {G' : Hp} (eg : Sub G G') (h : H p = some o) (hg : G' p = some o) : ∀ {d : D}, Cp T G H p d → Rp T G' d (.ref p)
  | .lst ds, ⟨xs, h1, h2⟩ => by
    rw [h] at h1; cases h1
    simp only [Rp]; exact ⟨p, xs, rfl, hg, RpL.mono eg _ _ h2⟩
  | .dic ks vs, ⟨kvs, h1, h2, h3⟩ => by
    rw [h] at h1; cases h1
    simp only [Rp]; exact ⟨p, kvs, rfl, hg, h2, RpL.mono eg _ _ h3⟩
  | .obj c vs, ⟨dx, fs, h1, h2, h3⟩ => by
    rw [h] at h1; cases h1
    simp only [Rp]; exact ⟨p, dx, fs, rfl, hg, h2, RpL.mono eg _ _ h3⟩

theorem SR.grow (s : SR F G H σ e) (x : Sub H H1) : SR F G H1 σ e where
  prot := s.prot.trans x
  sub := s.sub.trans x
  len := s.len
  va := s.va
  ce := fun i b d h => by
    obtain ⟨p, h1, h2, h3, h4, h5⟩ := s.ce i b d h
    exact ⟨p, h1, h2, h3, h4, h5.mono Sub.refl (x p)⟩
  dis := s.dis
theorem ext_new {Pr : Hp} {p : Addr} {o : HO} (hg : G p = none) (hp : Pr p = none) : Ext Pr G (upd G p o) :=
  ⟨Sub.new hg, fun a u h => by
    by_cases ha : a = p
    · subst ha; exact .inr hp
    · rw [upd_ne ha] at h; exact .inl h⟩
/-- what is frozen now -/
theorem SR.froz {p : Addr} {o : HO} (s : SR F G H σ e) (hh : H p = some o) (hg : G p = none) (off : Off σ e p) : SR F (upd G p o) H σ e where
  prot := s.prot
  sub := fun a u h => by
    by_cases ha : a = p
    · subst ha; rw [upd_same] at h; cases h; exact hh
    · rw [upd_ne ha] at h; exact s.sub a u h
  len := s.len
  va := fun i d h => by
    obtain ⟨v, h1, h2⟩ := s.va i d h
    exact ⟨v, h1, Rp.mono (Sub.new hg) _ _ h2⟩
  ce := fun i b d h => by
    obtain ⟨q, h1, h2, h3, h4, h5⟩ := s.ce i b d h
    refine ⟨q, h1, h2, h3, ?_, h5.mono (Sub.new hg) fun _ z => z⟩
    rw [upd_ne (fun z => off i b d h (by rw [← z]; exact h1))]
    exact h4
  dis := s.dis
/-- fresh at H: none of the state's -/
theorem SR.fresh {p : Addr} (s : SR F G H σ e) (h : H p = none) : F.Pr p = none ∧ G p = none ∧ Off σ e p := by
  refine ⟨?_, ?_, fun i b d q z => ?_⟩
  · cases q : F.Pr p with
    | none => rfl
    | some o => rw [s.prot p o q] at h; cases h
  · cases q : G p with
    | none => rfl
    | some o => rw [s.sub p o q] at h; cases h
  · obtain ⟨p', h1, _, _, _, h5⟩ := s.ce i b d q
    rw [z] at h1; cases h1
    obtain ⟨o, ho⟩ := h5.here
    rw [h] at ho; cases ho

/-- the value as data for good: a mutable object is frozen -/
@[simp] def settle (e : Env) : PV → R (D × Env)
  | .d d => .ok (d, e)
  | .nw d => .ok (d, e)
  | .sl i => match gt e i with
    | .ce false d => .ok (d, st e i (.va d))
    | _ => .no
/-- a new object is frozen, so that it lasts -/
@[simp] def hold : PV → PV
  | .nw d => .d d
  | .d d => .d d
  | .sl i => .sl i
/-- the data as it stands now -/
@[simp] def look (e : Env) : PV → Option D
  | .d d => some d
  | .nw d => some d
  | .sl i => match gt e i with
    | .ce _ d => some d
    | _ => none

theorem hold_ok {pv : PV} {v : V} (s : SR F G H σ e) (h : PVR F G H σ e pv v) : ∃ G', Ext F.Pr G G' ∧ SR F G' H σ e ∧ PVR F G' H σ e (hold pv) v := by
  cases pv with
  | d d => exact ⟨G, Ext.refl, s, h⟩
  | sl i => exact ⟨G, Ext.refl, s, h⟩
  | nw d =>
    obtain ⟨p, rfl, h1, h2, h3, h4⟩ := h
    obtain ⟨o, ho⟩ := h4.here
    exact ⟨upd G p o, ext_new h2 h1, s.froz ho h2 h3, h4.froz (Sub.new h2) ho upd_same⟩
theorem st_slot (s : SR F G H σ e) {i : Nat} {d : D} {v : V} (hi : ∀ b d', gt e i = .ce b d' → True) (hs : σ[i]? = some (some v)) (hr : Rp F.T G d v) : SR F G H σ (st e i (.va d)) where
  prot := s.prot
  sub := s.sub
  len := by rw [st_len]; exact s.len
  va := fun j d' h => by
    rw [gt_st] at h
    split at h
    · rename_i hj; cases h; rw [hj.1]; exact ⟨v, hs, hr⟩
    · exact s.va j d' h
  ce := fun j b d' h => by
    rw [gt_st] at h
    split at h
    · cases h
    · exact s.ce j b d' h
  dis := fun j k b d1 b' d2 p h1 h2 => by
    rw [gt_st] at h1 h2
    split at h1
    · cases h1
    · split at h2
      · cases h2
      · exact s.dis j k b d1 b' d2 p h1 h2
theorem un_slot (s : SR F G H σ e) (i : Nat) : SR F G H σ (st e i .un) where
  prot := s.prot
  sub := s.sub
  len := by rw [st_len]; exact s.len
  va := fun j d' h => by
    rw [gt_st] at h
    split at h
    · cases h
    · exact s.va j d' h
  ce := fun j b d' h => by
    rw [gt_st] at h
    split at h
    · cases h
    · exact s.ce j b d' h
  dis := fun j k b d1 b' d2 p h1 h2 => by
    rw [gt_st] at h1 h2
    split at h1
    · cases h1
    · split at h2
      · cases h2
      · exact s.dis j k b d1 b' d2 p h1 h2
theorem off_un (s : SR F G H σ e) {i : Nat} {b : Bool} {d : D} {p : Addr} (h : gt e i = .ce b d) (hs : σ[i]? = some (some (.ref p))) (x : Sl) (hx : ∀ b d, x ≠ .ce b d) : Off σ (st e i x) p := fun j b' d' q z => by
  rw [gt_st] at q
  split at q
  · exact hx _ _ q
  · rename_i hn
    exact hn ⟨(s.dis i j b d b' d' p h q hs z).symm, gt_lt (by rw [h]; intro z; cases z)⟩
theorem settle_ok {pv : PV} {v : V} {d : D} {e' : Env} (s : SR F G H σ e) (h : PVR F G H σ e pv v) (hs : settle e pv = .ok (d, e')) : ∃ G', Ext F.Pr G G' ∧ SR F G' H σ e' ∧ Rp F.T G' d v := by
  cases pv with
  | d d => cases hs; exact ⟨G, Ext.refl, s, h⟩
  | nw d =>
    cases hs
    obtain ⟨p, rfl, h1, h2, h3, h4⟩ := h
    obtain ⟨o, ho⟩ := h4.here
    exact ⟨upd G p o, ext_new h2 h1, s.froz ho h2 h3, h4.froz (Sub.new h2) ho upd_same⟩
  | sl i =>
    have h1 : σ[i]? = some (some v) := h
    simp only [settle] at hs
    split at hs
    · rename_i d0 h2
      cases hs
      obtain ⟨p, q1, q2, q3, q4, q5⟩ := s.ce i false d h2
      rw [h1] at q1; cases q1
      obtain ⟨o, ho⟩ := q5.here
      have s1 : SR F G H σ (st e i .un) := un_slot s i
      have s2 := s1.froz (p := p) ho q4 (off_un s h2 h1 .un (by intro _ _ z; cases z))
      have s3 := st_slot (i := i) (d := d) s2 (fun _ _ _ => trivial) h1 (q5.froz (Sub.new q4) ho upd_same)
      have e3 : st (st e i .un) i (.va d) = st e i (.va d) := st_st e i _ _
      rw [e3] at s3
      exact ⟨upd G p o, ext_new q4 q3, s3, q5.froz (Sub.new q4) ho upd_same⟩
    · cases hs

/-- an operand as an operation finds it -/
def Pk (T : Tb) (G H : Hp) (v : V) (d : D) : Prop := Rp T G d v ∨ ∃ p, v = .ref p ∧ Cp T G H p d
theorem look_ok {pv : PV} {v : V} {d : D} (s : SR F G H σ e) (h : PVR F G H σ e pv v) (hl : look e pv = some d) : Pk F.T G H v d := by
  cases pv with
  | d d => cases hl; exact .inl h
  | nw d => cases hl; obtain ⟨p, h1, _, _, _, h2⟩ := h; exact .inr ⟨p, h1, h2⟩
  | sl i =>
    have h1 : σ[i]? = some (some v) := h
    simp only [look] at hl
    split at hl
    rotate_left
    · cases hl
    rename_i b d0 h2
    cases hl
    obtain ⟨p, q1, q2, q3, q4, q5⟩ := s.ce i b d h2
    rw [h1] at q1; cases q1
    exact .inr ⟨p, rfl, q5⟩
end

/-- an operation's result: an item or data that was there; a new list; a new tuple -/
inductive RV where
  | at (d : D) | ls (l : List D) | tu (l : List D) | di (ks vs : List D)
@[simp] def RV.pv : RV → PV
  | .at d => .d d
  | .ls l => .nw (.lst l)
  | .tu l => .d (.tup l)
  | .di ks vs => .nw (.dic ks vs)
def RVQ (T : Tb) (G H : Hp) (Q : VK) : RV → Prop
  | .at d => ∀ v, Rp T G d v → Q v H
  | .ls l => ∀ p xs, H p = none → RpL T G l xs → Q (.ref p) (upd H p (.lst xs))
  | .tu l => ∀ p xs, H p = none → RpL T G l xs → Q (.ref p) (upd H p (.tup xs))
  | .di ks vs => ∀ p kvs, H p = none → ks = kvs.map (fun p => kD p.1) → RpL T G vs (kvs.map (·.2)) → Q (.ref p) (upd H p (.dK kvs))
section
variable {F : Fx} {W : WX} {G H : Hp} {σ : St} {e : Env}
theorem rv_done {rv : RV} {Q : VK} (s : SR F G H σ e) (h : OkE F W σ G Q (fun G' H' e' pv v => PVR F G' H' σ e' pv v) (.ok (rv.pv, e))) : RVQ F.T G H Q rv := by
  cases rv with
  | «at» d => exact fun v hv => h v G H Ext.refl s hv
  | ls l =>
    intro p xs hp hx
    obtain ⟨f1, f2, f3⟩ := s.fresh hp
    exact h _ G _ Ext.refl (s.grow (Sub.new hp)) ⟨p, rfl, f1, f2, f3, xs, upd_same, hx⟩
  | di ks vs =>
    intro p kvs hp hk hx
    obtain ⟨f1, f2, f3⟩ := s.fresh hp
    exact h _ G _ Ext.refl (s.grow (Sub.new hp)) ⟨p, rfl, f1, f2, f3, kvs, upd_same, hk, hx⟩
  | tu l =>
    intro p xs hp hx
    obtain ⟨f1, f2, f3⟩ := s.fresh hp
    refine h _ (upd G p (.tup xs)) _ (ext_new f2 f1) ((s.grow (Sub.new hp)).froz upd_same f2 f3) ?_
    show Rp F.T _ (.tup l) _
    simp only [Rp]
    exact ⟨p, xs, rfl, upd_same, RpL.mono (Sub.new f2) _ _ hx⟩
end
end DL
set_option Elab.async false
set_option linter.all false
set_option maxRecDepth 100000
set_option maxHeartbeats 4000000
namespace DL
open PySem PySem.Spec PyProof.Rows L2

abbrev rPV (F : Fx) (σ : St) : Hp → Hp → Env → PV → V → Prop := fun G' H' e' pv v => PVR F G' H' σ e' pv v
/-- an expression and its mirror -/
def SE (T : Tb) (W : WX) (X : Cx) (x : Expr) (t : TE) (f : FE) : Prop := PE X x t ∧ ∀ (Pr : Hp) (A : Nat → Option Addr) (G H : Hp) (σ : St) (e : Env) (Q : VK), SR ⟨T, Pr, A⟩ G H σ e → OkE ⟨T, Pr, A⟩ W σ G Q (rPV ⟨T, Pr, A⟩ σ) (f e) → t σ H Q
def ST (T : Tb) (W : WX) (X : Cx) (x : Expr) (t : TT) (f : FT) : Prop := PT X x t ∧ ∀ (Pr : Hp) (A : Nat → Option Addr) (G H : Hp) (σ : St) (e : Env) (Q : Bool → Hp → Prop), SR ⟨T, Pr, A⟩ G H σ e → OkE ⟨T, Pr, A⟩ W σ G Q (fun _ _ _ b v => v = b) (f e) → t σ H Q
def SW (T : Tb) (W : WX) (X : Cx) (x : Expr) (t : TT) (f : FT) : Prop := PW X x t ∧ ∀ (Pr : Hp) (A : Nat → Option Addr) (G H : Hp) (σ : St) (e : Env) (Q : Bool → Hp → Prop), SR ⟨T, Pr, A⟩ G H σ e → OkE ⟨T, Pr, A⟩ W σ G Q (fun _ _ _ b v => v = b) (f e) → t σ H Q
/-- a list of held operands -/
def PVL (F : Fx) (G : Hp) (σ : St) : List PV → List V → Prop
  | [], vs => vs = []
  | p :: ps, vs => ∃ v r, vs = v :: r ∧ (match p with | .d d => Rp F.T G d v | .sl i => σ[i]? = some (some v) | .nw _ => False) ∧ PVL F G σ ps r
def SA (T : Tb) (W : WX) (X : Cx) (xs : List Expr) (t : TA) (f : FA) : Prop := PA X xs t ∧ ∀ (Pr : Hp) (A : Nat → Option Addr) (G H : Hp) (σ : St) (e : Env) (Q : List V → Hp → Prop), SR ⟨T, Pr, A⟩ G H σ e → OkE ⟨T, Pr, A⟩ W σ G Q (fun G' _ _ ps vs => PVL ⟨T, Pr, A⟩ G' σ ps vs) (f e) → t σ H Q

section
variable {T : Tb} {W : WX} {X : Cx} {F : Fx} {G G' H : Hp} {σ : St} {e : Env}
theorem PVL.mono (x : Sub G G') : ∀ {ps : List PV} {vs : List V}, PVL F G σ ps vs → PVL F G' σ ps vs
  | [], _, h => h
  | .d d :: ps, _, ⟨v, r, h1, h2, h3⟩ => ⟨v, r, h1, Rp.mono x _ _ h2, PVL.mono x h3⟩
  | .sl i :: ps, _, ⟨v, r, h1, h2, h3⟩ => ⟨v, r, h1, h2, PVL.mono x h3⟩
  | .nw d :: ps, _, ⟨v, r, h1, h2, h3⟩ => h2.elim

/-! ### names, constants -/
def fV (i : Nat) : FE := fun e => match gt e i with
  | .va d => .ok (.d d, e)
  | .ce _ _ => .ok (.sl i, e)
  | .un => .no
def fC (d : D) : FE := fun e => .ok (.d d, e)
theorem se_v {i : Nat} {x : Expr} (h : PE X x (tVar i)) : SE T W X x (tVar i) (fV i) := by
  refine ⟨h, fun Pr A G H σ e Q s h => ?_⟩
  cases q : gt e i with
  | va d =>
    simp only [fV, q] at h
    obtain ⟨v, h1, h2⟩ := s.va i d q
    exact ⟨v, h1, h v G H Ext.refl s h2⟩
  | ce b d =>
    simp only [fV, q] at h
    obtain ⟨p, h1, _⟩ := s.ce i b d q
    exact ⟨.ref p, h1, h _ G H Ext.refl s h1⟩
  | un => simp only [fV, q] at h; exact h.elim
theorem se_c {d : D} {v : V} {x : Expr} (h : PE X x (tC v)) (hr : ∀ G, Rp T G d v) : SE T W X x (tC v) (fC d) :=
  ⟨h, fun Pr A G H σ e Q s h => h v G H Ext.refl s (hr G)⟩
theorem se_int {i : Int} {j pos} : SE T W X (.Constant (.int i) j pos) (tC (.int i)) (fC (.int i)) := se_c pe_int fun _ => by simp only [Rp]
theorem se_bl {b : Bool} {j pos} : SE T W X (.Constant (.bool b) j pos) (tC (.bl b)) (fC (.bl b)) := se_c pe_bl fun _ => by simp only [Rp]
theorem se_non {j pos} : SE T W X (.Constant .none j pos) (tC .non) (fC .non) := se_c pe_non fun _ => by simp only [Rp]
theorem se_str {x : Str} {l : List Nat} {j pos} (h : x = S l) : SE T W X (.Constant (.str x) j pos) (tC (.str x)) (fC (.str l)) := se_c pe_str fun _ => by simp only [Rp]; rw [h]

/-! ### operators -/
def OpD (T : Tb) (r : R2) (op : D → D → Option RV) : Prop := ∀ (G H : Hp) (x y : V) (dx dy : D) (rv : RV) (Q : VK), Sub G H → Pk T G H x dx → Pk T G H y dy → op dx dy = some rv → RVQ T G H Q rv → r x y H Q
def UnD (T : Tb) (r : V → Hp → VK → Prop) (op : D → Option RV) : Prop := ∀ (G H : Hp) (x : V) (dx : D) (rv : RV) (Q : VK), Sub G H → Pk T G H x dx → op dx = some rv → RVQ T G H Q rv → r x H Q
def PkL (T : Tb) (G H : Hp) : List V → List D → Prop
  | vs, [] => vs = []
  | vs, d :: ds => ∃ v r, vs = v :: r ∧ Pk T G H v d ∧ PkL T G H r ds
def CallD (T : Tb) (r : List V → Hp → VK → Prop) (op : List D → Option RV) : Prop := ∀ (G H : Hp) (vs : List V) (ds : List D) (rv : RV) (Q : VK), Sub G H → PkL T G H vs ds → op ds = some rv → RVQ T G H Q rv → r vs H Q
def fBin (op : D → D → Option RV) (fa fb : FE) : FE := fun e => do
  let (pa, e1) ← fa e
  let (pb, e2) ← fb e1
  let da ← R.of (look e2 (hold pa))
  let db ← R.of (look e2 pb)
  let rv ← R.of (op da db)
  .ok (rv.pv, e2)
def fUn (op : D → Option RV) (fa : FE) : FE := fun e => do
  let (pa, e1) ← fa e
  let da ← R.of (look e1 pa)
  let rv ← R.of (op da)
  .ok (rv.pv, e1)
@[simp] def lookL (e : Env) : List PV → Option (List D)
  | [] => some []
  | p :: ps => match look e p, lookL e ps with
    | some d, some ds => some (d :: ds)
    | _, _ => none
def fCB (op : List D → Option RV) (fa : FA) : FE := fun e => do
  let (ps, e1) ← fa e
  let ds ← R.of (lookL e1 ps)
  let rv ← R.of (op ds)
  .ok (rv.pv, e1)
theorem of_ok {α β : Type} {W : WX} {Q : β → Hp → Prop} {rel : Hp → Hp → Env → α → β → Prop} {γ : Type} {o : Option γ} {k : γ → R (α × Env)} (h : OkE F W σ G Q rel ((R.of o) >>= k)) : ∃ a, o = some a ∧ OkE F W σ G Q rel (k a) := by
  cases o with
  | none => exact h.elim
  | some a => exact ⟨a, rfl, h⟩
theorem hold_nn {pv : PV} {d : D} : hold pv ≠ .nw d := by cases pv <;> intro z <;> cases z
theorem PVR.stay {pv : PV} {v : V} {H H' : Hp} {e e' : Env} (h : PVR F G H σ e (hold pv) v) (x : Sub G G') : PVR F G' H' σ e' (hold pv) v := by
  cases pv with
  | d d => exact Rp.mono x _ _ h
  | nw d => exact Rp.mono x _ _ h
  | sl i => exact h
theorem se_bin {x a b : Expr} {r : R2} {op : D → D → Option RV} {fa fb : FE} (hx : ∀ ta tb, PE X a ta → PE X b tb → PE X x (tOp r ta tb)) (hd : OpD T r op) (ha : SE T W X a ta fa) (hb : SE T W X b tb fb) : SE T W X x (tOp r ta tb) (fBin op fa fb) := by
  obtain ⟨pa, ra⟩ := ha
  obtain ⟨pb, rb⟩ := hb
  refine ⟨hx _ _ pa pb, fun Pr A G H σ e Q s h => ?_⟩
  refine ra Pr A G H σ e _ s (h.first fun p1 e1 v1 G1 H1 x1 s1 q1 h1 => ?_)
  obtain ⟨G2, x2, s2, q2⟩ := hold_ok s1 q1
  refine rb Pr A G2 H1 σ e1 _ s2 ((h1.ext x2).first fun p2 e2 v2 G3 H3 x3 s3 q3 h3 => ?_)
  obtain ⟨da, l1, h4⟩ := of_ok h3
  obtain ⟨db, l2, h5⟩ := of_ok h4
  obtain ⟨rv, l3, h6⟩ := of_ok h5
  exact hd G3 H3 v1 v2 da db rv _ s3.sub (look_ok s3 (q2.stay x3.1) l1) (look_ok s3 q3 l2) l3 (rv_done s3 h6)
theorem se_un {x a : Expr} {r : V → Hp → VK → Prop} {op : D → Option RV} {fa : FE} (hx : ∀ ta, PE X a ta → PE X x (tUn r ta)) (hd : UnD T r op) (ha : SE T W X a ta fa) : SE T W X x (tUn r ta) (fUn op fa) := by
  obtain ⟨pa, ra⟩ := ha
  refine ⟨hx _ pa, fun Pr A G H σ e Q s h => ?_⟩
  refine ra Pr A G H σ e _ s (h.first fun p1 e1 v1 G1 H1 x1 s1 q1 h1 => ?_)
  obtain ⟨da, l1, h4⟩ := of_ok h1
  obtain ⟨rv, l3, h6⟩ := of_ok h4
  exact hd G1 H1 v1 da rv _ s1.sub (look_ok s1 q1 l1) l3 (rv_done s1 h6)

/-! ### arguments -/
def fNil : FA := fun e => .ok ([], e)
def fCons (fa : FE) (fr : FA) : FA := fun e => do
  let (p, e1) ← fa e
  let (ps, e2) ← fr e1
  .ok (hold p :: ps, e2)
theorem sa_nil : SA T W X [] tNil fNil := ⟨pa_nil, fun Pr A G H σ e Q s h => h [] G H Ext.refl s rfl⟩
theorem cons_run {ta : TE} {tr : TA} {fa : FE} {fr : FA} (ra : ∀ (Pr : Hp) (A : Nat → Option Addr) (G H : Hp) (σ : St) (e : Env) (Q : VK), SR ⟨T, Pr, A⟩ G H σ e → OkE ⟨T, Pr, A⟩ W σ G Q (rPV ⟨T, Pr, A⟩ σ) (fa e) → ta σ H Q)
    (rr : ∀ (Pr : Hp) (A : Nat → Option Addr) (G H : Hp) (σ : St) (e : Env) (Q : List V → Hp → Prop), SR ⟨T, Pr, A⟩ G H σ e → OkE ⟨T, Pr, A⟩ W σ G Q (fun G' _ _ ps vs => PVL ⟨T, Pr, A⟩ G' σ ps vs) (fr e) → tr σ H Q)
    (Pr : Hp) (A : Nat → Option Addr) (G H : Hp) (σ : St) (e : Env) (Q : List V → Hp → Prop) (s : SR ⟨T, Pr, A⟩ G H σ e) (h : OkE ⟨T, Pr, A⟩ W σ G Q (fun G' _ _ ps vs => PVL ⟨T, Pr, A⟩ G' σ ps vs) (fCons fa fr e)) : tCons ta tr σ H Q := by
  refine ra Pr A G H σ e _ s (h.first fun p1 e1 v1 G1 H1 x1 s1 q1 h1 => ?_)
  obtain ⟨G2, x2, s2, q2⟩ := hold_ok s1 q1
  refine rr Pr A G2 H1 σ e1 _ s2 ((h1.ext x2).first fun ps e2 vs G3 H3 x3 s3 q3 h3 => ?_)
  refine h3 _ G3 H3 Ext.refl s3 ⟨v1, vs, rfl, ?_, q3⟩
  cases p1 with
  | d d => exact Rp.mono x3.1 _ _ q2
  | nw d => exact Rp.mono x3.1 _ _ q2
  | sl i => exact q2
theorem sa_cons {a : Expr} {es : List Expr} {fa : FE} {fr : FA} (ha : SE T W X a ta fa) (hr : SA T W X es tr fr) (hs : starEach (a :: es) X.env = (false, eval a X.env) :: starEach es X.env := by rfl) : SA T W X (a :: es) (tCons ta tr) (fCons fa fr) :=
  ⟨pa_cons ha.1 hr.1 hs, cons_run ha.2 hr.2⟩
theorem lookL_ok (s : SR F G H σ e) : ∀ {ps : List PV} {vs : List V} {ds : List D}, PVL F G σ ps vs → lookL e ps = some ds → PkL F.T G H vs ds
  | [], vs, ds, h, hl => by cases hl; exact h
  | p :: ps, vs, ds, ⟨v, r, h1, h2, h3⟩, hl => by
    simp only [lookL] at hl
    split at hl
    · rename_i d ds' e1 e2
      cases hl
      refine ⟨v, r, h1, ?_, lookL_ok s h3 e2⟩
      refine look_ok (pv := p) s ?_ e1
      cases p with
      | d d => exact h2
      | sl i => exact h2
      | nw d => exact h2.elim
    · cases hl
theorem se_cb {x : Expr} {es : List Expr} {r : List V → Hp → VK → Prop} {op : List D → Option RV} {fa : FA} (hx : ∀ t, PA X es t → PE X x (tCB r t)) (hd : CallD T r op) (ha : SA T W X es ta fa) : SE T W X x (tCB r ta) (fCB op fa) := by
  obtain ⟨pa, ra⟩ := ha
  refine ⟨hx _ pa, fun Pr A G H σ e Q s h => ?_⟩
  refine ra Pr A G H σ e _ s (h.first fun ps e1 vs G1 H1 x1 s1 q1 h1 => ?_)
  obtain ⟨ds, l1, h4⟩ := of_ok h1
  obtain ⟨rv, l3, h6⟩ := of_ok h4
  exact hd G1 H1 vs ds rv _ s1.sub (lookL_ok s1 q1 l1) l3 (rv_done s1 h6)

/-! ### displays -/
/-- all for good -/
@[simp] def settleL (e : Env) : List PV → R (List D × Env)
  | [] => .ok ([], e)
  | p :: ps => do
    let (d, e1) ← settle e p
    let (ds, e2) ← settleL e1 ps
    .ok (d :: ds, e2)
theorem settleL_ok : ∀ {ps : List PV} {vs : List V} {G : Hp} {e : Env} {ds : List D} {e' : Env}, SR F G H σ e → PVL F G σ ps vs → settleL e ps = .ok (ds, e') → ∃ G', Ext F.Pr G G' ∧ SR F G' H σ e' ∧ RpL F.T G' ds vs
  | [], vs, G, e, ds, e', s, h, hs => by cases hs; exact ⟨G, Ext.refl, s, by simp only [RpL]; exact h⟩
  | p :: ps, vs, G, e, ds, e', s, ⟨v, r, h1, h2, h3⟩, hs => by
    subst h1
    simp only [settleL] at hs
    cases q1 : settle e p with
    | ok a =>
      obtain ⟨d, e1⟩ := a
      rw [q1] at hs
      simp only [R.bind_ok] at hs
      cases q2 : settleL e1 ps with
      | ok b =>
        obtain ⟨ds', e2⟩ := b
        rw [q2] at hs
        simp only [R.bind_ok] at hs
        cases hs
        have hp : PVR F G H σ e p v := by cases p <;> first | exact h2 | exact h2.elim
        obtain ⟨G1, x1, s1, r1⟩ := settle_ok s hp q1
        obtain ⟨G2, x2, s2, r2⟩ := settleL_ok s1 (h3.mono x1.1) q2
        exact ⟨G2, x1.trans x2, s2, RpL.cons (Rp.mono x2.1 _ _ r1) r2⟩
      | ex _ _ _ => rw [q2] at hs; cases hs
      | no => rw [q2] at hs; cases hs
    | ex _ _ _ => rw [q1] at hs; cases hs
    | no => rw [q1] at hs; cases hs
/-- a bound that every size of the program keeps -/
abbrev LIM : Nat := 1000000
theorem lim_le : LIM ≤ sizeLine := by decide
def fLst (fa : FA) : FE := fun e => do
  let (ps, e1) ← fa e
  let (ds, e2) ← settleL e1 ps
  if ds.length ≤ LIM then .ok (.nw (.lst ds), e2) else .no
def fTup (fa : FA) : FE := fun e => do
  let (ps, e1) ← fa e
  let (ds, e2) ← settleL e1 ps
  if ds.length ≤ LIM then .ok (.d (.tup ds), e2) else .no
theorem no_of {α β γ : Type} {W : WX} {Q : β → Hp → Prop} {rel : Hp → Hp → Env → α → β → Prop} {o : R γ} {k : γ → R (α × Env)} (hn : ∀ c d e, o ≠ .ex c d e) (h : OkE F W σ G Q rel (o >>= k)) : ∃ a, o = .ok a ∧ OkE F W σ G Q rel (k a) := by
  cases o with
  | ok a => exact ⟨a, rfl, h⟩
  | ex c d e => exact absurd rfl (hn c d e)
  | no => exact h.elim
theorem settle_nx {e : Env} {p : PV} {c d e'} : settle e p ≠ .ex c d e' := by
  cases p with
  | d _ => intro z; cases z
  | nw _ => intro z; cases z
  | sl i => simp only [settle]; split <;> intro z <;> cases z
theorem settleL_nx : ∀ {ps : List PV} {e : Env} {c d e'}, settleL e ps ≠ .ex c d e'
  | [], e, _, _, _ => by intro z; cases z
  | p :: ps, e, c, d, e' => by
    simp only [settleL]
    cases q1 : settle e p with
    | ok a =>
      obtain ⟨d, e1⟩ := a
      simp only [R.bind_ok]
      cases q2 : settleL e1 ps with
      | ok b => intro z; cases z
      | ex c d e => exact absurd q2 settleL_nx
      | no => intro z; cases z
    | ex c d e => exact absurd q1 settle_nx
    | no => intro z; cases z
theorem if_ok {α β : Type} {W : WX} {Q : β → Hp → Prop} {rel : Hp → Hp → Env → α → β → Prop} {c : Prop} [Decidable c] {x : R (α × Env)} (h : OkE F W σ G Q rel (if c then x else .no)) : c ∧ OkE F W σ G Q rel x := by
  by_cases q : c
  · rw [if_pos q] at h; exact ⟨q, h⟩
  · rw [if_neg q] at h; exact h.elim
theorem PVL.length : ∀ {ps : List PV} {vs : List V}, PVL F G σ ps vs → vs.length = ps.length
  | [], _, h => by rw [h]; rfl
  | p :: ps, _, ⟨v, r, h1, h2, h3⟩ => by rw [h1]; simp [PVL.length h3]
theorem se_lst {es : List Expr} {fa : FA} {pos : Pos} (ha : SA T W X es ta fa) : SE T W X (.List es pos) (tLst ta) (fLst fa) := by
  obtain ⟨pa, ra⟩ := ha
  refine ⟨pe_lst pa, fun Pr A G H σ e Q s h => ?_⟩
  refine ra Pr A G H σ e _ s (h.first fun ps e1 vs G1 H1 x1 s1 q1 h1 => ?_)
  obtain ⟨⟨ds, e2⟩, l1, h2⟩ := no_of (fun _ _ _ => settleL_nx) h1
  obtain ⟨G2, x2, s2, q2⟩ := settleL_ok s1 q1 l1
  obtain ⟨hl, h2⟩ := if_ok h2
  refine ⟨Nat.le_trans (Nat.le_trans (Nat.le_of_eq (RpL.length q2)) hl) lim_le, fun p hp => ?_⟩
  exact rv_done (rv := .ls ds) s2 (h2.ext x2) p vs hp q2
theorem se_tup {es : List Expr} {fa : FA} {k : Nat} {pos : Pos} (ha : SA T W X es ta fa) : SE T W X (.Tuple es k pos) (tTup ta) (fTup fa) := by
  obtain ⟨pa, ra⟩ := ha
  refine ⟨pe_tup pa, fun Pr A G H σ e Q s h => ?_⟩
  refine ra Pr A G H σ e _ s (h.first fun ps e1 vs G1 H1 x1 s1 q1 h1 => ?_)
  obtain ⟨⟨ds, e2⟩, l1, h2⟩ := no_of (fun _ _ _ => settleL_nx) h1
  obtain ⟨G2, x2, s2, q2⟩ := settleL_ok s1 q1 l1
  obtain ⟨hl, h2⟩ := if_ok h2
  refine ⟨Nat.le_trans (Nat.le_trans (Nat.le_of_eq (RpL.length q2)) hl) lim_le, fun p hp => ?_⟩
  exact rv_done (rv := .tu ds) s2 (h2.ext x2) p vs hp q2

/-! ### truth -/
def fTst (fa : FE) : FT := fun e => do
  let (p, e1) ← fa e
  match look e1 p with
  | some (.bl b) => .ok (b, e1)
  | _ => .no
theorem bl_of {pv : PV} {v : V} {b : Bool} (s : SR F G H σ e) (q : PVR F G H σ e pv v) (hl : look e pv = some (.bl b)) : v = .bl b := by
  rcases look_ok s q hl with h | ⟨p, _, h⟩
  · simp only [Rp] at h; exact h
  · exact h.elim
theorem st_any {x y : Expr} {t : TE} {f : FE} (hx : ∀ t, PE X y t → PT X x (tB t)) (ha : SE T W X y ta f) : ST T W X x (tB ta) (fTst f) := by
  obtain ⟨pa, ra⟩ := ha
  refine ⟨hx _ pa, fun Pr A G H σ e Q s h => ?_⟩
  refine ra Pr A G H σ e _ s (h.first fun p1 e1 v1 G1 H1 x1 s1 q1 h1 => ?_)
  dsimp only at h1
  split at h1
  · rename_i b hb
    exact ⟨b, bl_of s1 q1 hb, h1 b G1 H1 Ext.refl s1 rfl⟩
  · exact h1.elim
theorem st_val {x : Expr} {f : FE} (ha : SE T W X x ta f) (he : ∀ whole, isTrue x X.env whole = (do let v ← whole; standAt x.pos; holding [v] (truthy v)) := by intro _; rfl) : ST T W X x (tB ta) (fTst f) :=
  st_any (t := fun _ _ _ => False) (fun t h => pt_val h he) ha
def fAnd (fa fb : FT) : FT := fun e => do
  let (b, e1) ← fa e
  if b = true then fb e1 else .ok (false, e1)
def fOr (fa fb : FT) : FT := fun e => do
  let (b, e1) ← fa e
  if b = true then .ok (true, e1) else fb e1
def fNot (fa : FT) : FT := fun e => do
  let (b, e1) ← fa e
  .ok (!b, e1)
theorem st_w {x : Expr} {f : FT} (h : SW T W X x t0 f) : ST T W X x t0 f := by
  obtain ⟨p, r⟩ := h
  exact ⟨p.pt, r⟩
variable {a b : Expr} {rest : List Expr} {pos : Pos} {fa fb : FT}
theorem sw_and1 (ha : ST T W X a ta fa) : SW T W X (.BoolOp .And [a] pos) ta fa := by
  obtain ⟨p, r⟩ := ha
  exact ⟨pw_and1 p, r⟩
theorem sw_or1 (ha : ST T W X a ta fa) : SW T W X (.BoolOp .Or [a] pos) ta fa := by
  obtain ⟨p, r⟩ := ha
  exact ⟨pw_or1 p, r⟩
theorem sw_and (ha : ST T W X a ta fa) (hb : SW T W X (.BoolOp .And (b :: rest) pos) tb fb) : SW T W X (.BoolOp .And (a :: b :: rest) pos) (tAnd ta tb) (fAnd fa fb) := by
  obtain ⟨p, r⟩ := ha
  obtain ⟨p2, r2⟩ := hb
  refine ⟨pw_and p p2, fun Pr A G H σ e Q s h => ?_⟩
  refine r Pr A G H σ e _ s (h.first fun b1 e1 v1 G1 H1 x1 s1 q1 h1 => ?_)
  subst q1
  cases v1 with
  | true => exact r2 Pr A G1 H1 σ e1 Q s1 h1
  | false => exact h1 false G1 H1 Ext.refl s1 rfl
theorem sw_or (ha : ST T W X a ta fa) (hb : SW T W X (.BoolOp .Or (b :: rest) pos) tb fb) : SW T W X (.BoolOp .Or (a :: b :: rest) pos) (tOr ta tb) (fOr fa fb) := by
  obtain ⟨p, r⟩ := ha
  obtain ⟨p2, r2⟩ := hb
  refine ⟨pw_or p p2, fun Pr A G H σ e Q s h => ?_⟩
  refine r Pr A G H σ e _ s (h.first fun b1 e1 v1 G1 H1 x1 s1 q1 h1 => ?_)
  subst q1
  cases v1 with
  | true => exact h1 true G1 H1 Ext.refl s1 rfl
  | false => exact r2 Pr A G1 H1 σ e1 Q s1 h1
theorem st_not (ha : ST T W X a ta fa) : ST T W X (.UnaryOp .Not a pos) (tNot ta) (fNot fa) := by
  obtain ⟨p, r⟩ := ha
  refine ⟨pt_not p, fun Pr A G H σ e Q s h => ?_⟩
  refine r Pr A G H σ e _ s (h.first fun b1 e1 v1 G1 H1 x1 s1 q1 h1 => ?_)
  subst q1
  exact h1 (!v1) G1 H1 Ext.refl s1 rfl
/-! .. as values -/
def fAndV (fa fb : FE) : FE := fun e => do
  let (p, e1) ← fa e
  match look e1 p with
  | some (.bl b) => if b = true then fb e1 else .ok (.d (.bl false), e1)
  | _ => .no
def fOrV (fa fb : FE) : FE := fun e => do
  let (p, e1) ← fa e
  match look e1 p with
  | some (.bl b) => if b = true then .ok (.d (.bl true), e1) else fb e1
  | _ => .no
def fNotV (fa : FE) : FE := fun e => do
  let (p, e1) ← fa e
  match look e1 p with
  | some (.bl b) => .ok (.d (.bl (!b)), e1)
  | _ => .no
variable {ga gb : FE}
theorem se_one {op} (h : SE T W X a t0 ga) : SE T W X (.BoolOp op [a] pos) t0 ga := by
  obtain ⟨p, r⟩ := h
  exact ⟨pe_one p, r⟩
theorem se_and (ha : SE T W X a ta ga) (hb : SE T W X (.BoolOp .And (b :: rest) pos) tb gb) : SE T W X (.BoolOp .And (a :: b :: rest) pos) (tAndV ta tb) (fAndV ga gb) := by
  obtain ⟨p, r⟩ := ha
  obtain ⟨p2, r2⟩ := hb
  refine ⟨pe_and p p2, fun Pr A G H σ e Q s h => ?_⟩
  refine r Pr A G H σ e _ s (h.first fun b1 e1 v1 G1 H1 x1 s1 q1 h1 => ?_)
  dsimp only at h1
  split at h1
  · rename_i b hb
    refine ⟨b, bl_of s1 q1 hb, ?_⟩
    cases b with
    | true => exact r2 Pr A G1 H1 σ e1 Q s1 h1
    | false => exact h1 _ G1 H1 Ext.refl s1 (by show Rp _ _ _ _; simp only [Rp])
  · exact h1.elim
theorem se_or (ha : SE T W X a ta ga) (hb : SE T W X (.BoolOp .Or (b :: rest) pos) tb gb) : SE T W X (.BoolOp .Or (a :: b :: rest) pos) (tOrV ta tb) (fOrV ga gb) := by
  obtain ⟨p, r⟩ := ha
  obtain ⟨p2, r2⟩ := hb
  refine ⟨pe_or p p2, fun Pr A G H σ e Q s h => ?_⟩
  refine r Pr A G H σ e _ s (h.first fun b1 e1 v1 G1 H1 x1 s1 q1 h1 => ?_)
  dsimp only at h1
  split at h1
  · rename_i b hb
    refine ⟨b, bl_of s1 q1 hb, ?_⟩
    cases b with
    | true => exact h1 _ G1 H1 Ext.refl s1 (by show Rp _ _ _ _; simp only [Rp])
    | false => exact r2 Pr A G1 H1 σ e1 Q s1 h1
  · exact h1.elim
theorem se_not (ha : SE T W X a ta ga) : SE T W X (.UnaryOp .Not a pos) (tNotV ta) (fNotV ga) := by
  obtain ⟨p, r⟩ := ha
  refine ⟨pe_not p, fun Pr A G H σ e Q s h => ?_⟩
  refine r Pr A G H σ e _ s (h.first fun b1 e1 v1 G1 H1 x1 s1 q1 h1 => ?_)
  dsimp only at h1
  split at h1
  · rename_i b hb
    exact ⟨b, bl_of s1 q1 hb, h1 _ G1 H1 Ext.refl s1 (by show Rp _ _ _ _; simp only [Rp])⟩
  · exact h1.elim
def fIfE (ft : FT) (fa fb : FE) : FE := fun e => do
  let (b, e1) ← ft e
  if b = true then fa e1 else fb e1
theorem se_if {c : Expr} {ft : FT} (hc : ST T W X c tc ft) (ha : SE T W X a ta ga) (hb : SE T W X b tb gb) : SE T W X (.IfExp c a b pos) (tIf tc ta tb) (fIfE ft ga gb) := by
  obtain ⟨p0, r0⟩ := hc
  obtain ⟨p, r⟩ := ha
  obtain ⟨p2, r2⟩ := hb
  refine ⟨pe_ifExp p0 p p2, fun Pr A G H σ e Q s h => ?_⟩
  refine r0 Pr A G H σ e _ s (h.first fun b1 e1 v1 G1 H1 x1 s1 q1 h1 => ?_)
  subst q1
  cases v1 with
  | true => exact r Pr A G1 H1 σ e1 Q s1 h1
  | false => exact r2 Pr A G1 H1 σ e1 Q s1 h1

/-! ### slices, methods of built-in types -/
/-- a slice's part -/
def SO (T : Tb) (W : WX) (X : Cx) (x : Option Expr) (t : TO) (f : Env → R (Option Int × Env)) : Prop := PO X x t ∧ ∀ (Pr : Hp) (A : Nat → Option Addr) (G H : Hp) (σ : St) (e : Env) (Q : Option Int → Hp → Prop), SR ⟨T, Pr, A⟩ G H σ e → OkE ⟨T, Pr, A⟩ W σ G Q (fun _ _ _ b v => v = b) (f e) → t σ H Q
def fNoPart : Env → R (Option Int × Env) := fun e => .ok (none, e)
def fPart (fa : FE) : Env → R (Option Int × Env) := fun e => do
  let (p, e1) ← fa e
  match look e1 p with
  | some (.int i) => .ok (some i, e1)
  | _ => .no
theorem so_none : SO T W X none tNoPart fNoPart := ⟨po_none, fun Pr A G H σ e Q s h => h none G H Ext.refl s rfl⟩
theorem int_of {pv : PV} {v : V} {i : Int} (s : SR F G H σ e) (q : PVR F G H σ e pv v) (hl : look e pv = some (.int i)) : v = .int i := by
  rcases look_ok s q hl with h | ⟨p, _, h⟩
  · simp only [Rp] at h; exact h
  · exact h.elim
theorem so_some (ha : SE T W X a ta ga) : SO T W X (some a) (tPart ta) (fPart ga) := by
  obtain ⟨p, r⟩ := ha
  refine ⟨po_some p, fun Pr A G H σ e Q s h => ?_⟩
  refine r Pr A G H σ e _ s (h.first fun b1 e1 v1 G1 H1 x1 s1 q1 h1 => ?_)
  dsimp only at h1
  split at h1
  · rename_i i hi
    exact ⟨i, int_of s1 q1 hi, h1 _ G1 H1 Ext.refl s1 rfl⟩
  · exact h1.elim
def SlD (T : Tb) (r : V → Option Int → Option Int → Hp → VK → Prop) (op : D → Option Int → Option Int → Option RV) : Prop := ∀ (G H : Hp) (x : V) (dx : D) (lo hi : Option Int) (rv : RV) (Q : VK), Sub G H → Pk T G H x dx → op dx lo hi = some rv → RVQ T G H Q rv → r x lo hi H Q
def fSl (op : D → Option Int → Option Int → Option RV) (fa : FE) (fl fh : Env → R (Option Int × Env)) : FE := fun e => do
  let (pa, e1) ← fa e
  let (lo, e2) ← fl e1
  let (hi, e3) ← fh e2
  let da ← R.of (look e3 (hold pa))
  let rv ← R.of (op da lo hi)
  .ok (rv.pv, e3)
theorem se_slice {r : V → Option Int → Option Int → Hp → VK → Prop} {op} {lo hi : Option Expr} {fl fh} {p2 : Pos} (hr : SlR X r) (hd : SlD T r op) (ha : SE T W X a ta ga) (hl : SO T W X lo tl fl) (hh : SO T W X hi th fh) : SE T W X (.Subscript a (.Slice lo hi none p2) pos) (tSl r ta tl th) (fSl op ga fl fh) := by
  obtain ⟨p, r0⟩ := ha
  obtain ⟨p1, r1⟩ := hl
  obtain ⟨p2, r2⟩ := hh
  refine ⟨pe_slice hr p p1 p2, fun Pr A G H σ e Q s h => ?_⟩
  refine r0 Pr A G H σ e _ s (h.first fun pa e1 v1 G1 H1 x1 s1 q1 h1 => ?_)
  obtain ⟨G1', x1', s1', q1'⟩ := hold_ok s1 q1
  refine r1 Pr A G1' H1 σ e1 _ s1' ((h1.ext x1').first fun lo' e2 v2 G2 H2 x2 s2 q2 h2 => ?_)
  subst q2
  refine r2 Pr A G2 H2 σ e2 _ s2 (h2.first fun hi' e3 v3 G3 H3 x3 s3 q3 h3 => ?_)
  subst q3
  obtain ⟨da, l1, h4⟩ := of_ok h3
  obtain ⟨rv, l3, h6⟩ := of_ok h4
  exact hd G3 H3 v1 da v2 v3 rv _ s3.sub (look_ok s3 (q1'.stay (x2.trans x3).1) l1) l3 (rv_done s3 h6)
/-- o.m(..), a method that changes nothing -/
def MtD (T : Tb) (ty : String) (r : V → List V → Hp → VK → Prop) (op : D → List D → Option RV) : Prop := ∀ (G H : Hp) (x : V) (dx : D) (vs : List V) (ds : List D) (rv : RV) (Q : VK), Sub G H → Pk T G H x dx → PkL T G H vs ds → op dx ds = some rv → RVQ T G H Q rv → r x vs H Q
/-- what can be the receiver -/
@[simp] def isTy : String → D → Bool
  | "str", .str _ => true
  | "list", .lst _ => true
  | "dict", .dic _ _ => true
  | "int", .int _ => true
  | _, _ => false
theorem tyV_of {T : Tb} {ty : String} {x : V} {d : D} (sub : Sub G H) (h : Pk T G H x d) (hd : isTy ty d = true) : tyV T.K ty x H := by
  unfold isTy at hd
  split at hd
  · rcases h with h | ⟨p, _, h⟩
    · simp only [Rp] at h; subst h; rfl
    · exact h.elim
  · rcases h with h | ⟨p, rfl, xs, h, _⟩
    · simp only [Rp] at h
      obtain ⟨q, xs, rfl, h2, _⟩ := h
      exact .inl ⟨rfl, xs, .inl (.inl (sub _ _ h2))⟩
    · exact .inl ⟨rfl, xs, .inl (.inl h)⟩
  · rcases h with h | ⟨p, rfl, kvs, h, _⟩
    · simp only [Rp] at h
      obtain ⟨q, kvs, rfl, h2, _⟩ := h
      exact .inr (.inr (.inl ⟨rfl, .inl ⟨kvs, sub _ _ h2⟩⟩))
    · exact .inr (.inr (.inl ⟨rfl, .inl ⟨kvs, h⟩⟩))
  · rcases h with h | ⟨p, _, h⟩
    · simp only [Rp] at h; subst h; rfl
    · exact h.elim
  · cases hd
def fMt0 (ty : String) (op : D → List D → Option RV) (fa : FE) : FE := fun e => do
  let (pa, e1) ← fa e
  let da ← R.of (look e1 pa)
  let _ ← R.of (if isTy ty da then some () else none)
  let rv ← R.of (op da [])
  .ok (rv.pv, e1)
def fMt (ty : String) (op : D → List D → Option RV) (fa : FE) (fs : FA) : FE := fun e => do
  let (pa, e1) ← fa e
  let d0 ← R.of (look e1 (hold pa))
  let _ ← R.of (if isTy ty d0 then some () else none)
  let (ps, e2) ← fs e1
  let da ← R.of (look e2 (hold pa))
  let ds ← R.of (lookL e2 ps)
  let rv ← R.of (op da ds)
  .ok (rv.pv, e2)
theorem ty_ok {ty : String} {d : D} (h : (if isTy ty d then some () else none) = some a') : isTy ty d = true := by
  by_cases q : isTy ty d = true
  · exact q
  · rw [if_neg q] at h; cases h
theorem se_mt0 {x : Expr} {ty : String} {r} {op} (hx : ∀ t, PE X a t → PE X x (tBM0 T.K ty r t)) (hd : MtD T ty r op) (ha : SE T W X a ta ga) : SE T W X x (tBM0 T.K ty r ta) (fMt0 ty op ga) := by
  obtain ⟨p, r0⟩ := ha
  refine ⟨hx _ p, fun Pr A G H σ e Q s h => ?_⟩
  refine r0 Pr A G H σ e _ s (h.first fun pa e1 v1 G1 H1 x1 s1 q1 h1 => ?_)
  obtain ⟨da, l1, h4⟩ := of_ok h1
  obtain ⟨_, l2, h5⟩ := of_ok h4
  obtain ⟨rv, l3, h6⟩ := of_ok h5
  have pk := look_ok s1 q1 l1
  exact ⟨tyV_of s1.sub pk (ty_ok l2), hd G1 H1 v1 da [] [] rv _ s1.sub pk rfl l3 (rv_done s1 h6)⟩
theorem se_mt {x : Expr} {es : List Expr} {ty : String} {r} {op} {fs : FA} (hx : ∀ t u, PE X a t → PA X es u → PE X x (tBM T.K ty r t u)) (hd : MtD T ty r op) (ha : SE T W X a ta ga) (hs : SA T W X es tss fs) : SE T W X x (tBM T.K ty r ta tss) (fMt ty op ga fs) := by
  obtain ⟨p, r0⟩ := ha
  obtain ⟨p1, r1⟩ := hs
  refine ⟨hx _ _ p p1, fun Pr A G H σ e Q s h => ?_⟩
  refine r0 Pr A G H σ e _ s (h.first fun pa e1 v1 G1 H1 x1 s1 q1 h1 => ?_)
  obtain ⟨G1', x1', s1', q1'⟩ := hold_ok s1 q1
  obtain ⟨d0, l0, h2⟩ := of_ok (h1.ext x1')
  obtain ⟨_, l2, h3⟩ := of_ok h2
  refine ⟨tyV_of s1'.sub (look_ok s1' q1' l0) (ty_ok l2), ?_⟩
  refine r1 Pr A G1' H1 σ e1 _ s1' (h3.first fun ps e2 vs G2 H2 x2 s2 q2 h4 => ?_)
  obtain ⟨da, l3, h5⟩ := of_ok h4
  obtain ⟨ds, l4, h6⟩ := of_ok h5
  obtain ⟨rv, l5, h7⟩ := of_ok h6
  exact hd G2 H2 v1 da vs ds rv _ s2.sub (look_ok s2 (q1'.stay x2.1) l3) (lookL_ok s2 q2 l4) l5 (rv_done s2 h7)
end
end DL
set_option Elab.async false
set_option linter.all false
set_option maxRecDepth 100000
set_option maxHeartbeats 4000000
namespace DL
open PySem PySem.Spec PyProof.Rows L2

/-- how a statement ends -/
inductive Oc where
  | nx (e : Env) | bk (e : Env) | ct (e : Env) | rt (p : PV) (e : Env) | ex (c : Nat) (d : D) (e : Env) | no
abbrev FS := Env → Oc
def WExS (F : Fx) (W : WX) (G : Hp) (c : Nat) (d : D) (e : Env) : Prop := ∀ (dct : Addr) (v : V) (f : Str) (σ : St) (G' H' : Hp), Ext F.Pr G G' → SR F G' H' σ e → Rp F.T G' d v → (F.T.cls c).2 = [f] → H' dct = some (.xd [(f, v)]) → W (.ref (F.T.cls c).1) (some dct) σ H'
def OkS (F : Fx) (W : WX) (G : Hp) (D : Ends) : Oc → Prop
  | .nx e' => ∀ (σ' : St) (G' H' : Hp), Ext F.Pr G G' → SR F G' H' σ' e' → D.nx σ' H'
  | .bk e' => ∀ (σ' : St) (G' H' : Hp), Ext F.Pr G G' → SR F G' H' σ' e' → D.bk σ' H'
  | .ct e' => ∀ (σ' : St) (G' H' : Hp), Ext F.Pr G G' → SR F G' H' σ' e' → D.ct σ' H'
  | .rt p e' => ∀ (σ' : St) (v : V) (G' H' : Hp), Ext F.Pr G G' → SR F G' H' σ' e' → PVR F G' H' σ' e' p v → D.rt v H'
  | .ex c d e' => WExS F W G c d e'
  | .no => False
@[simp] def toS {α : Type} (x : R (α × Env)) (k : α × Env → Oc) : Oc := match x with
  | .ok a => k a
  | .ex c d e => .ex c d e
  | .no => .no
@[simp] theorem toS_ok {α : Type} (a : α × Env) (k : α × Env → Oc) : toS (.ok a) k = k a := rfl
@[simp] theorem toS_ex {α : Type} (c : Nat) (d : D) (e : Env) (k : α × Env → Oc) : toS (.ex c d e) k = .ex c d e := rfl
@[simp] theorem toS_no {α : Type} (k : α × Env → Oc) : toS .no k = .no := rfl
def SS (T : Tb) (W : WX) (X : Cx) (x : Stmt) (t : TS) (f : FS) : Prop := PS X x t ∧ ∀ (Pr : Hp) (A : Nat → Option Addr) (G H : Hp) (σ : St) (e : Env) (D : Ends), SR ⟨T, Pr, A⟩ G H σ e → OkS ⟨T, Pr, A⟩ W G D (f e) → t D σ H
def SSs (T : Tb) (W : WX) (X : Cx) (x : List Stmt) (t : TS) (f : FS) : Prop := PSs X x t ∧ ∀ (Pr : Hp) (A : Nat → Option Addr) (G H : Hp) (σ : St) (e : Env) (D : Ends), SR ⟨T, Pr, A⟩ G H σ e → OkS ⟨T, Pr, A⟩ W G D (f e) → t D σ H

section
variable {T : Tb} {W : WX} {X : Cx} {F : Fx} {G G1 H : Hp} {σ : St} {e e1 : Env} {D0 : Ends}
theorem OkS.ext {r : Oc} (x : Ext F.Pr G G1) (h : OkS F W G D0 r) : OkS F W G1 D0 r := by
  cases r with
  | nx e' => exact fun σ' G' H' x' => h σ' G' H' (x.trans x')
  | bk e' => exact fun σ' G' H' x' => h σ' G' H' (x.trans x')
  | ct e' => exact fun σ' G' H' x' => h σ' G' H' (x.trans x')
  | rt p e' => exact fun σ' v G' H' x' => h σ' v G' H' (x.trans x')
  | ex c d e' => exact fun dct v f σ' G' H' x' => h dct v f σ' G' H' (x.trans x')
  | no => exact h
theorem OkS.first {α β : Type} {Q1 : β → Hp → Prop} {rel1 : Hp → Hp → Env → α → β → Prop} {r : R (α × Env)} {k : α × Env → Oc}
    (h : OkS F W G D0 (toS r k)) (hk : ∀ a e1 v G1 H1, Ext F.Pr G G1 → SR F G1 H1 σ e1 → rel1 G1 H1 e1 a v → OkS F W G1 D0 (k (a, e1)) → Q1 v H1) : OkE F W σ G Q1 rel1 r := by
  cases r with
  | ok a => obtain ⟨a, e'⟩ := a; exact fun v G' H' x' s q => hk a e' v G' H' x' s q (h.ext x')
  | ex c d e' => exact fun dct v f G' H' => h dct v f σ G' H'
  | no => exact h

/-! ### blocks -/
def fSkip : FS := fun e => .nx e
def fSeq (f g : FS) : FS := fun e => match f e with
  | .nx e1 => g e1
  | .bk e1 => .bk e1
  | .ct e1 => .ct e1
  | .rt p e1 => .rt p e1
  | .ex c d e1 => .ex c d e1
  | .no => .no
theorem ss_nil : SSs T W X [] tNext fSkip := ⟨pss_nil, fun Pr A G H σ e D s h => h σ G H Ext.refl s⟩
theorem ss_cons {x : Stmt} {r : List Stmt} {f g : FS} (h1 : SS T W X x t1 f) (h2 : SSs T W X r t2 g) : SSs T W X (x :: r) (tSeq t1 t2) (fSeq f g) := by
  obtain ⟨p, q⟩ := h1
  obtain ⟨p2, q2⟩ := h2
  refine ⟨pss_cons p p2, fun Pr A G H σ e D s h => ?_⟩
  refine q Pr A G H σ e _ s ?_
  unfold fSeq at h
  revert h
  cases f e with
  | nx e1 => exact fun h σ' G' H' x' s' => q2 Pr A G' H' σ' e1 D s' (OkS.ext x' h)
  | bk e1 => exact fun h => h
  | ct e1 => exact fun h => h
  | rt p e1 => exact fun h => h
  | ex c d e1 => exact fun h => h
  | no => exact fun h => h
theorem ss_one {x : Stmt} {f : FS} (h1 : SS T W X x t1 f) : SSs T W X [x] t1 f := by
  obtain ⟨p, q⟩ := h1
  exact ⟨pss_one p, q⟩
def fBrk : FS := fun e => .bk e
def fCnt : FS := fun e => .ct e
def fPass : FS := fun e => .nx e
theorem ss_pass {pos : Pos} : SS T W X (.Pass pos) tNext fPass := ⟨ps_pass, fun Pr A G H σ e D s h => h σ G H Ext.refl s⟩
theorem ss_break {pos : Pos} : SS T W X (.Break pos) tBreak fBrk := ⟨ps_break, fun Pr A G H σ e D s h => h σ G H Ext.refl s⟩
theorem ss_cont {pos : Pos} : SS T W X (.Continue pos) tCont fCnt := ⟨ps_continue, fun Pr A G H σ e D s h => h σ G H Ext.refl s⟩
theorem ss_doc {x j pos pos'} : SS T W X (.Expr (.Constant (.str x) j pos) pos') tNext fPass := ⟨ps_doc, fun Pr A G H σ e D s h => h σ G H Ext.refl s⟩
/-- code that is never come to -/
def fNever : FS := fun _ => .no
theorem ss_never {x : Stmt} : SS T W X x tNever fNever := ⟨ps_never, fun Pr A G H σ e D s h => h⟩
theorem sss_never {x : List Stmt} : SSs T W X x tNever fNever := ⟨pss_never, fun Pr A G H σ e D s h => h⟩
def fDrop (fe : FE) : FS := fun e => toS (fe e) fun (_, e1) => .nx e1
theorem ss_expr {x : Expr} {fe : FE} {pos : Pos} (he : SE T W X x te fe) (hs : swapsWith x none pos.line X.env = pure false := by rfl) : SS T W X (.Expr x pos) (tDrop te) (fDrop fe) := by
  obtain ⟨p, q⟩ := he
  refine ⟨ps_expr p hs, fun Pr A G H σ e D s h => ?_⟩
  exact q Pr A G H σ e _ s (h.first fun p1 e1 v1 G1 H1 x1 s1 q1 h1 => h1 σ G1 H1 Ext.refl s1)
def fIf (ft : FT) (fa fb : FS) : FS := fun e => toS (ft e) fun (b, e1) => if b = true then fa e1 else fb e1
theorem ss_if {c : Expr} {a b : List Stmt} {ft : FT} {fa fb : FS} {pos : Pos} (hc : ST T W X c tc ft) (ha : SSs T W X a ta fa) (hb : SSs T W X b tb fb) : SS T W X (.If c a b pos) (tIfS tc ta tb) (fIf ft fa fb) := by
  obtain ⟨p0, q0⟩ := hc
  obtain ⟨p, q⟩ := ha
  obtain ⟨p2, q2⟩ := hb
  refine ⟨ps_if p0 p p2, fun Pr A G H σ e D s h => ?_⟩
  refine q0 Pr A G H σ e _ s (h.first fun p1 e1 v1 G1 H1 x1 s1 e2 h1 => ?_)
  subst e2
  cases v1 with
  | true => exact q Pr A G1 H1 σ e1 D s1 h1
  | false => exact q2 Pr A G1 H1 σ e1 D s1 h1
/-- what is handed back: a name's own object leaves with it -/
@[simp] def retP (e : Env) : PV → Oc
  | .d d => .rt (.d d) e
  | .nw d => .rt (.nw d) e
  | .sl i => match gt e i with
    | .ce false d => .rt (.nw d) (st e i .un)
    | _ => .no
def fRet (fe : FE) : FS := fun e => toS (fe e) fun (p, e1) => retP e1 p
theorem ss_ret {x : Expr} {fe : FE} {pos : Pos} (he : SE T W X x te fe) : SS T W X (.Return (some x) pos) (tRet te) (fRet fe) := by
  obtain ⟨p, q⟩ := he
  refine ⟨ps_ret p, fun Pr A G H σ e D s h => ?_⟩
  refine q Pr A G H σ e _ s (h.first fun p1 e1 v1 G1 H1 x1 s1 q1 h1 => ?_)
  dsimp only at h1
  cases p1 with
  | d d => exact h1 σ v1 G1 H1 Ext.refl s1 q1
  | nw d => exact h1 σ v1 G1 H1 Ext.refl s1 q1
  | sl i =>
    simp only [retP] at h1
    split at h1
    · rename_i d hd
      obtain ⟨p, z1, z2, z3, z4, z5⟩ := s1.ce i false d hd
      have q1' : σ[i]? = some (some v1) := q1
      rw [q1'] at z1; cases z1
      exact h1 σ _ G1 H1 Ext.refl (un_slot s1 i) ⟨p, rfl, z3, z4, off_un s1 hd q1' .un (by intro _ _ z; cases z), z5⟩
    · exact h1.elim
def fRetN : FS := fun e => .rt (.d .non) e
theorem ss_retN {pos : Pos} : SS T W X (.Return none pos) tRetN fRetN := ⟨ps_retN, fun Pr A G H σ e D s h => h σ .non G H Ext.refl s (by show Rp _ _ _ _; simp only [Rp])⟩

/-! ### assignments -/
theorem set_va {i : Nat} {d : D} {v : V} (s : SR F G H σ e) (hr : Rp F.T G d v) : SR F G H (σ.set i (some v)) (st e i (.va d)) := by
  have key : ∀ {j : Nat} {x : Sl}, gt (st e i (.va d)) j = x → x ≠ .un → (j = i ∧ x = .va d ∧ i < σ.length) ∨ (j ≠ i ∧ gt e j = x) := fun {j x} h hx => by
    rw [gt_st] at h
    split at h
    · rename_i hj; exact .inl ⟨hj.1, h.symm, by rw [← s.len]; exact hj.2⟩
    · rename_i hj
      refine .inr ⟨fun z => hj ⟨z, ?_⟩, h⟩
      rw [z] at h
      exact gt_lt (by rw [h]; exact hx)
  refine ⟨s.prot, s.sub, by rw [st_len, List.length_set]; exact s.len, fun j d' h => ?_, fun j b d' h => ?_, fun j k b d1 b' d2 p h1 h2 z1 z2 => ?_⟩
  · rcases key h (by intro z; cases z) with ⟨rfl, z, hl⟩ | ⟨hj, h⟩
    · cases z
      exact ⟨v, List.getElem?_set_self hl, hr⟩
    · obtain ⟨u, h1, h2⟩ := s.va j d' h
      exact ⟨u, by rw [List.getElem?_set_ne (Ne.symm hj)]; exact h1, h2⟩
  · rcases key h (by intro z; cases z) with ⟨_, z, _⟩ | ⟨hj, h⟩
    · cases z
    · obtain ⟨p, h1, h2⟩ := s.ce j b d' h
      exact ⟨p, by rw [List.getElem?_set_ne (Ne.symm hj)]; exact h1, h2⟩
  · rcases key h1 (by intro z; cases z) with ⟨_, z, _⟩ | ⟨hj, h1⟩
    · cases z
    · rcases key h2 (by intro z; cases z) with ⟨_, z, _⟩ | ⟨hk, h2⟩
      · cases z
      · rw [List.getElem?_set_ne (Ne.symm hj)] at z1
        rw [List.getElem?_set_ne (Ne.symm hk)] at z2
        exact s.dis j k b d1 b' d2 p h1 h2 z1 z2
theorem set_ce {i : Nat} {d : D} {p : Addr} (s : SR F G H σ e) (h1 : F.Pr p = none) (h2 : G p = none) (h3 : Off σ e p) (h4 : Cp F.T G H p d) : SR F G H (σ.set i (some (.ref p))) (st e i (.ce false d)) := by
  have key : ∀ {j : Nat} {x : Sl}, gt (st e i (.ce false d)) j = x → x ≠ .un → (j = i ∧ x = .ce false d ∧ i < σ.length) ∨ (j ≠ i ∧ gt e j = x) := fun {j x} h hx => by
    rw [gt_st] at h
    split at h
    · rename_i hj; exact .inl ⟨hj.1, h.symm, by rw [← s.len]; exact hj.2⟩
    · rename_i hj
      refine .inr ⟨fun z => hj ⟨z, ?_⟩, h⟩
      rw [z] at h
      exact gt_lt (by rw [h]; exact hx)
  refine ⟨s.prot, s.sub, by rw [st_len, List.length_set]; exact s.len, fun j d' h => ?_, fun j b d' h => ?_, fun j k b d1 b' d2 q g1 g2 z1 z2 => ?_⟩
  · rcases key h (by intro z; cases z) with ⟨_, z, _⟩ | ⟨hj, h⟩
    · cases z
    · obtain ⟨u, q1, q2⟩ := s.va j d' h
      exact ⟨u, by rw [List.getElem?_set_ne (Ne.symm hj)]; exact q1, q2⟩
  · rcases key h (by intro z; cases z) with ⟨rfl, z, hl⟩ | ⟨hj, h⟩
    · cases z
      exact ⟨p, List.getElem?_set_self hl, (fun z => by cases z), h1, h2, h4⟩
    · obtain ⟨q, q1, q2⟩ := s.ce j b d' h
      exact ⟨q, by rw [List.getElem?_set_ne (Ne.symm hj)]; exact q1, q2⟩
  · rcases key g1 (by intro z; cases z) with ⟨e1, z, hl⟩ | ⟨hj, g4⟩
    · rcases key g2 (by intro z; cases z) with ⟨e2, _, _⟩ | ⟨hk, g3⟩
      · exact e1.trans e2.symm
      · rw [e1, List.getElem?_set_self hl] at z1; cases z1
        rw [List.getElem?_set_ne (Ne.symm hk)] at z2
        exact absurd z2 (h3 k b' d2 g3)
    · rcases key g2 (by intro z; cases z) with ⟨e2, z, hl⟩ | ⟨hk, g3⟩
      · rw [e2, List.getElem?_set_self hl] at z2; cases z2
        rw [List.getElem?_set_ne (Ne.symm hj)] at z1
        exact absurd z1 (h3 j b d1 g4)
      · rw [List.getElem?_set_ne (Ne.symm hj)] at z1
        rw [List.getElem?_set_ne (Ne.symm hk)] at z2
        exact s.dis j k b d1 b' d2 q g4 g3 z1 z2
/-- a name may be bound anew -/
@[simp] def free (e : Env) (i : Nat) : Bool := match gt e i with
  | .ce true _ => false
  | _ => true
@[simp] def put (e : Env) (i : Nat) : PV → Option Env
  | .d d => if free e i then some (st e i (.va d)) else none
  | .nw d => if free e i then some (st e i (.ce false d)) else none
  | .sl j => match gt e j with
    | .ce false d => if free e i then some (st (st e j (.va d)) i (.va d)) else none
    | _ => none
theorem put_ok {pv : PV} {v : V} {i : Nat} {e' : Env} (s : SR F G H σ e) (h : PVR F G H σ e pv v) (hp : put e i pv = some e') : ∃ G', Ext F.Pr G G' ∧ SR F G' H (σ.set i (some v)) e' := by
  cases pv with
  | d d =>
    simp only [put] at hp
    split at hp
    · cases hp; exact ⟨G, Ext.refl, set_va s h⟩
    · cases hp
  | nw d =>
    simp only [put] at hp
    split at hp
    · cases hp
      obtain ⟨p, rfl, h1, h2, h3, h4⟩ := h
      exact ⟨G, Ext.refl, set_ce s h1 h2 h3 h4⟩
    · cases hp
  | sl j =>
    simp only [put] at hp
    split at hp
    · rename_i d hd
      split at hp
      · cases hp
        have hs : settle e (.sl j) = .ok (d, st e j (.va d)) := by simp only [settle, hd]
        obtain ⟨G', x, s', r⟩ := settle_ok s h hs
        exact ⟨G', x, set_va s' r⟩
      · cases hp
    · cases hp
@[simp] def putO (e : Env) (i : Nat) (p : PV) : Oc := match put e i p with
  | some e1 => .nx e1
  | none => .no
def fSet (i : Nat) (fe : FE) : FS := fun e => toS (fe e) fun (p, e1) => putO e1 i p
theorem ss_asgN {x : Stmt} {y : Expr} {i : Nat} {fe : FE} (hx : ∀ t, PE X y t → PS X x (tAsg t (gName i))) (he : SE T W X y te fe) : SS T W X x (tAsg te (gName i)) (fSet i fe) := by
  obtain ⟨p, q⟩ := he
  refine ⟨hx _ p, fun Pr A G H σ e D s h => ?_⟩
  refine q Pr A G H σ e _ s (h.first fun p1 e1 v1 G1 H1 x1 s1 q1 h1 => ?_)
  dsimp only [putO] at h1
  split at h1
  · rename_i e2 h2
    obtain ⟨G2, x2, s2⟩ := put_ok s1 q1 h2
    exact h1 _ G2 H1 x2 s2
  · exact h1.elim
theorem ss_set {i : Nat} {n : Str} {x : Expr} {fe : FE} {pos pos' : Pos} (hN : X.N.Nodup) (hi : X.N[i]? = some n) (hx : Loc X.env.scope n) (he : SE T W X x te fe) (hs : swapsWith x (some (.Name n pos')) pos.line X.env = pure false := by rfl) (hf : X.fn n = true ∨ X.env.scope.names.lookup n = some .local := by first | exact .inl rfl | exact .inr rfl | assumption) :
    SS T W X (.Assign [.Name n pos'] x pos) (tAsg te (gName i)) (fSet i fe) := ss_asgN (fun t h => ps_set hN hi hx h hs hf) he
/-- name op= e, where the name holds plain data -/
def fAug (i : Nat) (op : D → D → Option RV) (fe : FE) : FS := fun e => match gt e i with
  | .va d0 => toS (fe e) fun (p, e1) => match look e1 p with
    | some d1 => match op d0 d1 with
      | some rv => putO e1 i rv.pv
      | none => .no
    | none => .no
  | _ => .no
theorem ss_aug {i : Nat} {n : Str} {x : Expr} {fe : FE} {op : Operator} {r : R2} {od : D → D → Option RV} {pos pos' : Pos} (hN : X.N.Nodup) (hi : X.N[i]? = some n) (hx : Loc X.env.scope n) (he : SE T W X x te fe) (ho : OpR X (inplaceOp op) r) (hd : OpD T r od)
    (hf : X.fn n = true ∨ X.env.scope.names.lookup n = some .local := by first | exact .inl rfl | exact .inr rfl | assumption) : SS T W X (.AugAssign (.Name n pos') op x pos) (tAug i te r) (fAug i od fe) := by
  obtain ⟨p, q⟩ := he
  refine ⟨ps_aug hN hi hx p (fun pins s σ H x y v u Q I rx ry h => ho pins s σ H x y v u Q I rx ry h) hf, fun Pr A G H σ e D s h => ?_⟩
  unfold fAug at h
  split at h
  · rename_i d0 h0
    obtain ⟨v0, z1, z2⟩ := s.va i d0 h0
    refine ⟨v0, z1, ?_⟩
    refine q Pr A G H σ e _ s (h.first fun p1 e1 v1 G1 H1 x1 s1 q1 h1 => ?_)
    dsimp only at h1
    split at h1
    · rename_i d1 hl
      split at h1
      · rename_i rv hr
        refine hd G1 H1 v0 v1 d0 d1 rv _ s1.sub (.inl (Rp.mono x1.1 _ _ z2)) (look_ok s1 q1 hl) hr ?_
        refine rv_done (W := fun _ _ _ _ => False) s1 ?_
        intro v2 G2 H2 x2 s2 q2
        dsimp only [putO] at h1
        split at h1
        · rename_i e2 h2
          obtain ⟨G3, x3, s3⟩ := put_ok s2 q2 h2
          exact h1 _ G3 H2 (x2.trans x3) s3
        · exact h1.elim
      · exact h1.elim
    · exact h1.elim
  · exact h.elim

/-! ### what changes a name's own object -/
theorem upd_cell {i : Nat} {b : Bool} {d d' : D} {p : Addr} {o : HO} (s : SR F G H σ e) (h : gt e i = .ce b d) (hp : σ[i]? = some (some (.ref p))) (hc : Cp F.T G (upd H p o) p d') : SR F G (upd H p o) σ (st e i (.ce b d')) := by
  obtain ⟨p', z1, z2, z3, z4, z5⟩ := s.ce i b d h
  rw [hp] at z1; cases z1
  have sb : ∀ {K : Hp}, K p = none → Sub K H → Sub K (upd H p o) := fun {K} hk hs a u q => by
    rw [upd_ne (fun z => by rw [z, hk] at q; cases q)]
    exact hs a u q
  refine ⟨sb z3 s.prot, sb z4 s.sub, by rw [st_len]; exact s.len, fun j d1 q => ?_, fun j b1 d1 q => ?_, fun j k b1 d1 b2 d2 q h1 h2 y1 y2 => ?_⟩
  · rw [gt_st] at q
    split at q
    · cases q
    · exact s.va j d1 q
  · rw [gt_st] at q
    split at q
    · rename_i hj
      cases q
      rw [hj.1]
      exact ⟨p, hp, z2, z3, z4, hc⟩
    · rename_i hj
      obtain ⟨q1, y1, y2, y3, y4, y5⟩ := s.ce j b1 d1 q
      refine ⟨q1, y1, y2, y3, y4, y5.mono Sub.refl fun o' ho => ?_⟩
      rw [upd_ne (fun z => hj ⟨s.dis j i b1 d1 b d p q h (by rw [← z]; exact y1) hp, gt_lt (by rw [h]; intro z; cases z)⟩)]
      exact ho
  · have back : ∀ {j : Nat} {b1 : Bool} {d1 : D}, gt (st e i (.ce b d')) j = .ce b1 d1 → ∃ b2 d2, gt e j = .ce b2 d2 := fun {j b1 d1} q => by
      rw [gt_st] at q
      split at q
      · rename_i hj; rw [hj.1]; exact ⟨b, d, h⟩
      · exact ⟨b1, d1, q⟩
    obtain ⟨c1, f1, g1⟩ := back h1
    obtain ⟨c2, f2, g2⟩ := back h2
    exact s.dis j k c1 f1 c2 f2 q g1 g2 y1 y2
/-- o.m(..) of a built-in type, o a name, that changes o: what comes back, and o's new content -/
def MtM (T : Tb) (r : V → List V → Hp → VK → Prop) (op : D → List D → Option (RV × D)) : Prop := ∀ (G H : Hp) (p : Addr) (d : D) (vs : List V) (ds : List D) (rv : RV) (d' : D) (Q : VK), Sub G H → G p = none → Cp T G H p d → RpL T G ds vs → op d ds = some (rv, d') →
  (∀ o, Cp T G (upd H p o) p d' → RVQ T G (upd H p o) Q rv) → r (.ref p) vs H Q
def fMu (i : Nat) (ty : String) (op : D → List D → Option (RV × D)) (fs : FA) : FE := fun e => match gt e i with
  | .ce _ d0 => if isTy ty d0 = true then (do
      let (ps, e1) ← fs e
      let (ds, e2) ← settleL e1 ps
      match gt e2 i with
      | .ce b d => match op d ds with
        | some (rv, d') => .ok (rv.pv, st e2 i (.ce b d'))
        | none => .no
      | _ => .no) else .no
  | _ => .no
theorem se_mu {x : Expr} {es : List Expr} {ty : String} {i : Nat} {r} {op} {fs : FA} (hx : ∀ u, PA X es u → PE X x (tBM T.K ty r (tVar i) u)) (hd : MtM T r op) (hs : SA T W X es tss fs) : SE T W X x (tBM T.K ty r (tVar i) tss) (fMu i ty op fs) := by
  obtain ⟨p1, r1⟩ := hs
  refine ⟨hx _ p1, fun Pr A G H σ e Q s h => ?_⟩
  unfold fMu at h
  split at h
  · rename_i b0 d0 h0
    obtain ⟨hty, h⟩ := if_ok h
    obtain ⟨p, z1, z2, z3, z4, z5⟩ := s.ce i b0 d0 h0
    refine ⟨.ref p, z1, tyV_of s.sub (.inr ⟨p, rfl, z5⟩) hty, ?_⟩
    refine r1 Pr A G H σ e _ s (h.first fun ps e1 vs G1 H1 x1 s1 q1 h1 => ?_)
    obtain ⟨⟨ds, e2⟩, l1, h2⟩ := no_of (fun _ _ _ => settleL_nx) h1
    obtain ⟨G2, x2, s2, q2⟩ := settleL_ok s1 q1 l1
    dsimp only at h2
    split at h2
    · rename_i b d hb
      split at h2
      · rename_i rv d' ho
        obtain ⟨p', y1, y2, y3, y4, y5⟩ := s2.ce i b d hb
        rw [z1] at y1; cases y1
        refine hd G2 H1 p d vs ds rv d' _ s2.sub y4 y5 q2 ho fun o hc => ?_
        exact rv_done (upd_cell s2 hb z1 hc) (h2.ext x2)
      · exact h2.elim
    · exact h2.elim
  · exact h.elim
/-- o.m(), that changes o -/
def fMu0 (i : Nat) (ty : String) (op : D → List D → Option (RV × D)) : FE := fun e => match gt e i with
  | .ce b d => if isTy ty d = true then (match op d [] with
      | some (rv, d') => .ok (rv.pv, st e i (.ce b d'))
      | none => .no) else .no
  | _ => .no
theorem se_mu0 {x : Expr} {ty : String} {i : Nat} {r} {op} (hx : PE X x (tBM0 T.K ty r (tVar i))) (hd : MtM T r op) : SE T W X x (tBM0 T.K ty r (tVar i)) (fMu0 i ty op) := by
  refine ⟨hx, fun Pr A G H σ e Q s h => ?_⟩
  unfold fMu0 at h
  split at h
  · rename_i b0 d0 h0
    obtain ⟨hty, h⟩ := if_ok h
    obtain ⟨p, z1, z2, z3, z4, z5⟩ := s.ce i b0 d0 h0
    refine ⟨.ref p, z1, tyV_of s.sub (.inr ⟨p, rfl, z5⟩) hty, ?_⟩
    split at h
    · rename_i rv d' ho
      exact hd G H p d0 [] [] rv d' _ s.sub z4 z5 RpL.nil ho fun o hc => rv_done (upd_cell s h0 z1 hc) h
    · exact h.elim
  · exact h.elim
/-- o[k] = e, o a name -/
def StD (T : Tb) (r : TSet) (op : D → D → D → Option D) : Prop := ∀ (G H : Hp) (p : Addr) (d : D) (k v : V) (dk dv d' : D) (Q : Hp → Prop), Sub G H → G p = none → Cp T G H p d → Rp T G dk k → Rp T G dv v → op d dk dv = some d' → (∀ o, Cp T G (upd H p o) p d' → Q (upd H p o)) → r (.ref p) k v H Q
def fSti (i : Nat) (op : D → D → D → Option D) (fk fe : FE) : FS := fun e => toS (fe e) fun (p, e1) => toS (settle e1 p) fun (dv, e2) => match gt e2 i with
  | .ce _ _ => toS (fk e2) fun (pk, e3) => toS (settle e3 pk) fun (dk, e4) => match gt e4 i with
    | .ce b d => match op d dk dv with
      | some d' => .nx (st e4 i (.ce b d'))
      | none => .no
    | _ => .no
  | _ => .no
theorem toS_ok_of {α : Type} {r : R (α × Env)} {k : α × Env → Oc} (hn : ∀ c d e, r ≠ .ex c d e) (h : OkS F W G D0 (toS r k)) : ∃ a, r = .ok a ∧ OkS F W G D0 (k a) := by
  cases r with
  | ok a => exact ⟨a, rfl, h⟩
  | ex c d e => exact absurd rfl (hn c d e)
  | no => exact h.elim
theorem ss_sti {x : Stmt} {y k : Expr} {i : Nat} {r : TSet} {op} {fk fe : FE} (hx : ∀ t tk, PE X y t → PE X k tk → PS X x (tAsg t (gSub (tVar i) tk r))) (hd : StD T r op) (hk : SE T W X k tk fk) (he : SE T W X y te fe) : SS T W X x (tAsg te (gSub (tVar i) tk r)) (fSti i op fk fe) := by
  obtain ⟨p, q⟩ := he
  obtain ⟨pk, qk⟩ := hk
  refine ⟨hx _ _ p pk, fun Pr A G H σ e D s h => ?_⟩
  refine q Pr A G H σ e _ s (h.first fun p1 e1 v1 G1 H1 x1 s1 q1 h1 => ?_)
  obtain ⟨⟨dv, e2⟩, l1, h2⟩ := toS_ok_of (fun _ _ _ => settle_nx) h1
  obtain ⟨G2, x2, s2, r2⟩ := settle_ok s1 q1 l1
  dsimp only at h2
  split at h2
  rotate_left
  · exact h2.elim
  rename_i b0 d0 h0
  obtain ⟨p, z1, z2, z3, z4, z5⟩ := s2.ce i b0 d0 h0
  refine ⟨.ref p, z1, ?_⟩
  refine qk Pr A G2 H1 σ e2 _ s2 ((h2.ext x2).first fun p3 e3 v3 G3 H3 x3 s3 q3 h3 => ?_)
  obtain ⟨⟨dk, e4⟩, l4, h4⟩ := toS_ok_of (fun _ _ _ => settle_nx) h3
  obtain ⟨G4, x4, s4, r4⟩ := settle_ok s3 q3 l4
  dsimp only at h4
  split at h4
  rotate_left
  · exact h4.elim
  rename_i b d hb
  split at h4
  rotate_left
  · exact h4.elim
  rename_i d' ho
  obtain ⟨p', y1, y2, y3, y4, y5⟩ := s4.ce i b d hb
  rw [z1] at y1; cases y1
  exact hd G4 H3 p d v3 v1 dk dv d' _ s4.sub y4 y5 r4 (Rp.mono (x3.trans x4).1 _ _ r2) ho fun o hc => h4 σ G4 _ x4 (upd_cell s4 hb z1 hc)
end
end DL
set_option Elab.async false
set_option linter.all false
set_option maxRecDepth 100000
set_option maxHeartbeats 4000000
namespace DL
open PySem PySem.Spec PyProof.Rows L2

/-! ### targets -/
/-- a target and its mirror; is: the slots it may change -/
def STg (T : Tb) (X : Cx) (tg : Expr) (t : TG) (is : List Nat) (g : D → Env → Option Env) : Prop := PG X tg t ∧ ∀ (Pr : Hp) (A : Nat → Option Addr) (G H : Hp) (σ : St) (e e' : Env) (d : D) (v : V) (Q : St → Hp → Prop), SR ⟨T, Pr, A⟩ G H σ e → Rp T G d v → g d e = some e' →
  (∀ σ', SR ⟨T, Pr, A⟩ G H σ' e' → (∀ j, j ∉ is → σ'[j]? = σ[j]?) → σ'.length = σ.length → Q σ' H) → t v σ H Q
def STgs (T : Tb) (X : Cx) (tg : List Expr) (t : TGs) (is : List Nat) (g : List D → Env → Option Env) : Prop := PGs X tg t ∧ ∀ (Pr : Hp) (A : Nat → Option Addr) (G H : Hp) (σ : St) (e e' : Env) (ds : List D) (vs : List V) (Q : St → Hp → Prop), SR ⟨T, Pr, A⟩ G H σ e → RpL T G ds vs → g ds e = some e' →
  (∀ σ', SR ⟨T, Pr, A⟩ G H σ' e' → (∀ j, j ∉ is → σ'[j]? = σ[j]?) → σ'.length = σ.length → Q σ' H) → t vs σ H Q
@[simp] def gN (i : Nat) : D → Env → Option Env := fun d e => put e i (.d d)
@[simp] def gsNil : List D → Env → Option Env
  | [], e => some e
  | _ :: _, _ => none
@[simp] def gsCons (g : D → Env → Option Env) (gs : List D → Env → Option Env) : List D → Env → Option Env
  | d :: ds, e => (g d e).bind fun e1 => gs ds e1
  | [], _ => none
@[simp] def gT (n : Nat) (gs : List D → Env → Option Env) : D → Env → Option Env
  | .tup ds, e => if ds.length = n then gs ds e else none
  | _, _ => none
section
variable {T : Tb} {W : WX} {X : Cx} {F : Fx} {G G1 H : Hp} {σ : St} {e e1 : Env} {D0 : Ends} {pos : Pos}
theorem tg_n {i : Nat} {n : Str} (h : PG X (.Name n pos) (gName i)) : STg T X (.Name n pos) (gName i) [i] (gN i) := by
  refine ⟨h, fun Pr A G H σ e e' d v Q s r hg q => ?_⟩
  simp only [gN, put] at hg
  split at hg
  · cases hg
    exact q _ (set_va s r) (fun j hj => List.getElem?_set_ne (by intro z; subst z; exact hj (List.mem_singleton.mpr rfl))) List.length_set
  · cases hg
theorem tgs_nil : STgs T X [] gNil [] gsNil := by
  refine ⟨pgs_nil, fun Pr A G H σ e e' ds vs Q s r hg q => ?_⟩
  cases ds with
  | nil => simp only [RpL] at r; subst r; cases hg; exact ⟨rfl, q σ s (fun _ _ => rfl) rfl⟩
  | cons d ds => cases hg
theorem tgs_cons {x : Expr} {xs : List Expr} {t : TG} {u : TGs} {is js : List Nat} {g : D → Env → Option Env} {gs : List D → Env → Option Env} (h1 : STg T X x t is g) (h2 : STgs T X xs u js gs)
    (hs : (assignEach (x :: xs) X.env).map (·.2) = assign x X.env :: (assignEach xs X.env).map (·.2) := by rfl) : STgs T X (x :: xs) (gCons t u) (is ++ js) (gsCons g gs) := by
  obtain ⟨p1, r1⟩ := h1
  obtain ⟨p2, r2⟩ := h2
  refine ⟨pgs_cons p1 p2 hs, fun Pr A G H σ e e' ds vs Q s r hg q => ?_⟩
  cases ds with
  | nil => cases hg
  | cons d ds =>
    simp only [RpL] at r
    obtain ⟨v, vr, rfl, hv, hr⟩ := r
    simp only [gsCons, Option.bind_eq_some_iff] at hg
    obtain ⟨e1, hg1, hg2⟩ := hg
    refine ⟨v, vr, rfl, r1 Pr A G H σ e e1 d v _ s hv hg1 fun σ1 s1 k1 l1 => ?_⟩
    exact r2 Pr A G H σ1 e1 e' ds vr Q s1 hr hg2 fun σ2 s2 k2 l2 => q σ2 s2 (fun j hj => (k2 j fun z => hj (List.mem_append_right _ z)).trans (k1 j fun z => hj (List.mem_append_left _ z))) (l2.trans l1)
theorem tg_t {es : List Expr} {k : Nat} {t : TGs} {is : List Nat} {n : Nat} {gs : List D → Env → Option Env} (hc : X.calm = true) (hK : X.K = T.K) (h : STgs T X es t is gs)
    (hn : (assignEach es X.env).length = n := by rfl) (hst : (assignEach es X.env).findIdx? (·.1) = none := by rfl) : STg T X (.Tuple es k pos) (gTup T.K n t) is (gT n gs) := by
  rw [← hK]
  obtain ⟨p1, r1⟩ := h
  refine ⟨pg_tup hc p1 hn hst, fun Pr A G H σ e e' d v Q s r hg q => ?_⟩
  unfold gT at hg
  split at hg
  · rename_i ds
    split at hg
    · rename_i hl
      simp only [Rp] at r
      obtain ⟨a, xs, rfl, h1, h2⟩ := r
      exact ⟨a, xs, rfl, .inl (.inl (s.sub _ _ h1)), by rw [RpL.length h2]; exact hl, r1 Pr A G H σ e e' ds xs Q s h2 hg q⟩
    · cases hg
  · cases hg

/-! ### what is walked -/
def YR (T : Tb) (G H : Hp) (d : D) (x : V) (H' : Hp) : Prop := (H' = H ∧ Rp T G d x) ∨ ∃ p xs ds, H p = none ∧ H' = upd H p (.tup xs) ∧ x = .ref p ∧ d = .tup ds ∧ RpL T G ds xs
def IterRep (T : Tb) (G : Hp) (items : List D) (J : It) : Prop := ∀ (G1 H1 : Hp) (i : Nat), Sub G G1 → Sub G1 H1 →
  (∀ d, items[i]? = some d → J.go i H1 ∧ ∀ x H2, J.yld i H1 x H2 → YR T G1 H1 d x H2) ∧ (items.length ≤ i → J.stop i H1)
def SI (T : Tb) (W : WX) (X : Cx) (tg it : Expr) (wi : TI) (f : Env → R (List D × Env)) : Prop := PI X tg it wi ∧ ∀ (Pr : Hp) (A : Nat → Option Addr) (G H : Hp) (σ : St) (e : Env) (Q : It → Hp → Prop), SR ⟨T, Pr, A⟩ G H σ e → OkE ⟨T, Pr, A⟩ W σ G Q (fun G' _ _ items J => IterRep T G' items J) (f e) → wi σ H Q
theorem IterRep.mono {items : List D} {J : It} (h : IterRep T G items J) (x : Sub G G1) : IterRep T G1 items J := fun G2 H2 i a b => h G2 H2 i (x.trans a) b
theorem yr_done {d : D} {x : V} {H' : Hp} (s : SR F G H σ e) (y : YR F.T G H d x H') : ∃ G', Ext F.Pr G G' ∧ SR F G' H' σ e ∧ Rp F.T G' d x := by
  rcases y with ⟨rfl, r⟩ | ⟨p, xs, ds, hp, rfl, rfl, rfl, r⟩
  · exact ⟨G, Ext.refl, s, r⟩
  · obtain ⟨f1, f2, f3⟩ := s.fresh hp
    refine ⟨upd G p (.tup xs), ext_new f2 f1, (s.grow (Sub.new hp)).froz upd_same f2 f3, ?_⟩
    simp only [Rp]
    exact ⟨p, xs, rfl, upd_same, RpL.mono (Sub.new f2) _ _ r⟩
/-- a list, a tuple of values; a text -/
def fItL (fe : FE) : Env → R (List D × Env) := fun e => do
  let (p, e1) ← fe e
  let (d, e2) ← settle e1 p
  match d with
  | .lst l => .ok (l, e2)
  | .fro l => .ok (l, e2)
  | _ => .no
theorem iter_list {K : PySem.W.Frag} {a : Addr} {xs : List V} {ds : List D} (hK : K = T.K) (h : ∀ G1 H1, Sub G G1 → Sub G1 H1 → SqL K H1 a xs) (r : RpL T G ds xs) : IterRep T G ds (Itl K a) := fun G1 H1 i x1 x2 => by
  refine ⟨fun d hd => ?_, fun hi => ⟨xs, h G1 H1 x1 x2, by rw [RpL.length r]; exact hi⟩⟩
  obtain ⟨x, hx, rx⟩ := r.get hd
  refine ⟨⟨xs, x, h G1 H1 x1 x2, hx⟩, fun y H2 ⟨e1, hy⟩ => .inl ⟨e1, ?_⟩⟩
  have := hy xs (h G1 H1 x1 x2)
  rw [hx] at this; cases this
  exact Rp.mono x1 _ _ rx
theorem si_list {tg x : Expr} {te : TE} {fe : FE} (hK : X.K = T.K) (he : SE T W X x te fe) : SI T W X tg x (iList T.K te) (fItL fe) := by
  rw [← hK]
  obtain ⟨p, q⟩ := he
  refine ⟨pi_list p, fun Pr A G H σ e Q s h => ?_⟩
  refine q Pr A G H σ e _ s (h.first fun p1 e1 v1 G1 H1 x1 s1 q1 h1 => ?_)
  obtain ⟨⟨d, e2⟩, l1, h2⟩ := no_of (fun _ _ _ => settle_nx) h1
  obtain ⟨G2, x2, s2, r2⟩ := settle_ok s1 q1 l1
  dsimp only at h2
  split at h2
  · rename_i l
    simp only [Rp] at r2
    obtain ⟨a, xs, rfl, y1, y2⟩ := r2
    refine ⟨a, rfl, ⟨xs, .inl (.inl (s2.sub _ _ y1))⟩, h2 _ G2 H1 x2 s2 ?_⟩
    exact iter_list hK (fun G3 H3 x3 x4 => .inl (.inl (x4 _ _ (x3 _ _ y1)))) y2
  · rename_i l
    simp only [Rp] at r2
    obtain ⟨a, xs, rfl, y1, y2⟩ := r2
    refine ⟨a, rfl, ⟨xs, hK ▸ s2.sub.seq y1⟩, h2 _ G2 H1 x2 s2 ?_⟩
    exact iter_list hK (fun G3 H3 x3 x4 => hK ▸ x4.seq (x3.seq y1)) y2
  · exact h2.elim
@[simp] def chrs (l : List Nat) : List D := l.map fun c => .str [c]
def fItS (fe : FE) : Env → R (List D × Env) := fun e => do
  let (p, e1) ← fe e
  match look e1 p with
  | some (.str l) => .ok (chrs l, e1)
  | _ => .no
theorem str_of {pv : PV} {v : V} {l : List Nat} (s : SR F G H σ e) (q : PVR F G H σ e pv v) (hl : look e pv = some (.str l)) : v = .str (S l) := by
  rcases look_ok s q hl with h | ⟨p, _, h⟩
  · simp only [Rp] at h; exact h
  · exact h.elim
theorem si_str {tg x : Expr} {te : TE} {fe : FE} (he : SE T W X x te fe) : SI T W X tg x (iStr te) (fItS fe) := by
  obtain ⟨p, q⟩ := he
  refine ⟨pi_str p, fun Pr A G H σ e Q s h => ?_⟩
  refine q Pr A G H σ e _ s (h.first fun p1 e1 v1 G1 H1 x1 s1 q1 h1 => ?_)
  dsimp only at h1
  split at h1
  · rename_i l hl
    have ev := str_of s1 q1 hl
    subst ev
    refine ⟨S l, rfl, h1 _ G1 H1 Ext.refl s1 ?_⟩
    intro G2 H2 i a b
    refine ⟨fun d hd => ?_, fun hi => ?_⟩
    · unfold chrs at hd
      rw [List.getElem?_map] at hd
      cases hc : l[i]? with
      | none => rw [hc] at hd; cases hd
      | some c =>
        rw [hc] at hd
        cases hd
        have hi : i < l.length := (List.getElem?_eq_some_iff.mp hc).1
        refine ⟨by show i < l.toArray.size; simpa using hi, fun y H3 ⟨e1, c', h1, h2⟩ => .inl ⟨e1, ?_⟩⟩
        have : l[i]? = some c' := by simpa using h1
        rw [hc] at this; cases this
        simp only [Rp]
        exact h2
    · show l.toArray.size ≤ i
      simpa [chrs] using hi
  · exact h1.elim
def rngs (lo : Int) : Nat → List D
  | 0 => []
  | n + 1 => .int lo :: rngs (lo + 1) n
theorem rngs_get : ∀ (n : Nat) (lo : Int) (i : Nat), (rngs lo n)[i]? = if i < n then some (.int (lo + i)) else none
  | 0, lo, i => by simp [rngs]
  | n + 1, lo, 0 => by simp [rngs]
  | n + 1, lo, i + 1 => by
    show (rngs (lo + 1) n)[i]? = _
    rw [rngs_get n (lo + 1) i]
    by_cases h : i < n
    · rw [if_pos h, if_pos (by omega)]; congr 2; omega
    · rw [if_neg h, if_neg (by omega)]
theorem rngs_len : ∀ (n : Nat) (lo : Int), (rngs lo n).length = n
  | 0, _ => rfl
  | n + 1, lo => by show (rngs (lo + 1) n).length + 1 = n + 1; rw [rngs_len]
def RB (j : Int) : Bool := decide (-(2 ^ 62) ≤ j) && decide (j < 2 ^ 62)
theorem rb_of {j : Int} (h : RB j = true) : -(2 ^ 62) ≤ j ∧ j < 2 ^ 62 := by
  simp only [RB, Bool.and_eq_true, decide_eq_true_eq] at h; exact h
theorem iter_rng (lo : Int) (n : Nat) : IterRep T G (rngs lo n) (Itr lo n) := fun G1 H1 i a b => by
  refine ⟨fun d hd => ?_, fun hi => by rw [rngs_len] at hi; exact hi⟩
  rw [rngs_get] at hd
  split at hd
  · rename_i hi
    cases hd
    exact ⟨hi, fun x H2 ⟨e1, e2⟩ => .inl ⟨e1, by simp only [Rp]; exact e2⟩⟩
  · cases hd
def fRg1 (fa : FA) : Env → R (List D × Env) := fun e => do
  let (ps, e1) ← fa e
  match lookL e1 ps with
  | some [.int j] => if RB j then .ok (rngs 0 j.toNat, e1) else .no
  | _ => .no
def fRg2 (fa : FA) : Env → R (List D × Env) := fun e => do
  let (ps, e1) ← fa e
  match lookL e1 ps with
  | some [.int i, .int j] => if RB i && RB j then .ok (rngs i (j - i).toNat, e1) else .no
  | _ => .no
theorem pk_int {v : V} {i : Int} (h : Pk T G H v (.int i)) : v = .int i := by
  rcases h with h | ⟨p, _, h⟩
  · simp only [Rp] at h; exact h
  · exact h.elim
theorem pk_str {v : V} {l : List Nat} (h : Pk T G H v (.str l)) : v = .str (S l) := by
  rcases h with h | ⟨p, _, h⟩
  · simp only [Rp] at h; exact h
  · exact h.elim
theorem pk_bl {v : V} {b : Bool} (h : Pk T G H v (.bl b)) : v = .bl b := by
  rcases h with h | ⟨p, _, h⟩
  · simp only [Rp] at h; exact h
  · exact h.elim
theorem pk_non {v : V} (h : Pk T G H v .non) : v = .non := by
  rcases h with h | ⟨p, _, h⟩
  · simp only [Rp] at h; exact h
  · exact h.elim
theorem pk_lst {v : V} {ds : List D} (sub : Sub G H) (h : Pk T G H v (.lst ds)) : ∃ a xs, v = .ref a ∧ H a = some (.lst xs) ∧ RpL T G ds xs := by
  rcases h with h | ⟨p, rfl, xs, h1, h2⟩
  · simp only [Rp] at h
    obtain ⟨a, xs, h1, h2, h3⟩ := h
    exact ⟨a, xs, h1, sub _ _ h2, h3⟩
  · exact ⟨p, xs, rfl, h1, h2⟩
theorem pk_tup {v : V} {ds : List D} (sub : Sub G H) (h : Pk T G H v (.tup ds)) : ∃ a xs, v = .ref a ∧ H a = some (.tup xs) ∧ RpL T G ds xs := by
  rcases h with h | ⟨p, rfl, h⟩
  · simp only [Rp] at h
    obtain ⟨a, xs, h1, h2, h3⟩ := h
    exact ⟨a, xs, h1, sub _ _ h2, h3⟩
  · exact h.elim
theorem pk_fro {v : V} {ds : List D} (sub : Sub G H) (h : Pk T G H v (.fro ds)) : ∃ a xs, v = .ref a ∧ SqL T.K H a xs ∧ RpL T G ds xs := by
  rcases h with h | ⟨p, rfl, h⟩
  · simp only [Rp] at h
    obtain ⟨a, xs, h1, h2, h3⟩ := h
    exact ⟨a, xs, h1, sub.seq h2, h3⟩
  · exact h.elim
theorem si_rg1 {tg a : Expr} {ta : TA} {fa : FA} {p : Pos} (hg : Gl X "range") (hm : X.mg "range" = none) (ha : SA T W X [a] ta fa) (hs : starEach [a] X.env = [(false, eval a X.env)] := by rfl) : SI T W X tg (.Call (.Name "range" p) [a] [] pos) (iRng1 ta) (fRg1 fa) := by
  obtain ⟨p0, q⟩ := ha
  refine ⟨pi_range1 hg hm p0 hs, fun Pr A G H σ e Q s h => ?_⟩
  refine q Pr A G H σ e _ s (h.first fun p1 e1 v1 G1 H1 x1 s1 q1 h1 => ?_)
  dsimp only at h1
  split at h1
  · rename_i j hj
    obtain ⟨hb, h1⟩ := if_ok h1
    obtain ⟨v, r, rfl, k1, rfl⟩ := lookL_ok s1 q1 hj
    rw [pk_int k1]
    exact ⟨j, rfl, (rb_of hb).1, (rb_of hb).2, h1 _ G1 H1 Ext.refl s1 (iter_rng 0 _)⟩
  · exact h1.elim
theorem si_rg2 {tg a b : Expr} {ta : TA} {fa : FA} {p : Pos} (hg : Gl X "range") (hm : X.mg "range" = none) (ha : SA T W X [a, b] ta fa) (hs : starEach [a, b] X.env = [(false, eval a X.env), (false, eval b X.env)] := by rfl) (hs2 : starEach [b] X.env = [(false, eval b X.env)] := by rfl) :
    SI T W X tg (.Call (.Name "range" p) [a, b] [] pos) (iRng2 ta) (fRg2 fa) := by
  obtain ⟨p0, q⟩ := ha
  refine ⟨pi_range2 hg hm p0 hs hs2, fun Pr A G H σ e Q s h => ?_⟩
  refine q Pr A G H σ e _ s (h.first fun p1 e1 v1 G1 H1 x1 s1 q1 h1 => ?_)
  dsimp only at h1
  split at h1
  · rename_i i j hj
    obtain ⟨hb, h1⟩ := if_ok h1
    obtain ⟨v, r, rfl, k1, k2⟩ := lookL_ok s1 q1 hj
    obtain ⟨v', r', rfl, k2, rfl⟩ := k2
    rw [pk_int k1, pk_int k2]
    have hb := Bool.and_eq_true_iff.mp hb
    exact ⟨i, j, rfl, ⟨(rb_of hb.1).1, (rb_of hb.1).2, (rb_of hb.2).1, (rb_of hb.2).2⟩, h1 _ G1 H1 Ext.refl s1 (iter_rng i _)⟩
  · exact h1.elim

/-! ### for -/
def loop (g : D → Env → Option Env) (b : FS) : List D → Env → Oc
  | [], e => .nx e
  | d :: r, e => match g d e with
    | none => .no
    | some e1 => match b e1 with
      | .nx e2 => loop g b r e2
      | .ct e2 => loop g b r e2
      | .bk e2 => .nx e2
      | .rt p e2 => .rt p e2
      | .ex c d e2 => .ex c d e2
      | .no => .no
def fFor (g : D → Env → Option Env) (fi : Env → R (List D × Env)) (b : FS) : FS := fun e => toS (fi e) fun (items, e1) => loop g b items e1
theorem ss_for {tg it : Expr} {body : List Stmt} {wi : TI} {t : TG} {is : List Nat} {tb : TS} {g fi fb} (hp : PassesOwn (model X.prog X.w) X.A X.env X.xe) (hc : X.calm = true) (hi : SI T W X tg it wi fi) (hg : STg T X tg t is g) (hb : SSs T W X body tb fb)
    (hs : ∀ x, foldedSetIterable it X.env x = pure x := by intro _; rfl) : SS T W X (.For tg it body [] pos) (tFor wi t tb) (fFor g fi fb) := by
  obtain ⟨pi, qi⟩ := hi
  obtain ⟨pg, qg⟩ := hg
  obtain ⟨pb, qb⟩ := hb
  refine ⟨ps_for hp hc pi pg pb hs, fun Pr A G H σ e D s h => ?_⟩
  refine qi Pr A G H σ e _ s (h.first fun items e1 J G1 H1 x1 s1 rep h1 => ?_)
  dsimp only at h1
  refine ⟨fun i m σ H => m = items.length - i ∧ i ≤ items.length ∧ ∃ G2 e2, Ext Pr G1 G2 ∧ SR ⟨T, Pr, A⟩ G2 H σ e2 ∧ OkS ⟨T, Pr, A⟩ W G2 D (loop g fb (items.drop i) e2), ⟨_, rfl, Nat.zero_le _, G1, e1, Ext.refl, s1, h1⟩, ?_⟩
  rintro i m σ H ⟨rfl, hi, G2, e2, x2, s2, h2⟩
  by_cases hlt : i < items.length
  · refine .inr ?_
    have hd : items[i]? = some items[i] := List.getElem?_eq_getElem hlt
    have ed : items.drop i = items[i] :: items.drop (i + 1) := List.drop_eq_getElem_cons hlt
    rw [ed] at h2
    simp only [loop] at h2
    obtain ⟨go, yl⟩ := (rep G2 H i x2.1 s2.sub).1 _ hd
    refine ⟨go, fun σ' H' => ∃ G3 e3, Ext Pr G1 G3 ∧ SR ⟨T, Pr, A⟩ G3 H' σ' e3 ∧ OkS ⟨T, Pr, A⟩ W G3 D (loop g fb (items.drop (i + 1)) e3), fun σ' H' ⟨G3, e3, x3, s3, h3⟩ => ⟨_, by omega, rfl, hlt, G3, e3, x3, s3, h3⟩, fun x H3 y => ?_⟩
    obtain ⟨G3, x3, s3, r3⟩ := yr_done s2 (yl x H3 y)
    split at h2
    · exact h2.elim
    · rename_i e4 h4
      refine qg Pr A G3 H3 σ e2 e4 _ x _ s3 r3 h4 fun σ4 s4 _ _ => ?_
      refine qb Pr A G3 H3 σ4 e4 _ s4 ?_
      have h5 := OkS.ext x3 h2
      revert h5
      cases fb e4 with
      | nx e5 => exact fun h5 σ5 G5 H5 x5 s5 => ⟨G5, e5, (x2.trans x3).trans x5, s5, OkS.ext x5 h5⟩
      | ct e5 => exact fun h5 σ5 G5 H5 x5 s5 => ⟨G5, e5, (x2.trans x3).trans x5, s5, OkS.ext x5 h5⟩
      | bk e5 => exact fun h5 => h5
      | rt p e5 => exact fun h5 => h5
      | ex c d e5 => exact fun h5 => h5
      | no => exact fun h5 => h5
  · have ei : i = items.length := by omega
    subst ei
    refine .inl ⟨(rep G2 H _ x2.1 s2.sub).2 (Nat.le_refl _), ?_⟩
    rw [List.drop_length] at h2
    exact h2 σ G2 H Ext.refl s2

/-! ### while -/
def wloop (ft : FT) (b : FS) : Nat → Env → Oc
  | 0, _ => .no
  | n + 1, e => toS (ft e) fun (c, e1) => if c = true then (match b e1 with
      | .nx e2 => wloop ft b n e2
      | .ct e2 => wloop ft b n e2
      | .bk e2 => .nx e2
      | .rt p e2 => .rt p e2
      | .ex c d e2 => .ex c d e2
      | .no => .no) else .nx e1
def fWhile (n : Nat) (ft : FT) (b : FS) : FS := wloop ft b n
theorem ss_while {c : Expr} {body : List Stmt} {tc : TT} {tb : TS} {ft fb} (n : Nat) (hp : PassesOwn (model X.prog X.w) X.A X.env X.xe) (hc : ST T W X c tc ft) (hb : SSs T W X body tb fb) : SS T W X (.While c body [] pos) (tWhile tc tb) (fWhile n ft fb) := by
  obtain ⟨pc, qc⟩ := hc
  obtain ⟨pb, qb⟩ := hb
  refine ⟨ps_while hp pc pb, fun Pr A G H σ e D s h => ?_⟩
  refine ⟨fun m σ H => ∃ G2 e2, Ext Pr G G2 ∧ SR ⟨T, Pr, A⟩ G2 H σ e2 ∧ OkS ⟨T, Pr, A⟩ W G2 D (wloop ft fb m e2), ⟨n, G, e, Ext.refl, s, h⟩, ?_⟩
  rintro m σ H ⟨G2, e2, x2, s2, h2⟩
  cases m with
  | zero => exact h2.elim
  | succ m =>
    simp only [wloop] at h2
    refine qc Pr A G2 H σ e2 _ s2 (h2.first fun b1 e3 v3 G3 H3 x3 s3 q3 h3 => ?_)
    subst q3
    cases v3 with
    | false => exact h3 σ G3 H3 Ext.refl s3
    | true =>
      refine ⟨fun σ' H' => ∃ G4 e4, Ext Pr G G4 ∧ SR ⟨T, Pr, A⟩ G4 H' σ' e4 ∧ OkS ⟨T, Pr, A⟩ W G4 D (wloop ft fb m e4), fun σ' H' q => ⟨m, Nat.lt_succ_self m, q⟩, ?_⟩
      refine qb Pr A G3 H3 σ e3 _ s3 ?_
      simp only [if_true] at h3
      revert h3
      cases fb e3 with
      | nx e5 => exact fun h5 σ5 G5 H5 x5 s5 => ⟨G5, e5, (x2.trans x3).trans x5, s5, OkS.ext x5 h5⟩
      | ct e5 => exact fun h5 σ5 G5 H5 x5 s5 => ⟨G5, e5, (x2.trans x3).trans x5, s5, OkS.ext x5 h5⟩
      | bk e5 => exact fun h5 => h5
      | rt p e5 => exact fun h5 => h5
      | ex c d e5 => exact fun h5 => h5
      | no => exact fun h5 => h5

/-! ### list comprehensions -/
@[simp] def wipeE (e : Env) : List Nat → Env
  | [] => e
  | v :: vs => st (wipeE e vs) v .un
theorem un_set (s : SR F G H σ e) (i : Nat) : SR F G H (σ.set i none) (st e i .un) := by
  have key : ∀ {j : Nat} {x : Sl}, gt (st e i .un) j = x → x ≠ .un → j ≠ i ∧ gt e j = x := fun {j x} h hx => by
    rw [gt_st] at h
    split at h
    · exact absurd h.symm hx
    · rename_i hj
      refine ⟨fun z => hj ⟨z, ?_⟩, h⟩
      rw [z] at h
      exact gt_lt (by rw [h]; exact hx)
  refine ⟨s.prot, s.sub, by rw [st_len, List.length_set]; exact s.len, fun j d' h => ?_, fun j b d' h => ?_, fun j k b d1 b' d2 p h1 h2 z1 z2 => ?_⟩
  · obtain ⟨hj, h⟩ := key h (by intro z; cases z)
    obtain ⟨u, h1, h2⟩ := s.va j d' h
    exact ⟨u, by rw [List.getElem?_set_ne (Ne.symm hj)]; exact h1, h2⟩
  · obtain ⟨hj, h⟩ := key h (by intro z; cases z)
    obtain ⟨p, h1, h2⟩ := s.ce j b d' h
    exact ⟨p, by rw [List.getElem?_set_ne (Ne.symm hj)]; exact h1, h2⟩
  · obtain ⟨hj, h1⟩ := key h1 (by intro z; cases z)
    obtain ⟨hk, h2⟩ := key h2 (by intro z; cases z)
    rw [List.getElem?_set_ne (Ne.symm hj)] at z1
    rw [List.getElem?_set_ne (Ne.symm hk)] at z2
    exact s.dis j k b d1 b' d2 p h1 h2 z1 z2
theorem SR.wipe (s : SR F G H σ e) : ∀ vs : List Nat, SR F G H (wipe σ vs) (wipeE e vs)
  | [] => s
  | v :: vs => un_set (SR.wipe s vs) v
theorem wipe_get (σ : St) : ∀ (vs : List Nat) (j : Nat), (wipe σ vs)[j]? = if j ∈ vs ∧ j < σ.length then some none else σ[j]?
  | [], j => by simp [wipe]
  | v :: vs, j => by
    unfold wipe
    by_cases h : v = j
    · subst h
      by_cases hl : v < σ.length
      · rw [List.getElem?_set_self (by rw [wipe_length]; exact hl), if_pos ⟨List.mem_cons_self, hl⟩]
      · rw [if_neg (fun z => hl z.2), List.getElem?_eq_none (by rw [List.length_set, wipe_length]; omega), List.getElem?_eq_none (by omega)]
    · rw [List.getElem?_set_ne h, wipe_get σ vs j]
      by_cases q : j ∈ vs ∧ j < σ.length
      · rw [if_pos q, if_pos ⟨List.mem_cons_of_mem _ q.1, q.2⟩]
      · rw [if_neg q, if_neg (fun z => q ⟨(List.mem_cons.mp z.1).resolve_left (fun y => h y.symm), z.2⟩)]
theorem wipe_eq {σ2 : St} {vs is : List Nat} (hi : ∀ i ∈ is, i ∈ vs) (h : ∀ j, j ∉ is → σ2[j]? = (wipe σ vs)[j]?) (hl : σ2.length = (wipe σ vs).length) : wipe σ2 vs = wipe σ vs := by
  rw [wipe_length] at hl
  apply List.ext_getElem?
  intro j
  rw [wipe_get, wipe_get, hl]
  by_cases q : j ∈ vs ∧ j < σ.length
  · rw [if_pos q, if_pos q]
  · rw [if_neg q, if_neg q]
    by_cases hj : j ∈ vs
    · have : ¬ j < σ.length := fun z => q ⟨hj, z⟩
      rw [List.getElem?_eq_none (by omega), List.getElem?_eq_none (by omega)]
    · have := h j (fun z => hj (hi j z))
      rw [this, wipe_get, if_neg (fun z => hj z.1)]
abbrev W0 : WX := fun _ _ _ _ => False
def noex {α : Type} : R α → R α
  | .ok a => .ok a
  | _ => .no
@[simp] theorem noex_ok {α : Type} (a : α) : noex (.ok a : R α) = .ok a := rfl
@[simp] theorem noex_no {α : Type} : noex (.no : R α) = .no := rfl
@[simp] theorem noex_ex {α : Type} (c d e) : noex (.ex c d e : R α) = .no := rfl
def STs (T : Tb) (W : WX) (X : Cx) (x : List Expr) (t : TT) (f : FT) : Prop := PTs X x t ∧ ∀ (Pr : Hp) (A : Nat → Option Addr) (G H : Hp) (σ : St) (e : Env) (Q : Bool → Hp → Prop), SR ⟨T, Pr, A⟩ G H σ e → OkE ⟨T, Pr, A⟩ W σ G Q (fun _ _ _ b v => v = b) (f e) → t σ H Q
def fYes : FT := fun e => .ok (true, e)
theorem sts_nil : STs T W X [] tYes fYes := ⟨pts_nil, fun Pr A G H σ e Q s h => h true G H Ext.refl s rfl⟩
theorem sts_one {c : Expr} {tc : TT} {ft : FT} (h : ST T W X c tc ft) : STs T W X [c] tc ft := ⟨pts_one h.1, h.2⟩
def cloop (vs : List Nat) (g : D → Env → Option Env) (ft : FT) (fe : FE) : List D → List D → Env → R (List D × Env)
  | [], acc, e => .ok (acc, e)
  | d :: r, acc, e => do
    let e1 ← R.of (g d (wipeE e vs))
    let (b, e2) ← noex (ft e1)
    if b = true then do
      let (p, e3) ← noex (fe e2)
      let (y, e4) ← settle e3 p
      if acc.length < LIM then cloop vs g ft fe r (acc ++ [y]) e4 else .no
    else cloop vs g ft fe r acc e2
/-- the block's own names have again what they had -/
@[simp] def back (e0 : Env) : List Nat → Env → Env
  | [], e => e
  | v :: vs, e => match gt e0 v with
    | .va d => st (back e0 vs e) v (.va d)
    | _ => st (back e0 vs e) v .un
def fLc (vs : List Nat) (g : D → Env → Option Env) (fi : Env → R (List D × Env)) (ft : FT) (fe : FE) : FE := fun e => do
  let (items, e1) ← fi e
  let (acc, e2) ← cloop vs g ft fe items [] e1
  .ok (.nw (.lst acc), back e1 vs e2)
theorem wipeE_len (e : Env) : ∀ vs : List Nat, (wipeE e vs).length = e.length
  | [] => rfl
  | v :: vs => by show (st _ _ _).length = _; rw [st_len]; exact wipeE_len e vs
theorem gt_un {e : Env} {j : Nat} (h : e.length ≤ j) : gt e j = .un := by
  cases z : gt e j with
  | un => rfl
  | va d => exact absurd (gt_lt (e := e) (n := j) (by rw [z]; intro y; cases y)) (by omega)
  | ce b d => exact absurd (gt_lt (e := e) (n := j) (by rw [z]; intro y; cases y)) (by omega)
theorem gt_wipe : ∀ (vs : List Nat) (e : Env) (j : Nat), gt (wipeE e vs) j = if j ∈ vs then .un else gt e j
  | [], e, j => by simp [wipeE]
  | v :: vs, e, j => by
    show gt (st (wipeE e vs) v .un) j = _
    rw [gt_st, gt_wipe vs e j, wipeE_len]
    by_cases hj : j = v
    · subst hj
      rw [if_pos (List.mem_cons_self)]
      split
      · rfl
      · rename_i q
        split
        · rfl
        · exact gt_un (by omega)
    · rw [if_neg (fun z => hj z.1)]
      by_cases q : j ∈ vs
      · rw [if_pos q, if_pos (List.mem_cons_of_mem _ q)]
      · rw [if_neg q, if_neg (fun z => q ((List.mem_cons.mp z).resolve_left hj))]
theorem back_len (e0 : Env) : ∀ (vs : List Nat) (e : Env), (back e0 vs e).length = e.length
  | [], e => rfl
  | v :: vs, e => by
    unfold back
    split <;> (rw [st_len]; exact back_len e0 vs e)
/-- what stands behind the block: what stood within, or what the block's own names had -/
theorem gt_back (e0 : Env) : ∀ (vs : List Nat) (e : Env) (j : Nat) (x : Sl), gt (back e0 vs e) j = x → (j ∉ vs ∧ gt e j = x) ∨ (j ∈ vs ∧ (x = .un ∨ ∃ d, x = .va d ∧ gt e0 j = .va d))
  | [], e, j, x, h => .inl ⟨by simp, h⟩
  | v :: vs, e, j, x, h => by
    have key : ∀ y : Sl, (y = .un ∨ ∃ d, y = .va d ∧ gt e0 v = .va d) → gt (st (back e0 vs e) v y) j = x → (j ∉ v :: vs ∧ gt e j = x) ∨ (j ∈ v :: vs ∧ (x = .un ∨ ∃ d, x = .va d ∧ gt e0 j = .va d)) := fun y hy k => by
      clear h
      rw [gt_st] at k
      split at k
      · rename_i q
        obtain ⟨rfl, _⟩ := q
        subst k
        exact .inr ⟨List.mem_cons_self, hy⟩
      · rename_i q
        by_cases hj : j = v
        · subst hj
          have : (back e0 vs e).length ≤ j := Nat.le_of_not_lt fun z => q ⟨rfl, z⟩
          rw [gt_un this] at k
          exact .inr ⟨List.mem_cons_self, .inl k.symm⟩
        · rcases gt_back e0 vs e j x k with ⟨a, b⟩ | ⟨a, b⟩
          · exact .inl ⟨fun z => a ((List.mem_cons.mp z).resolve_left hj), b⟩
          · exact .inr ⟨List.mem_cons_of_mem _ a, b⟩
    unfold back at h
    split at h
    · rename_i d hd
      exact key _ (.inr ⟨d, rfl, hd⟩) h
    · exact key _ (.inl rfl) h
theorem SR.prot_new {Pr : Hp} {A : Nat → Option Addr} {D1 : Addr} {o : HO} (s : SR ⟨T, Pr, A⟩ G H σ e) (h : H D1 = none) : SR ⟨T, upd Pr D1 o, A⟩ G (upd H D1 o) σ e := by
  have s1 := s.grow (Sub.new (o := o) h)
  refine ⟨fun a u q => ?_, s1.sub, s1.len, s1.va, fun i b d q => ?_, s1.dis⟩
  · have q : upd Pr D1 o a = some u := q
    by_cases ha : a = D1
    · rw [ha, upd_same] at q; rw [ha, upd_same]; exact q
    · rw [upd_ne ha] at q; rw [upd_ne ha]; exact s.prot a u q
  · obtain ⟨p, h1, h2, h3, h4, h5⟩ := s1.ce i b d q
    refine ⟨p, h1, h2, ?_, h4, h5⟩
    obtain ⟨p', g1, g2, g3, g4, g5⟩ := s.ce i b d q
    rw [h1] at g1; cases g1
    obtain ⟨o', ho'⟩ := g5.here
    show upd Pr D1 o p = none
    rw [upd_ne (fun z => by rw [z, h] at ho'; cases ho')]
    exact h3
theorem SR.prot_upd {Pr : Hp} {A : Nat → Option Addr} {D1 : Addr} {o o' : HO} (s : SR ⟨T, upd Pr D1 o, A⟩ G H σ e) (hg : G D1 = none) : SR ⟨T, upd Pr D1 o', A⟩ G (upd H D1 o') σ e := by
  refine ⟨fun a u q => ?_, fun a u q => ?_, s.len, s.va, fun i b d q => ?_, s.dis⟩
  · have q : upd Pr D1 o' a = some u := q
    by_cases ha : a = D1
    · rw [ha, upd_same] at q; rw [ha, upd_same]; exact q
    · rw [upd_ne ha] at q
      rw [upd_ne ha]
      exact s.prot a u (by show upd Pr D1 o a = _; rw [upd_ne ha]; exact q)
  · rw [upd_ne (fun z => by rw [z, hg] at q; cases q)]
    exact s.sub a u q
  · obtain ⟨p, h1, h2, h3, h4, h5⟩ := s.ce i b d q
    have hp : p ≠ D1 := fun z => by
      have h3' : upd Pr D1 o p = none := h3
      rw [z, upd_same] at h3'; cases h3'
    refine ⟨p, h1, h2, ?_, h4, h5.mono Sub.refl fun u hu => by rw [upd_ne hp]; exact hu⟩
    have h3' : upd Pr D1 o p = none := h3
    show upd Pr D1 o' p = none
    rw [upd_ne hp] at h3' ⊢
    exact h3'
theorem ext_prot {Pr : Hp} {D1 : Addr} {o : HO} (x : Ext (upd Pr D1 o) G G1) (hg : G D1 = none) : Ext Pr G G1 ∧ G1 D1 = none := by
  have key : ∀ a u, G1 a = some u → G a = some u ∨ (a ≠ D1 ∧ Pr a = none) := fun a u q => by
    rcases x.2 a u q with z | z
    · exact .inl z
    · have ha : a ≠ D1 := fun y => by rw [y, upd_same] at z; cases z
      rw [upd_ne ha] at z
      exact .inr ⟨ha, z⟩
  refine ⟨⟨x.1, fun a u q => (key a u q).imp id (·.2)⟩, ?_⟩
  cases q : G1 D1 with
  | none => rfl
  | some u =>
    rcases key D1 u q with z | z
    · rw [hg] at z; cases z
    · exact absurd rfl z.1
theorem noex_of {α β γ : Type} {Q : β → Hp → Prop} {rel : Hp → Hp → Env → α → β → Prop} {x : R γ} {k : γ → R (α × Env)} (h : OkE F W σ G Q rel (noex x >>= k)) : ∃ a, x = .ok a ∧ OkE F W σ G Q rel (k a) := by
  cases x with
  | ok a => exact ⟨a, rfl, h⟩
  | ex c d e => exact h.elim
  | no => exact h.elim
theorem R.assoc {α β γ : Type} (x : R α) (f : α → R β) (g : β → R γ) : (x >>= f) >>= g = x >>= fun a => f a >>= g := by cases x <;> rfl
theorem lc_run {wi : TI} {t : TG} {is vs : List Nat} {tt : TT} {te : TE} {g ft fe} {fi : Env → R (List D × Env)}
    (qi : ∀ (Pr : Hp) (A : Nat → Option Addr) (G H : Hp) (σ : St) (e : Env) (Q : It → Hp → Prop), SR ⟨T, Pr, A⟩ G H σ e → OkE ⟨T, Pr, A⟩ W σ G Q (fun G' _ _ items J => IterRep T G' items J) (fi e) → wi σ H Q)
    (qg : ∀ (Pr : Hp) (A : Nat → Option Addr) (G H : Hp) (σ : St) (e e' : Env) (d : D) (v : V) (Q : St → Hp → Prop), SR ⟨T, Pr, A⟩ G H σ e → Rp T G d v → g d e = some e' → (∀ σ', SR ⟨T, Pr, A⟩ G H σ' e' → (∀ j, j ∉ is → σ'[j]? = σ[j]?) → σ'.length = σ.length → Q σ' H) → t v σ H Q)
    (qt : ∀ (Pr : Hp) (A : Nat → Option Addr) (G H : Hp) (σ : St) (e : Env) (Q : Bool → Hp → Prop), SR ⟨T, Pr, A⟩ G H σ e → OkE ⟨T, Pr, A⟩ W0 σ G Q (fun _ _ _ b v => v = b) (ft e) → tt σ H Q)
    (qe : ∀ (Pr : Hp) (A : Nat → Option Addr) (G H : Hp) (σ : St) (e : Env) (Q : VK), SR ⟨T, Pr, A⟩ G H σ e → OkE ⟨T, Pr, A⟩ W0 σ G Q (rPV ⟨T, Pr, A⟩ σ) (fe e) → te σ H Q)
    (his : ∀ i ∈ is, i ∈ vs) (Pr : Hp) (A : Nat → Option Addr) (G H : Hp) (σ : St) (e : Env) (Q : VK) (s : SR ⟨T, Pr, A⟩ G H σ e) (h : OkE ⟨T, Pr, A⟩ W σ G Q (rPV ⟨T, Pr, A⟩ σ) (fLc vs g fi ft fe e)) : tLc wi t tt te vs σ H Q := by
  refine qi Pr A G H σ e _ s (h.first fun items e1 J G1 H1 x1 s1 rep h1 => ?_)
  intro D1 hD
  have fD := s1.fresh hD
  refine ⟨fun i m H => m = items.length - i ∧ i ≤ items.length ∧ ∃ G2 e2 acc accV, Ext Pr G1 G2 ∧ G2 D1 = none ∧ SR ⟨T, upd Pr D1 (.lst accV), A⟩ G2 H (wipe σ vs) (wipeE e2 vs) ∧ RpL T G2 acc accV ∧
      OkE ⟨T, Pr, A⟩ W σ G2 Q (rPV ⟨T, Pr, A⟩ σ) (cloop vs g ft fe (items.drop i) acc e2 >>= fun (acc, e2) => .ok (.nw (.lst acc), back e1 vs e2)),
    ⟨_, rfl, Nat.zero_le _, G1, e1, [], [], Ext.refl, fD.2.1, (s1.prot_new hD).wipe vs, RpL.nil, h1⟩, ?_⟩
  rintro i m H ⟨rfl, hi, G2, e2, acc, accV, x2, g2, s2, ra, h2⟩
  by_cases hlt : i < items.length
  · refine .inr ?_
    have hd : items[i]? = some items[i] := List.getElem?_eq_getElem hlt
    have ed : items.drop i = items[i] :: items.drop (i + 1) := List.drop_eq_getElem_cons hlt
    rw [ed] at h2
    simp only [cloop, R.assoc] at h2
    obtain ⟨go, yl⟩ := (rep G2 H i x2.1 s2.sub).1 _ hd
    refine ⟨go, fun H' => ∃ G3 e3 acc accV, Ext Pr G1 G3 ∧ G3 D1 = none ∧ SR ⟨T, upd Pr D1 (.lst accV), A⟩ G3 H' (wipe σ vs) (wipeE e3 vs) ∧ RpL T G3 acc accV ∧
      OkE ⟨T, Pr, A⟩ W σ G3 Q (rPV ⟨T, Pr, A⟩ σ) (cloop vs g ft fe (items.drop (i + 1)) acc e3 >>= fun (acc, e2) => .ok (.nw (.lst acc), back e1 vs e2)), fun H' ⟨G3, e3, acc, accV, q⟩ => ⟨_, by omega, rfl, hlt, G3, e3, acc, accV, q⟩, fun x H3 y => ?_⟩
    obtain ⟨G3, x3, s3, r3⟩ := yr_done s2 (yl x H3 y)
    obtain ⟨e4, h4, h5⟩ := of_ok h2
    obtain ⟨⟨b, e5⟩, h6, h7⟩ := noex_of h5
    have y3 := ext_prot x3 g2
    refine qg _ A G3 H3 (wipe σ vs) (wipeE e2 vs) e4 _ x _ s3 r3 h4 fun σ4 s4 k4 l4 => ?_
    have w4 : wipe σ4 vs = wipe σ vs := wipe_eq his k4 l4
    refine ⟨w4, ?_⟩
    refine qt _ A G3 H3 σ4 e4 _ s4 ?_
    rw [h6]
    intro b' G5 H5 x5 s5 eb
    subst eb
    have y5 := ext_prot x5 y3.2
    have h8 := h7.ext (y3.1.trans y5.1)
    dsimp only at h8
    by_cases hb : b' = true
    · rw [if_pos hb]
      rw [if_pos hb] at h8
      rw [R.assoc] at h8
      obtain ⟨⟨p, e6⟩, h9, h10⟩ := noex_of h8
      refine qe _ A G5 H5 σ4 e5 _ s5 ?_
      rw [h9]
      intro v G6 H6 x6 s6 q6
      have y6 := ext_prot x6 y5.2
      have h11 := h10.ext y6.1
      dsimp only at h11
      rw [R.assoc] at h11
      obtain ⟨⟨yd, e7⟩, l7, h12⟩ := no_of (fun _ _ _ => settle_nx) h11
      obtain ⟨G7, x7, s7, r7⟩ := settle_ok s6 q6 l7
      have y7 := ext_prot x7 y6.2
      dsimp only at h12
      have acD : H6 D1 = some (.lst accV) := s6.prot D1 _ upd_same
      have xall : Ext Pr G2 G7 := ((y3.1.trans y5.1).trans y6.1).trans y7.1
      have lim : acc.length < LIM := by
        by_cases q : acc.length < LIM
        · exact q
        · rw [if_neg q] at h12; exact h12.elim
      rw [if_pos lim] at h12
      refine ⟨accV, acD, by rw [RpL.length ra]; exact Nat.lt_of_lt_of_le lim lim_le, G7, e7, acc ++ [yd], accV ++ [v], x2.trans xall, y7.2, ?_, (RpL.mono xall.1 _ _ ra).append (RpL.cons r7 RpL.nil), h12.ext y7.1⟩
      have s8 := (s7.prot_upd (o' := .lst (accV ++ [v])) y7.2).wipe vs
      rw [w4] at s8
      exact s8
    · rw [if_neg hb]
      rw [if_neg hb] at h8
      have s8 := s5.wipe vs
      rw [w4] at s8
      have xall : Ext Pr G2 G5 := y3.1.trans y5.1
      exact ⟨G5, e5, acc, accV, x2.trans xall, y5.2, s8, RpL.mono xall.1 _ _ ra, h8⟩
  · have ei : i = items.length := by omega
    subst ei
    refine .inl ⟨(rep G2 H _ x2.1 s2.sub).2 (Nat.le_refl _), ?_⟩
    rw [List.drop_length] at h2
    have h2 : OkE ⟨T, Pr, A⟩ W σ G2 Q (rPV ⟨T, Pr, A⟩ σ) (.ok (.nw (.lst acc), back e1 vs e2)) := h2
    have acD : H D1 = some (.lst accV) := s2.prot D1 _ upd_same
    have prD : ∀ {a : Addr}, upd Pr D1 (.lst accV) a = none → a ≠ D1 ∧ Pr a = none := fun {a} z => by
      have ha : a ≠ D1 := fun y => by rw [y, upd_same] at z; cases z
      rw [upd_ne ha] at z
      exact ⟨ha, z⟩
    have sg : ∀ {j : Nat} {o : Option V}, j ∉ vs → (wipe σ vs)[j]? = some o → σ[j]? = some o := fun {j o} hj q => by
      rw [wipe_get, if_neg (fun z => hj z.1)] at q; exact q
    have cell : ∀ {j : Nat} {b : Bool} {d : D}, gt (back e1 vs e2) j = .ce b d → j ∉ vs ∧ gt (wipeE e2 vs) j = .ce b d := fun {j b d} q => by
      rcases gt_back e1 vs e2 j _ q with ⟨a, z⟩ | ⟨a, z | ⟨d', z, _⟩⟩
      · exact ⟨a, by rw [gt_wipe, if_neg a]; exact z⟩
      · cases z
      · cases z
    have sw : ∀ {j : Nat} {v : V}, j ∉ vs → σ[j]? = some (some v) → (wipe σ vs)[j]? = some (some v) := fun {j v} hj q => by
      rw [wipe_get, if_neg (fun z => hj z.1)]; exact q
    refine h2 (.ref D1) G2 H Ext.refl ⟨fun a u q => ?_, s2.sub, ?_, fun j d q => ?_, fun j b d q => ?_, fun j k b d b' d' p q1 q2 z1 z2 => ?_⟩ ⟨D1, rfl, fD.1, g2, fun j b d q z => ?_, accV, acD, ra⟩
    · have ha : a ≠ D1 := fun y => by
        have fd := fD.1
        rw [y] at q
        have q' : Pr D1 = some u := q
        have fd' : Pr D1 = none := fd
        rw [fd'] at q'; cases q'
      exact s2.prot a u (by show upd Pr D1 _ a = _; rw [upd_ne ha]; exact q)
    · have := s2.len
      rw [wipeE_len, wipe_length] at this
      rw [back_len]; exact this
    · rcases gt_back e1 vs e2 j _ q with ⟨a, z⟩ | ⟨a, z | ⟨d', z, z2⟩⟩
      · obtain ⟨v, y1, y2⟩ := s2.va j d (by rw [gt_wipe, if_neg a]; exact z)
        exact ⟨v, sg a y1, y2⟩
      · cases z
      · cases z
        obtain ⟨v, y1, y2⟩ := s1.va j d z2
        exact ⟨v, y1, Rp.mono x2.1 _ _ y2⟩
    · obtain ⟨a, z⟩ := cell q
      obtain ⟨p, y1, y2, y3, y4, y5⟩ := s2.ce j b d z
      exact ⟨p, sg a y1, y2, (prD y3).2, y4, y5⟩
    · obtain ⟨a, z⟩ := cell q1
      obtain ⟨a', z'⟩ := cell q2
      exact s2.dis j k b d b' d' p z z' (sw a z1) (sw a' z2)
    · obtain ⟨a, z'⟩ := cell q
      obtain ⟨p, y1, y2, y3, y4, y5⟩ := s2.ce j b d z'
      rw [sw a z] at y1; cases y1
      exact (prD y3).1 rfl
def s00 : Shared := { heap := {}, gens := #[], drawn := {}, toks := 0, os := {} }
theorem se_lc {elt tg iter : Expr} {ifs : List Expr} {scope : Scope} {own : List (Str × Nat)} {wi : TI} {t : TG} {is : List Nat} {tt : TT} {te : TE} {g fi ft fe} (hc : X.calm = true) (hN : X.N.Nodup) (hi : SI T W X tg iter wi fi) (ok : BlkOk X.N X.env.scope scope own)
    (hg : ∀ (s : Shared) (H : Hp) (C : Addr) (cl : List (Str × Addr)) (fp : List Addr), STg T (X.blk s H scope (compEnvC scope cl C X.env) fp) tg t is g) (ht : ∀ (s : Shared) (H : Hp) (C : Addr) (cl : List (Str × Addr)) (fp : List Addr), STs T W0 (X.blk s H scope (compEnvC scope cl C X.env) fp) ifs tt ft)
    (he : ∀ (s : Shared) (H : Hp) (C : Addr) (cl : List (Str × Addr)) (fp : List Addr), SE T W0 (X.blk s H scope (compEnvC scope cl C X.env) fp) elt te fe) (his : ∀ i ∈ is, i ∈ own.map (·.2) := by decide) (hs : ∀ x, foldedSetIterable iter X.env x = pure x := by intro _; rfl) :
    SE T W X (.ListComp elt [⟨tg, iter, ifs, 0⟩] scope pos) (tLc wi t tt te (own.map (·.2))) (fLc (own.map (·.2)) g fi ft fe) :=
  ⟨pe_lc hc hN hi.1 ok (fun s H C cl fp => (hg s H C cl fp).1) (fun s H C cl fp => (ht s H C cl fp).1) (fun s H C cl fp => (he s H C cl fp).1) hs,
    lc_run hi.2 (hg s00 (fun _ => none) 0 [] []).2 (ht s00 (fun _ => none) 0 [] []).2 (he s00 (fun _ => none) 0 [] []).2 his⟩
theorem ss_setLc {i : Nat} {y : Str} {py : Pos} {elt tg iter : Expr} {ifs : List Expr} {scope : Scope} {own : List (Str × Nat)} {spos : Pos} {wi : TI} {t : TG} {is : List Nat} {tt : TT} {te : TE} {g fi ft fe} (hc : X.calm = true) (hN : X.N.Nodup) (hy : X.N[i]? = some y) (hyl : X.env.scope.names.lookup y = some .local)
    (hsw : swapsWith (.ListComp elt [⟨tg, iter, ifs, 0⟩] scope pos) (some (.Name y py)) spos.line X.env = pure true) (hi : SI T W X tg iter wi fi) (ok : BlkOk X.N X.env.scope scope own)
    (hg : ∀ (s : Shared) (H : Hp) (C : Addr) (cl : List (Str × Addr)) (fp : List Addr), STg T (X.blk s H scope (compEnvC scope cl C X.env) fp) tg t is g) (ht : ∀ (s : Shared) (H : Hp) (C : Addr) (cl : List (Str × Addr)) (fp : List Addr), STs T W0 (X.blk s H scope (compEnvC scope cl C X.env) fp) ifs tt ft)
    (he : ∀ (s : Shared) (H : Hp) (C : Addr) (cl : List (Str × Addr)) (fp : List Addr), SE T W0 (X.blk s H scope (compEnvC scope cl C X.env) fp) elt te fe) (his : ∀ i ∈ is, i ∈ own.map (·.2) := by decide) (hs : ∀ x, foldedSetIterable iter X.env x = pure x := by intro _; rfl) :
    SS T W X (.Assign [.Name y py] (.ListComp elt [⟨tg, iter, ifs, 0⟩] scope pos) spos) (tAsg (tLc wi t tt te (own.map (·.2))) (gName i)) (fSet i (fLc (own.map (·.2)) g fi ft fe)) := by
  have P := ps_setLc hc hN hy hyl hsw hi.1 ok (fun s H C cl fp => (hg s H C cl fp).1) (fun s H C cl fp => (ht s H C cl fp).1) (fun s H C cl fp => (he s H C cl fp).1) hs
  have L := se_lc (pos := pos) hc hN hi ok hg ht he his hs
  refine ⟨P, fun Pr A G H σ e D s h => ?_⟩
  refine L.2 Pr A G H σ e _ s (h.first fun p1 e1 v1 G1 H1 x1 s1 q1 h1 => ?_)
  dsimp only [putO] at h1
  split at h1
  · rename_i e2 h2
    obtain ⟨G2, x2, s2⟩ := put_ok s1 q1 h2
    exact h1 _ G2 H1 x2 s2
  · exact h1.elim
end
end DL
set_option Elab.async false
set_option linter.all false
set_option maxRecDepth 100000
set_option maxHeartbeats 4000000
namespace DL
open PySem PySem.Spec PyProof.Rows L2

/-! ### defs, where no repr is under way -/
structure FnG (P : Program) (w : World) (K : PySem.W.Frag) (mg : Str → Option Value) (base : Heap) (k : Nat) (f : Addr) (fd : FuncData) (ps : List Str) (sp : Sp) : Prop where
  many : ∀ xs H Q E, sp xs H Q E → xs.length = ps.length
  go : ∀ (A : Around) (below : List PySem.Env) (sh : Shared) (H : Hp) (as : Args) (us : List Value) (xs : List V) (Q : VK) (E : XK), Room k A → A.guards = some [] → Env0 P w K mg base A below sh H → BindsTo sh fd as (ps.zip us) → Vals xs us → sp xs H Q E →
    codeAny (model P w) A (.call (.ref f) as) (CR (L2.CX P w) below P w H sh Q E) sh
section
variable {P : Program} {w : World} {K : PySem.W.Frag} {mg : Str → Option Value} {base : Heap}
theorem FnG.up {j k : Nat} {f : Addr} {fd : FuncData} {ps : List Str} {sp : Sp} (F : FnG P w K mg base j f fd ps sp) (h : j ≤ k) : FnG P w K mg base k f fd ps sp :=
  ⟨F.many, fun A below sh H as us xs Q E room => F.go A below sh H as us xs Q E (room.mono h)⟩
/-- a def by its body -/
theorem fng_of {x qual : Str} {sd : Stmt} {f : Addr} {fd : FuncData} {N ps : List Str} {k : Nat} {sp : Sp} (F : Fun K x qual sd f fd) (S : FnScope N ps (defScope sd)) (many : ∀ xs H Q E, sp xs H Q E → xs.length = ps.length)
    (body : ∀ (cdv : Value) (A : Around) (below : List PySem.Env) (sh : Shared) (H : Hp) (xs : List V) (Q : VK) (E : XK), Room k (A.deeper (envOfC qual (defScope sd) sh.heap.objs.size f cdv)) → A.guards = some [] → sp xs H Q E →
      ∃ t, PSs (cxOf (L2.CX P w) P w K mg base N qual (defScope sd) f cdv A below sh H E) (defBody sd) t ∧ t { nx := fun _ H' => Q .non H', rt := Q } (L2.start N xs) H) : FnG P w K mg base (k + 1) f fd ps sp := by
  obtain ⟨oc, od, kV, doc, pm, an, cdv, ct, osl, rfl, lk, hcode⟩ := F.ex
  refine ⟨many, fun A below sh H as us xs Q E room gd e0 bound vals want => ?_⟩
  have long := many _ _ _ _ want
  have kin : K.In sh.heap := e0.mod.kin.keeps fun a o z => (e0.bs a o z).1
  have nolim : sh.heap.NoLimit := e0.mod.nolimit.keeps fun a o z => (e0.bs a o z).1
  have kinds : ∀ q ∈ ps.zip us, (defScope sd).names.lookup q.1 = some .local ∨ ((defScope sd).names.lookup q.1 = some .cell ∧ ((cellsFrom (sh.heap.objs.size + 1) (defScope sd).names []).lookup q.1).isSome = true) := fun ⟨n, v⟩ hq => by
    rcases S.par n (List.of_mem_zip hq).1 with z | z
    · exact .inl z
    · exact .inr ⟨z, PySem.W.cellsFrom_some _ _ _ (.inl z)⟩
  refine codeAny_call_function room.depth (kin _ _ lk) rfl S.co S.gen rfl (PySem.W.codeRec_of kin hcode) (bound _ _ _ _ ?_)
  refine wpAny_newFunctionEnv_cells S.kind kinds fun env same s1 called => ?_
  subst same
  refine ⟨nolim.keeps called.toInCall.keep, codeAny_func ?_⟩
  obtain ⟨t, reads, runs⟩ := body cdv A below sh H xs Q E (room.deeper _) gd want
  have I := inv_start (CX := L2.CX P w) (E := E) S room.hd e0 long vals called
  refine wpAny_mono (reads.run [] s1 (L2.start N xs) H _ I runs) (fun fl s' z => ?_) fun e s' z => z
  have done : ∀ {σ' : L2.St} {H' : Hp} {v : V} {u : Value}, Inv (cxOf (L2.CX P w) P w K mg base N qual (defScope sd) f cdv A below sh H E) [] σ' H' s' → RelV v u → Q v H' → CE below P w H sh Q u s' :=
    fun {σ' H' v u} J rv q => ⟨v, H', J.os, J.bare, J.base, J.hok, rv, q⟩
  cases fl with
  | next =>
    obtain ⟨σ', H', J, q⟩ := z
    exact done (v := .non) (u := .none) J rfl q
  | ret u =>
    obtain ⟨v, σ', H', J, rv, q⟩ := z
    exact done J rv q
  | brk => obtain ⟨_, _, _, q⟩ := z; exact q.elim
  | cont => obtain ⟨_, _, _, q⟩ := z; exact q.elim
end

/-! ### calls of such defs -/
section
variable {X : Cx} {k : Nat} {f : Addr} {fd : FuncData} {ps : List Str} {sp : Sp} {E : L2.St → XK} {x : Str} {p pos : Pos} {e : Expr} {es : List Expr} {t : TA}
/-- us the positional values, ws those of the keywords ks -/
structure Bd (K : PySem.W.Frag) (fd : FuncData) (ps ks : List Str) (n : Nat) (g : List Value → List Value) (gV : List V → List V) : Prop where
  to : ∀ (sh : Shared) (us ws : List Value), K.In sh.heap → us.length = n → ws.length = ks.length → BindsTo sh fd ⟨us, ks.zip ws⟩ (ps.zip (g (us ++ ws)))
  rel : ∀ {xs : List V} {us : List Value}, Vals xs us → Vals (gV xs) (g us)
def tCallG (n : Nat) (sp : Sp) (gV : List V → List V) (E : L2.St → XK) (t : TA) : TE := fun σ H Q => t σ H fun xs H1 => xs.length = n ∧ sp (gV xs) H1 Q (E σ)
theorem run_fng {n : Nat} {ks : List Str} {g : List Value → List Value} {gV : List V → List V} {pins : List (Addr × Obj)} {σ : L2.St} {H : Hp} {s : Shared} {Q : VK} {us ws : List Value} {xs : List V} (F : FnG X.prog X.w X.K X.mg X.base k f fd ps sp) (hr : Room k X.A) (gd : X.A.guards = some []) (hb : Bd X.K fd ps ks n g gV)
    (hx : PassesAt (L2.CX X.prog X.w) X σ (E σ)) (I : Inv X pins σ H s) (lu : us.length = n) (lw : ws.length = ks.length) (r : Vals xs (us ++ ws)) (h : sp (gV xs) H Q (E σ)) : wpAny (model X.prog X.w) X.A (call (.ref f) us (ks.zip ws)) (EP X pins σ Q) X.xe s := by
  refine wpAny_call (codeAny_mono (F.go X.A X.stack s H ⟨us, ks.zip ws⟩ (g (us ++ ws)) (gV xs) Q (E σ) hr gd I.env0 (hb.to s us ws I.kIn lu lw) (hb.rel r) h) fun r s' z => ?_)
  cases r with
  | error e => exact hx pins H s e s' I z
  | ok fl =>
    cases fl with
    | next => exact z.elim
    | brk => exact z.elim
    | cont => exact z.elim
    | ret u => exact I.after z
/-- f(e, ..) -/
theorem pe_callG {n : Nat} {g : List Value → List Value} {gV : List V → List V} (F : FnG X.prog X.w X.K X.mg X.base k f fd ps sp) (hr : Room k X.A) (gd : X.A.guards = some []) (hg : Gl X x) (hm : X.mg x = some (.ref f)) (hk : PySem.W.keepIn X.K (.ref f) = true) (hb : Bd X.K fd ps [] n g gV)
    (hx : ∀ σ, PassesAt (L2.CX X.prog X.w) X σ (E σ)) (ha : PA X (e :: es) t) (hdb : (x == ("__debug__" : Str)) = false := by decide) (he : starEach (e :: es) X.env = (false, eval e X.env) :: starEach es X.env := by rfl) (hpl : (backTo pos (starEach es X.env)).any (·.1) = false := by rfl) :
    PE X (.Call (.Name x p) (e :: es) [] pos) (tCallG n sp gV E t) := by
  refine ⟨fun pins s σ H Q I want => ?_⟩
  refine wpAny_Call_Name_kw (ld_glob I hg hm ?_ hdb)
  refine PySem.W.callWith_K (h₀ := X.base) I.ok.mod.kin hk (thn (ha.run pos pins s σ H _ I want) fun us s1 ⟨xs, H1, I1, r, l, q⟩ => ⟨I1.kIn, ?_⟩) he hpl
  exact run_fng (ws := []) F hr gd hb (hx σ) I1 (r.length.symm.trans l) rfl (by rw [List.append_nil]; exact r) q
/-- f() -/
theorem pe_callG0 {g : List Value → List Value} {gV : List V → List V} (F : FnG X.prog X.w X.K X.mg X.base k f fd ps sp) (hr : Room k X.A) (gd : X.A.guards = some []) (hg : Gl X x) (hm : X.mg x = some (.ref f)) (hk : PySem.W.keepIn X.K (.ref f) = true) (hb : Bd X.K fd ps [] 0 g gV)
    (hx : ∀ σ, PassesAt (L2.CX X.prog X.w) X σ (E σ)) (hdb : (x == ("__debug__" : Str)) = false := by decide) : PE X (.Call (.Name x p) [] [] pos) (tCallG 0 sp gV E tNil) := by
  refine ⟨fun pins s σ H Q I want => ?_⟩
  refine wpAny_Call_Name_kw (ld_glob I hg hm ?_ hdb)
  exact PySem.W.callWith_K0 I.kIn hk (run_fng (us := []) (ws := []) F hr gd hb (hx σ) I rfl rfl .nil want.2)
/-- the positional arguments, then the keywords' -/
def tApp (t u : TA) : TA := fun σ H Q => t σ H fun xs H1 => u σ H1 fun ys H2 => Q (xs ++ ys) H2
variable {kws : List Keyword} {tk : TA} {ks : List Str}
/-- f(e, .., k = v, ..); l: as many positional values as there are -/
theorem pe_callGk {n : Nat} {g : List Value → List Value} {gV : List V → List V} (F : FnG X.prog X.w X.K X.mg X.base k f fd ps sp) (hr : Room k X.A) (gd : X.A.guards = some []) (hg : Gl X x) (hm : X.mg x = some (.ref f)) (hk : PySem.W.keepIn X.K (.ref f) = true) (hb : Bd X.K fd ps ks n g gV)
    (hx : ∀ σ, PassesAt (L2.CX X.prog X.w) X σ (E σ)) (ha : PA X (e :: es) t) (hkw : PK X kws tk) (hall : (backToKw pos (keywordEach kws X.env)).all (·.1.isSome) = true := by rfl) (hks : (backToKw pos (keywordEach kws X.env)).filterMap (·.1) = ks := by rfl)
    (hdb : (x == ("__debug__" : Str)) = false := by decide) (he : starEach (e :: es) X.env = (false, eval e X.env) :: starEach es X.env := by rfl)
    (hpl : ((backTo pos (starEach (e :: es) X.env)).any (·.1) || (backToKw pos (keywordEach kws X.env)).any (·.1.isNone)) = false := by rfl) :
    PE X (.Call (.Name x p) (e :: es) kws pos) (fun σ H Q => t σ H fun xs H1 => tk σ H1 fun ys H2 => xs.length = n ∧ ys.length = ks.length ∧ sp (gV (xs ++ ys)) H2 Q (E σ)) := by
  refine ⟨fun pins s σ H Q I want => ?_⟩
  refine wpAny_Call_Name_kw (ld_glob I hg hm ?_ hdb)
  refine PySem.W.callWith_KW (h₀ := X.base) I.ok.mod.kin hk hall (thn (ha.run pos pins s σ H _ I want) fun us s1 ⟨xs, H1, I1, r, q⟩ => ?_) hpl he
  refine thn (hkw.run pos pins s1 σ H1 _ I1 q) fun ws s2 ⟨ys, H2, I2, r2, l1, l2, q2⟩ => ⟨I2.kIn, ?_⟩
  rw [hks]
  exact run_fng F hr gd hb (hx σ) I2 (r.length.symm.trans l1) (r2.length.symm.trans l2) (r.append r2) q2
/-- f(k = v, ..) -/
theorem pe_callGk0 {g : List Value → List Value} {gV : List V → List V} (F : FnG X.prog X.w X.K X.mg X.base k f fd ps sp) (hr : Room k X.A) (gd : X.A.guards = some []) (hg : Gl X x) (hm : X.mg x = some (.ref f)) (hk : PySem.W.keepIn X.K (.ref f) = true) (hb : Bd X.K fd ps ks 0 g gV)
    (hx : ∀ σ, PassesAt (L2.CX X.prog X.w) X σ (E σ)) (hkw : PK X kws tk) (hall : (backToKw pos (keywordEach kws X.env)).all (·.1.isSome) = true := by rfl) (hks : (backToKw pos (keywordEach kws X.env)).filterMap (·.1) = ks := by rfl)
    (hdb : (x == ("__debug__" : Str)) = false := by decide)
    (hpl : ((backTo pos (starEach [] X.env)).any (·.1) || (backToKw pos (keywordEach kws X.env)).any (·.1.isNone)) = false := by rfl) :
    PE X (.Call (.Name x p) [] kws pos) (tCallG ks.length sp gV E tk) := by
  refine ⟨fun pins s σ H Q I want => ?_⟩
  refine wpAny_Call_Name_kw (ld_glob I hg hm ?_ hdb)
  refine PySem.W.callWith_KW0 (h₀ := X.base) I.ok.mod.kin hk hall (thn (hkw.run pos pins s σ H _ I want) fun ws s1 ⟨ys, H1, I1, r, l, q⟩ => ⟨I1.kIn, ?_⟩) hpl
  rw [hks]
  exact run_fng (us := []) F hr gd hb (hx σ) I1 rfl (r.length.symm.trans l) r q
/-- every parameter is given by its place -/
theorem Bd.all {K : PySem.W.Frag} {fd : FuncData} {ps : List Str} {n : Nat} (hn : n = ps.length) (h : ∀ us : List Value, us.length = ps.length → bindArgs fd ⟨us, []⟩ = pure (ps.zip us)) : Bd K fd ps [] n id id where
  to := fun sh us ws _ l1 l2 => by
    have : ws = [] := List.length_eq_zero_iff.mp l2
    subst this
    rw [List.append_nil]
    exact .of_eq (h us (l1.trans hn))
  rel := fun r => r
/-- with defaults behind -/
theorem Bd.dfl {K : PySem.W.Frag} {fd : FuncData} {ps : List Str} {ds : List Value} {dvs : List V} {n : Nat} (hn : n + ds.length = ps.length) (h : Binds K fd ps ds) (hd : Vals dvs ds) : Bd K fd ps [] n (· ++ ds) (· ++ dvs) where
  to := fun sh us ws kin l1 l2 => by
    have : ws = [] := List.length_eq_zero_iff.mp l2
    subst this
    rw [List.append_nil]
    exact h sh us kin (by rw [List.length_append, l1]; exact hn)
  rel := fun r => r.append hd
end

/-! ### the law's own def at the head -/
theorem head_call {P : Program} {w : World} {K : PySem.W.Frag} {mg mb : Str → Option Value} {k : Nat} {fa a : Addr} {fd : FuncData} {x : Str} {sp : Sp} {s₁ : Shared} {vs : List Value} {ns : List Int}
    (kin : K.In s₁.heap) (main : s₁.heap.Ns mainGlobals mg) (blt : s₁.heap.Ns builtinsNs mb) (boot : ∀ x : Str, x ≠ "__name__" → mb x = bootBuiltins x) (nolim : s₁.heap.NoLimit) (nogen : s₁.gens = #[])
    (obj : s₁.heap.get? a = some { cls := .type "list", data := .seq vs.toArray }) (numb : IntsAre vs ns) (few : ns.length ≤ sizeLine) (room : Room k callerA)
    (F : ∀ base : Heap, K.In base → base.Ns mainGlobals mg → FnG P w K mg base k fa fd [x] sp) (bound : ∀ (s : Shared) (u : Value), BindsTo s fd ⟨[u], []⟩ [(x, u)])
    (want : ∀ H : Hp, Only H → SqL K H a (ns.map V.int) → sp [.ref a] H (fun v _ => v = .bl true) fun _ _ _ => False) :
    codeAny (model P w) callerA (.call (.ref fa) ⟨[.ref a], []⟩) (fun r s' => r = .ok (.ret (.bool true)) ∧ OldK s₁.heap s'.heap ∧ s'.os = s₁.os ∧ AllBare s'.gens) s₁ := by
  have vals := vals_ints numb
  have many := numb.length
  have core : ∀ H : Hp, Only H → SqL K H a (ns.map V.int) → HOk P w H s₁.heap → (∀ b, H b ≠ none → b = a) → (H a ≠ none → K.lookup a = none) →
      codeAny (model P w) callerA (.call (.ref fa) ⟨[.ref a], []⟩) (fun r s' => r = .ok (.ret (.bool true)) ∧ OldK s₁.heap s'.heap ∧ s'.os = s₁.os ∧ AllBare s'.gens) s₁ := by
    intro H only seq lies one own
    have keep : ∀ {b : Addr} {o : Obj}, s₁.heap.get? b = some o → H b = none → (hidT s₁.heap H).get? b = some o := fun z n => hidT_get z n
    have dicts : ∀ {b : Addr} {o : Obj} {es : Array DictEntry} {ep : Nat}, s₁.heap.get? b = some o → o.data = .dict es ep → H b = none := fun {b o es ep} z d => by
      cases y : H b with
      | none => rfl
      | some u =>
        have same : b = a := one b (by rw [y]; simp)
        subst same
        rw [obj] at z; cases z
        have d' : Data.seq vs.toArray _ = Data.dict es ep := d
        cases d'
    have spaces : ∀ {b : Addr} {m : Str → Option Value}, s₁.heap.Ns b m → (hidT s₁.heap H).Ns b m := fun {b m} ⟨o, es, ep, z, d, r⟩ => ⟨o, es, ep, keep z (dicts z d), d, r⟩
    have kin' : K.In (hidT s₁.heap H) := fun b o z => keep (kin b o z) (by
      cases y : H b with
      | none => rfl
      | some u =>
        have same : b = a := one b (by rw [y]; simp)
        subst same
        rw [own (by rw [y]; simp)] at z; cases z)
    have mod : Mod K mg (hidT s₁.heap H) := ⟨kin', spaces main, ⟨mb, spaces blt, boot⟩, let ⟨mc, h1, h2⟩ := nolim; ⟨mc, spaces h1, h2⟩⟩
    have e0 : Env0 P w K mg (hidT s₁.heap H) callerA [] s₁ H := ⟨rfl, mod, fun b o z => of_hidT z, Nat.le_of_eq (hidT_size _ _), trivial, fun b z => absurd (show b ∈ ([] : List Addr) from z) (by simp), lies, .of_eq nogen⟩
    refine codeAny_mono ((F _ kin' (spaces main)).go callerA [] s₁ H ⟨[.ref a], []⟩ [.ref a] [.ref a] _ _ room rfl e0 (bound s₁ (.ref a)) (.cons rfl .nil) (want H only seq)) fun r s' z => ?_
    cases r with
    | error e =>
      obtain ⟨_, _, _, _, _, _, _, _, _, _, _, _, y⟩ := z
      exact y.elim
    | ok fl =>
      cases fl with
      | next => exact z.elim
      | brk => exact z.elim
      | cont => exact z.elim
      | ret u =>
        obtain ⟨v, H', os, bare, un, lies', rv, q⟩ := z
        have q : v = .bl true := q
        subst q
        obtain rfl : u = Value.bool true := rv
        refine ⟨rfl, OldK.of_keep fun b o z => ?_, os, bare⟩
        cases y : H b with
        | none => exact un.keep b o z y (by intro c; exact absurd (show b ∈ ([] : List Addr) from c) (by simp)) (by simp)
        | some u =>
          rcases only b with c | ⟨ob, xs, c⟩
          · rw [y] at c; cases c
          · have c2 := un.frzs b ob _ c
            obtain ⟨e1, _⟩ := lies b _ c
            obtain ⟨e2, _⟩ := lies' b _ c2
            rw [z] at e1; cases e1
            exact e2
  cases own : K.lookup a with
  | some o =>
    have z := kin a o own
    rw [obj] at z
    cases z
    exact core (fun _ => none) (fun _ => .inl rfl) (.inr ⟨_, vs.toArray, _, own, rfl, rfl, rfl, by rw [List.size_toArray, many]; exact few, by simpa using vals⟩) (fun b u y => by
      have y : (none : Option HO) = some u := y
      cases y) (fun b y => absurd rfl y) fun y => absurd rfl y
  | none =>
    refine core (fun b => if b = a then some (.frz { cls := .type "list", data := .seq vs.toArray } (.lst (ns.map V.int))) else none) (fun b => ?_) (.inl (.inr ⟨{ cls := .type "list", data := .seq vs.toArray }, if_pos rfl⟩)) (fun b u y => ?_) (fun b y => ?_) fun _ => own
    · rcases Decidable.em (b = a) with same | other
      · exact .inr ⟨_, _, if_pos same⟩
      · exact .inl (if_neg other)
    · rcases Decidable.em (b = a) with same | other
      · have c := (if_pos same).symm.trans y
        cases c
        subst same
        exact ⟨obj, by rw [List.length_map]; exact few, vs, _, vals, obj⟩
      · have c := (if_neg other).symm.trans y
        cases c
    · rcases Decidable.em (b = a) with same | other
      · exact same
      · exact absurd (if_neg other) y
/-- what the head leaves, from the promise of the law's def -/
theorem walk_g {l : PySem.W.OpenLaw} {n k : Nat} {q : Program} {loose : List Str} {XP : (Str → Option Value) → Heap → Prop} {YP : World → Heap → Prop} {d : DefRec} {K : Params → PySem.W.Frag} {sp : PySem.W.Frag → Sp} {x : Str}
    (most : l.most = some n) (few : n ≤ sizeLine) (nodef : d.params.defaults = []) (room : Room k callerA) (hY : ∀ (w : World) (h : Heap), YP w h → (K w.params).In h)
    (F : ∀ (w : World) (mg : Str → Option Value) (fa : Addr) (h : Heap), (K w.params).In h → h.Ns mainGlobals mg → mg d.name = some (.ref fa) →
      ∃ fd : FuncData, (∀ (s : Shared) (u : Value), BindsTo s fd ⟨[u], []⟩ [(x, u)]) ∧ ∀ base : Heap, (K w.params).In base → base.Ns mainGlobals mg → FnG l.prog w (K w.params) mg base k fa fd [x] (sp (K w.params)))
    (want : ∀ (K : PySem.W.Frag) (H : Hp) (a : Addr) (ns : List Int), ns.length ≤ n → (∀ z ∈ ns, Builtin.Int.intBits z ≤ 1048576) → Only H → SqL K H a (ns.map V.int) → sp K [.ref a] H (fun v _ => v = .bl true) fun _ _ _ => False) :
    PySem.W.WalkO q loose XP YP l.row.toRowW d [] (fun f vs => PySem.call f vs) := by
  refine Att.attach_callB most nodef fun w s₀ s₁ mg mb fa o pm cd doc a vs ns G Y ho hd hcd hmg hobj hints hlen hbits hg => ?_
  have kin := hY w _ Y
  obtain ⟨fd, hb, hF⟩ := F w mg fa _ kin G.T.g hmg
  exact head_call kin G.T.g G.T.b G.T.builtins G.T.nolimit hg hobj hints (Nat.le_trans hlen few) room hF hb fun H only seq => want _ H a ns hlen hbits only seq
end DL
set_option Elab.async false
set_option linter.all false
set_option maxRecDepth 100000
set_option maxHeartbeats 4000000
namespace DL
open PySem PySem.Spec PyProof.Rows L2

/-! ### what a def promises -/
structure ArgOk (T : Tb) (G H : Hp) (vs : List V) (sls : List Sl) : Prop where
  va : ∀ i d, gt sls i = .va d → ∃ v, vs[i]? = some v ∧ Rp T G d v
  ce : ∀ i b d, gt sls i = .ce b d → b = true ∧ ∃ p, vs[i]? = some (.ref p) ∧ G p = none ∧ Cp T G H p d
  dis : ∀ i j b d b' d' p, gt sls i = .ce b d → gt sls j = .ce b' d' → vs[i]? = some (.ref p) → vs[j]? = some (.ref p) → i = j
def IsC (vs : List V) (sls : List Sl) (p : Addr) : Prop := ∃ i d, gt sls i = .ce true d ∧ vs[i]? = some (.ref p)
/-- how the heap lies behind a call -/
structure Aft (T : Tb) (G H : Hp) (vs : List V) (sls sls' : List Sl) (G' H' : Hp) : Prop where
  ext : Sub G G' ∧ ∀ a o, G' a = some o → G a = some o ∨ H a = none
  fr : ∀ a o, H a = some o → ¬ IsC vs sls a → H' a = some o
  sub : Sub G' H'
  cel : ∀ i d, gt sls i = .ce true d → ∃ p d', vs[i]? = some (.ref p) ∧ gt sls' i = .ce true d' ∧ G' p = none ∧ Cp T G' H' p d'
def PVC (T : Tb) (H G' H' : Hp) : PV → V → Prop
  | .d d, v => Rp T G' d v
  | .nw d, v => ∃ p, v = .ref p ∧ H p = none ∧ G' p = none ∧ Cp T G' H' p d
  | .sl _, _ => False
abbrev FM := List Sl → R (PV × List Sl)
def OkC (T : Tb) (G H : Hp) (vs : List V) (sls : List Sl) (Q : VK) (E : XK) : R (PV × List Sl) → Prop
  | .ok (pv, s') => ∀ (v : V) (G' H' : Hp), Aft T G H vs sls s' G' H' → PVC T H G' H' pv v → Q v H'
  | .ex c d s' => ∀ (dct : Addr) (v : V) (f : Str) (G' H' : Hp), Aft T G H vs sls s' G' H' → Rp T G' d v → (T.cls c).2 = [f] → H' dct = some (.xd [(f, v)]) → E (.ref (T.cls c).1) (some dct) H'
  | .no => False
def spD (T : Tb) (n : Nat) (m : FM) : Sp := fun vs H Q E => vs.length = n ∧ ∃ (G : Hp) (sls : List Sl), Sub G H ∧ sls.length = n ∧ ArgOk T G H vs sls ∧ OkC T G H vs sls Q E (m sls)
/-- the caller's objects, as they are left -/
@[simp] def fin : List Sl → Env → Option (List Sl)
  | [], _ => some []
  | .ce true _ :: r, .ce true d :: e => (fin r e).map (Sl.ce true d :: ·)
  | .ce true _ :: _, _ => none
  | _ :: r, _ :: e => (fin r e).map (Sl.un :: ·)
  | _ :: _, [] => none
def mDef (n : Nat) (fb : FS) : FM := fun sls => match fb (sls ++ List.replicate (n - sls.length) .un) with
  | .rt (.sl _) _ => .no
  | .rt p e => match fin sls e with
    | some s' => .ok (p, s')
    | none => .no
  | .nx e => match fin sls e with
    | some s' => .ok (.d .non, s')
    | none => .no
  | .ex c d e => match fin sls e with
    | some s' => .ex c d s'
    | none => .no
  | _ => .no
theorem fin_get : ∀ {sls : List Sl} {e : Env} {s' : List Sl}, fin sls e = some s' → ∀ {i : Nat} {d : D}, gt sls i = .ce true d → ∃ d', gt e i = .ce true d' ∧ gt s' i = .ce true d'
  | [], _, _, _, i, d, q => by cases q
  | x :: r, e, s', h, i, d, q => by
    cases x with
    | un =>
      cases e with
      | nil => cases h
      | cons y e =>
        simp only [fin, Option.map_eq_some_iff] at h
        obtain ⟨s1, h1, rfl⟩ := h
        cases i with
        | zero => cases q
        | succ i => exact fin_get (sls := r) (e := e) h1 (i := i) q
    | va d0 =>
      cases e with
      | nil => cases h
      | cons y e =>
        simp only [fin, Option.map_eq_some_iff] at h
        obtain ⟨s1, h1, rfl⟩ := h
        cases i with
        | zero => cases q
        | succ i => exact fin_get (sls := r) (e := e) h1 (i := i) q
    | ce b d0 =>
      cases b with
      | false =>
        cases e with
        | nil => cases h
        | cons y e =>
          simp only [fin, Option.map_eq_some_iff] at h
          obtain ⟨s1, h1, rfl⟩ := h
          cases i with
          | zero => cases q
          | succ i => exact fin_get (sls := r) (e := e) h1 (i := i) q
      | true =>
        cases e with
        | nil => cases h
        | cons y e =>
          cases y with
          | un => cases h
          | va _ => cases h
          | ce b d1 =>
            cases b with
            | false => cases h
            | true =>
              simp only [fin, Option.map_eq_some_iff] at h
              obtain ⟨s1, h1, rfl⟩ := h
              cases i with
              | zero => exact ⟨d1, rfl, rfl⟩
              | succ i => exact fin_get (sls := r) (e := e) h1 (i := i) q
theorem gt_app_un : ∀ (s : List Sl) (n i : Nat), gt (s ++ List.replicate n .un) i = gt s i
  | [], 0, i => by cases i <;> rfl
  | [], n + 1, 0 => rfl
  | [], n + 1, i + 1 => by
    show gt ([] ++ List.replicate n .un) i = gt [] (i + 1)
    rw [gt_app_un [] n i]
    cases i <;> rfl
  | x :: s, n, 0 => rfl
  | x :: s, n, i + 1 => gt_app_un s n i

section
variable {P : Program} {w : World} {K : PySem.W.Frag} {mg : Str → Option Value} {base : Heap} {T : Tb}
open Classical in
theorem fn_ok {x qual : Str} {sd : Stmt} {f : Addr} {fd : FuncData} {N ps : List Str} {k : Nat} {fb : FS} (F : Fun K x qual sd f fd) (S : FnScope N ps (defScope sd))
    (hb : ∀ (cdv : Value) (A : Around) (outer : List PySem.Env) (s : Shared) (H : Hp) (E : XK), Room k (A.deeper (envOfC qual (defScope sd) s.heap.objs.size f cdv)) → A.guards = some [] →
      ∃ t, SSs T (fun cls d _ H => E cls d H) (cxOf (L2.CX P w) P w K mg base N qual (defScope sd) f cdv A outer s H E) (defBody sd) t fb) :
    FnG P w K mg base (k + 1) f fd ps (spD T ps.length (mDef N.length fb)) := by
  refine fng_of F S (fun vs H Q E h => h.1) fun cdv A outer s H vs Q E hr gd ⟨hl, G, sls, sub, hsl, ok, h⟩ => ?_
  obtain ⟨t, p, q⟩ := hb cdv A outer s H E hr gd
  refine ⟨t, p, ?_⟩
  have hpl : ps.length ≤ N.length := by have := congrArg List.length S.pre; rw [List.length_take] at this; omega
  let Pr : Hp := fun a => if IsC vs sls a then none else H a
  let An : Nat → Option Addr := fun i => match gt sls i with
    | .ce true _ => match vs[i]? with
      | some (.ref p) => some p
      | _ => none
    | _ => none
  have hst : ∀ i, i < vs.length → (L2.start N vs)[i]? = (vs[i]?).map some := fun i hi => by
    unfold L2.start
    rw [List.getElem?_append_left (by simpa using hi), List.getElem?_map]
  have hlt : ∀ {i : Nat}, gt sls i ≠ .un → i < vs.length := fun {i} z => by rw [hl, ← hsl]; exact gt_lt z
  have anp : ∀ {i : Nat} {d : D} {p : Addr}, gt sls i = .ce true d → vs[i]? = some (.ref p) → An i = some p := fun {i d p} h1 h2 => by
    show (match gt sls i with | .ce true _ => (match vs[i]? with | some (.ref p) => some p | _ => none) | _ => none) = _
    rw [h1, h2]
  have s0 : SR ⟨T, Pr, An⟩ G H (L2.start N vs) (sls ++ List.replicate (N.length - sls.length) .un) := by
    refine ⟨fun a o z => ?_, sub, ?_, fun i d z => ?_, fun i b d z => ?_, fun i j b d b' d' p z1 z2 y1 y2 => ?_⟩
    · have z : (if IsC vs sls a then none else H a) = some o := z
      split at z
      · cases z
      · exact z
    · unfold L2.start
      simp only [List.length_append, List.length_replicate, List.length_map]
      omega
    · rw [gt_app_un] at z
      obtain ⟨v, h1, h2⟩ := ok.va i d z
      exact ⟨v, by rw [hst i (hlt (by rw [z]; intro y; cases y)), h1]; rfl, h2⟩
    · rw [gt_app_un] at z
      obtain ⟨hb, p, h1, h2, h3⟩ := ok.ce i b d z
      subst hb
      refine ⟨p, by rw [hst i (hlt (by rw [z]; intro y; cases y)), h1]; rfl, fun _ => anp z h1, ?_, h2, h3⟩
      show (if IsC vs sls p then none else H p) = none
      rw [if_pos ⟨i, d, z, h1⟩]
    · rw [gt_app_un] at z1 z2
      rw [hst i (hlt (by rw [z1]; intro y; cases y))] at y1
      rw [hst j (hlt (by rw [z2]; intro y; cases y))] at y2
      refine ok.dis i j b d b' d' p z1 z2 ?_ ?_
      · cases e : vs[i]? with
        | none => rw [e] at y1; cases y1
        | some v => rw [e] at y1; cases y1; rfl
      · cases e : vs[j]? with
        | none => rw [e] at y2; cases y2
        | some v => rw [e] at y2; cases y2; rfl
  refine q Pr An G H (L2.start N vs) _ _ s0 ?_
  have aft : ∀ {e : Env} {s' : List Sl} {σ' : St} {G' H' : Hp}, fin sls e = some s' → Ext Pr G G' → SR ⟨T, Pr, An⟩ G' H' σ' e → Aft T G H vs sls s' G' H' := fun {e s' σ' G' H'} hf x s1 => by
    have cel : ∀ i d, gt sls i = .ce true d → ∃ p d', vs[i]? = some (.ref p) ∧ gt s' i = .ce true d' ∧ G' p = none ∧ Cp T G' H' p d' := fun i d z => by
      obtain ⟨d', g1, g2⟩ := fin_get hf z
      obtain ⟨_, p, h1, _, _⟩ := ok.ce i true d z
      obtain ⟨p', y1, y2, y3, y4, y5⟩ := s1.ce i true d' g1
      have this : An i = some p' := y2 rfl
      rw [anp z h1] at this
      cases this
      exact ⟨p, d', h1, g2, y4, y5⟩
    refine ⟨⟨x.1, fun a o z => ?_⟩, fun a o z hn => s1.prot a o ?_, s1.sub, cel⟩
    · rcases x.2 a o z with y | y
      · exact .inl y
      · have y : (if IsC vs sls a then none else H a) = none := y
        split at y
        · rename_i hc
          obtain ⟨i, d, h1, h2⟩ := hc
          obtain ⟨p, d', g1, g2, g3, _⟩ := cel i d h1
          rw [h2] at g1; cases g1
          rw [g3] at z; cases z
        · exact .inr y
    · show (if IsC vs sls a then none else H a) = some o
      rw [if_neg hn]; exact z
  have off : ∀ {e : Env} {s' : List Sl} {σ' : St} {G' H' : Hp} {p : PV} {v : V}, fin sls e = some s' → Ext Pr G G' → SR ⟨T, Pr, An⟩ G' H' σ' e → (∀ i, p ≠ .sl i) → PVR ⟨T, Pr, An⟩ G' H' σ' e p v → PVC T H G' H' p v := fun {e s' σ' G' H' p v} hf x s1 hn r => by
    cases p with
    | d d => exact r
    | sl i => exact absurd rfl (hn i)
    | nw d =>
      obtain ⟨p, rfl, h1, h2, h3, h4⟩ := r
      refine ⟨p, rfl, ?_, h2, h4⟩
      have h1 : (if IsC vs sls p then none else H p) = none := h1
      split at h1
      · rename_i hc
        obtain ⟨i, d0, y1, y2⟩ := hc
        obtain ⟨d', g1, g2⟩ := fin_get hf y1
        obtain ⟨p', z1, z2, _⟩ := s1.ce i true d' g1
        have this : An i = some p' := z2 rfl
        rw [anp y1 y2] at this
        cases this
        exact absurd z1 (h3 i true d' g1)
      · exact h1
  unfold mDef at h
  revert h
  cases fb (sls ++ List.replicate (N.length - sls.length) .un) with
  | rt p e =>
    cases p with
    | sl i => exact fun h => h.elim
    | d d =>
      intro h σ' v G' H' x s1 r
      dsimp only at h
      split at h
      · rename_i s' hf
        exact h v G' H' (aft hf x s1) (off hf x s1 (fun i z => by cases z) r)
      · exact h.elim
    | nw d =>
      intro h σ' v G' H' x s1 r
      dsimp only at h
      split at h
      · rename_i s' hf
        exact h v G' H' (aft hf x s1) (off hf x s1 (fun i z => by cases z) r)
      · exact h.elim
  | nx e =>
    intro h σ' G' H' x s1
    dsimp only at h
    split at h
    · rename_i s' hf
      exact h .non G' H' (aft hf x s1) (by show Rp _ _ _ _; simp only [Rp])
    · exact h.elim
  | ex c d e =>
    intro h dct v f σ' G' H' x s1 r n y
    dsimp only at h
    split at h
    · rename_i s' hf
      exact h dct v f G' H' (aft hf x s1) r n y
    · exact h.elim
  | bk e => exact fun h => h.elim
  | ct e => exact fun h => h.elim
  | no => exact fun h => h.elim
end

/-! ### calls -/
/-- the arguments: those handed over as data are frozen -/
@[simp] def pass1 (e : Env) : List Bool → List PV → R (List PV × Env)
  | _, [] => .ok ([], e)
  | true :: ms, .sl i :: ps => do
    let (ps', e1) ← pass1 e ms ps
    .ok (.sl i :: ps', e1)
  | true :: _, _ :: _ => .no
  | m, p :: ps => do
    let (d, e1) ← settle e p
    let (ps', e2) ← pass1 e1 m.tail ps
    .ok (.d d :: ps', e2)
@[simp] def toSl (e : Env) : List PV → Option (List Sl)
  | [] => some []
  | .d d :: ps => (toSl e ps).map (Sl.va d :: ·)
  | .sl i :: ps => match gt e i with
    | .ce _ d => (toSl e ps).map (Sl.ce true d :: ·)
    | _ => none
  | .nw _ :: _ => none
@[simp] def refs : List PV → List Nat
  | [] => []
  | .sl i :: ps => i :: refs ps
  | _ :: ps => refs ps
@[simp] def nodupB : List Nat → Bool
  | [] => true
  | i :: r => !r.contains i && nodupB r
/-- the caller's names hold what the callee left -/
@[simp] def upds (e : Env) : List PV → List Sl → Env
  | [], _ => e
  | .sl i :: ps, .ce true d :: s => upds (match gt e i with | .ce b _ => st e i (.ce b d) | _ => e) ps s
  | _ :: ps, _ :: s => upds e ps s
  | _ :: _, [] => e
def fCall (m : FM) (ms : List Bool) (dfl : List D) (fa : FA) : FE := fun e => do
  let (ps, e1) ← fa e
  let (ps', e2) ← pass1 e1 ms ps
  let sls ← R.of (if nodupB (refs ps') then toSl e2 ps' else none)
  match m (sls ++ dfl.map Sl.va) with
  | .ok (p, s') => .ok (p, upds e2 ps' s')
  | .ex c d s' => .ex c d (upds e2 ps' s')
  | .no => .no
section
variable {T : Tb} {W : WX} {X : Cx} {F : Fx} {G G1 H : Hp} {σ : St} {e e1 : Env}
def PVh (F : Fx) (G : Hp) (σ : St) (p : PV) (v : V) : Prop := match p with | .d d => Rp F.T G d v | .sl i => σ[i]? = some (some v) | .nw _ => False
theorem PVL.at : ∀ {ps : List PV} {vs : List V}, PVL F G σ ps vs → ∀ {i : Nat} {p : PV}, ps[i]? = some p → ∃ v, vs[i]? = some v ∧ PVh F G σ p v
  | [], _, _, i, p, q => by simp at q
  | p0 :: ps, _, ⟨v, r, h1, h2, h3⟩, 0, p, q => by
    simp at q; subst q; subst h1
    exact ⟨v, rfl, h2⟩
  | p0 :: ps, _, ⟨v, r, h1, h2, h3⟩, i + 1, p, q => by
    subst h1
    exact PVL.at h3 (i := i) (by simpa using q)
theorem pass1_ok : ∀ {ms : List Bool} {ps : List PV} {vs : List V} {G : Hp} {e : Env} {ps' : List PV} {e' : Env}, SR F G H σ e → PVL F G σ ps vs → pass1 e ms ps = .ok (ps', e') → ∃ G', Ext F.Pr G G' ∧ SR F G' H σ e' ∧ PVL F G' σ ps' vs := by
  intro ms ps
  induction ps generalizing ms with
  | nil =>
    intro vs G e ps' e' s h hp
    simp only [pass1] at hp
    cases hp
    exact ⟨G, Ext.refl, s, h⟩
  | cons p ps ih =>
    intro vs G e ps' e' s h hp
    obtain ⟨v, r, rfl, h2, h3⟩ := h
    have val : ∀ m, (do
        let (d, e1) ← settle e p
        let (ps', e2) ← pass1 e1 m ps
        R.ok (PV.d d :: ps', e2)) = .ok (ps', e') → ∃ G', Ext F.Pr G G' ∧ SR F G' H σ e' ∧ PVL F G' σ ps' (v :: r) := fun m hp => by
      cases q1 : settle e p with
      | no => rw [q1] at hp; cases hp
      | ex _ _ _ => rw [q1] at hp; cases hp
      | ok a =>
        obtain ⟨d, e1⟩ := a
        rw [q1] at hp
        simp only [R.bind_ok] at hp
        cases q2 : pass1 e1 m ps with
        | no => rw [q2] at hp; cases hp
        | ex _ _ _ => rw [q2] at hp; cases hp
        | ok b =>
          obtain ⟨ps1, e2⟩ := b
          rw [q2] at hp
          simp only [R.bind_ok] at hp
          cases hp
          have hv : PVR F G H σ e p v := by cases p <;> first | exact h2 | exact h2.elim
          obtain ⟨G1, x1, s1, r1⟩ := settle_ok s hv q1
          obtain ⟨G2, x2, s2, r2⟩ := ih s1 (h3.mono x1.1) q2
          exact ⟨G2, x1.trans x2, s2, v, r, rfl, Rp.mono x2.1 _ _ r1, r2⟩
    cases ms with
    | nil => simp only [pass1] at hp; exact val _ hp
    | cons m ms =>
      cases m with
      | false => simp only [pass1] at hp; exact val _ hp
      | true =>
        cases p with
        | d d => simp only [pass1] at hp; cases hp
        | nw d => simp only [pass1] at hp; cases hp
        | sl i =>
          simp only [pass1] at hp
          cases q2 : pass1 e ms ps with
          | no => rw [q2] at hp; cases hp
          | ex _ _ _ => rw [q2] at hp; cases hp
          | ok b =>
            obtain ⟨ps1, e2⟩ := b
            rw [q2] at hp
            simp only [R.bind_ok] at hp
            cases hp
            obtain ⟨G2, x2, s2, r2⟩ := ih s h3 q2
            exact ⟨G2, x2, s2, v, r, rfl, h2, r2⟩
theorem pass1_nx : ∀ {ms : List Bool} {ps : List PV} {e : Env} {c d e'}, pass1 e ms ps ≠ .ex c d e' := by
  intro ms ps
  induction ps generalizing ms with
  | nil => intro e c d e'; simp only [pass1]; intro z; cases z
  | cons p ps ih =>
    intro e c d e'
    have val : ∀ m, (do
        let (d, e1) ← settle e p
        let (ps', e2) ← pass1 e1 m ps
        R.ok (PV.d d :: ps', e2)) ≠ .ex c d e' := fun m hp => by
      cases q1 : settle e p with
      | no => rw [q1] at hp; cases hp
      | ex _ _ _ => exact settle_nx q1
      | ok a =>
        obtain ⟨d, e1⟩ := a
        rw [q1] at hp
        simp only [R.bind_ok] at hp
        cases q2 : pass1 e1 m ps with
        | no => rw [q2] at hp; cases hp
        | ex _ _ _ => exact ih q2
        | ok b => rw [q2] at hp; cases hp
    cases ms with
    | nil => simp only [pass1]; exact val _
    | cons m ms =>
      cases m with
      | false => simp only [pass1]; exact val _
      | true =>
        cases p with
        | d d => simp only [pass1]; intro z; cases z
        | nw d => simp only [pass1]; intro z; cases z
        | sl i =>
          simp only [pass1]
          cases q2 : pass1 e ms ps with
          | no => intro z; cases z
          | ex _ _ _ => exact absurd q2 ih
          | ok b => intro z; cases z
theorem toSl_at : ∀ {ps : List PV} {sls : List Sl}, toSl e ps = some sls → sls.length = ps.length ∧ ∀ i, (∀ d, gt sls i = .va d → ps[i]? = some (.d d)) ∧ (∀ b d, gt sls i = .ce b d → b = true ∧ ∃ j b', ps[i]? = some (.sl j) ∧ gt e j = .ce b' d)
  | [], sls, h => by
    cases h
    exact ⟨rfl, fun i => ⟨fun d q => (by cases q), fun b d q => (by cases q)⟩⟩
  | .nw _ :: ps, sls, h => by cases h
  | .d d0 :: ps, sls, h => by
    simp only [toSl, Option.map_eq_some_iff] at h
    obtain ⟨s1, h1, rfl⟩ := h
    obtain ⟨l, k⟩ := toSl_at h1
    refine ⟨by simp [l], fun i => ?_⟩
    cases i with
    | zero => exact ⟨fun d q => (by cases q; rfl), fun b d q => (by cases q)⟩
    | succ i => exact ⟨fun d q => by simpa using (k i).1 d q, fun b d q => by simpa using (k i).2 b d q⟩
  | .sl j :: ps, sls, h => by
    simp only [toSl] at h
    split at h
    · rename_i b' d' hj
      simp only [Option.map_eq_some_iff] at h
      obtain ⟨s1, h1, rfl⟩ := h
      obtain ⟨l, k⟩ := toSl_at h1
      refine ⟨by simp [l], fun i => ?_⟩
      cases i with
      | zero => exact ⟨fun d q => (by cases q), fun b d q => (by cases q; exact ⟨rfl, j, b', rfl, hj⟩)⟩
      | succ i => exact ⟨fun d q => by simpa using (k i).1 d q, fun b d q => by simpa using (k i).2 b d q⟩
    · cases h
theorem refs_mem : ∀ {ps : List PV} {i j : Nat}, ps[i]? = some (.sl j) → j ∈ refs ps
  | [], i, j, h => by simp at h
  | p :: ps, 0, j, h => by simp at h; subst h; exact List.mem_cons_self
  | p :: ps, i + 1, j, h => by
    have := refs_mem (ps := ps) (i := i) (j := j) (by simpa using h)
    cases p with
    | sl k => exact List.mem_cons_of_mem _ this
    | d _ => exact this
    | nw _ => exact this
theorem nodup_ref : ∀ {ps : List PV} {i j k : Nat}, nodupB (refs ps) = true → ps[i]? = some (.sl k) → ps[j]? = some (.sl k) → i = j
  | [], i, j, k, _, h, _ => by simp at h
  | p :: ps, i, j, k, hn, h1, h2 => by
    have tl : nodupB (refs ps) = true := by
      cases p with
      | sl m => simp only [refs, nodupB, Bool.and_eq_true] at hn; exact hn.2
      | d _ => exact hn
      | nw _ => exact hn
    cases i with
    | zero =>
      cases j with
      | zero => rfl
      | succ j =>
        simp at h1; subst h1
        simp only [refs, nodupB, Bool.and_eq_true, Bool.not_eq_true', List.contains_eq_mem, decide_eq_false_iff_not] at hn
        exact absurd (refs_mem (ps := ps) (i := j) (j := k) (by simpa using h2)) hn.1
    | succ i =>
      cases j with
      | zero =>
        simp at h2; subst h2
        simp only [refs, nodupB, Bool.and_eq_true, Bool.not_eq_true', List.contains_eq_mem, decide_eq_false_iff_not] at hn
        exact absurd (refs_mem (ps := ps) (i := i) (j := k) (by simpa using h1)) hn.1
      | succ j => rw [nodup_ref (ps := ps) (i := i) (j := j) (k := k) tl (by simpa using h1) (by simpa using h2)]
theorem args_ok {ps : List PV} {vs : List V} {sls : List Sl} (s : SR F G H σ e) (h : PVL F G σ ps vs) (hn : nodupB (refs ps) = true) (ht : toSl e ps = some sls) : sls.length = vs.length ∧ ArgOk F.T G H vs sls := by
  obtain ⟨l, k⟩ := toSl_at ht
  refine ⟨by rw [l, PVL.length h], fun i d q => ?_, fun i b d q => ?_, fun i j b d b' d' p q1 q2 y1 y2 => ?_⟩
  · obtain ⟨v, h1, h2⟩ := h.at ((k i).1 d q)
    exact ⟨v, h1, h2⟩
  · obtain ⟨rfl, j, b', h1, h2⟩ := (k i).2 b d q
    obtain ⟨v, h3, h4⟩ := h.at h1
    obtain ⟨p, z1, z2, z3, z4, z5⟩ := s.ce j b' d h2
    have h4' : σ[j]? = some (some v) := h4
    rw [h4'] at z1; cases z1
    exact ⟨rfl, p, h3, z4, z5⟩
  · obtain ⟨_, j1, c1, g1, g2⟩ := (k i).2 b d q1
    obtain ⟨_, j2, c2, g3, g4⟩ := (k j).2 b' d' q2
    obtain ⟨v1, a1, a2⟩ := h.at g1
    obtain ⟨v2, a3, a4⟩ := h.at g3
    rw [y1] at a1; cases a1
    rw [y2] at a3; cases a3
    have : j1 = j2 := s.dis j1 j2 c1 d c2 d' p g2 g4 a2 a4
    subst this
    exact nodup_ref hn g1 g3
theorem upds_nil {s' : List Sl} {e : Env} : upds e [] s' = e := by cases s' <;> simp only [upds]
theorem upds_nil2 {p : PV} {ps : List PV} {e : Env} : upds e (p :: ps) [] = e := by cases p <;> simp only [upds]
theorem gt_upds : ∀ {ps : List PV} {s' : List Sl} {e : Env} {j : Nat} {x : Sl}, gt (upds e ps s') j = x → (∃ k b d d', ps[k]? = some (.sl j) ∧ gt s' k = .ce true d' ∧ gt e j = .ce b d ∧ x = .ce b d') ∨ ((∀ k d', ps[k]? = some (.sl j) → gt s' k = .ce true d' → ∀ b d, gt e j ≠ .ce b d) ∧ gt e j = x)
  | [], s', e, j, x, h => .inr ⟨fun k d' q => (by simp at q), (by rw [upds_nil] at h; exact h)⟩
  | p :: ps, [], e, j, x, h => by
    rw [upds_nil2] at h
    exact .inr ⟨fun k d' q z => (by cases z), h⟩
  | p :: ps, y :: s', e, j, x, h => by
    have skip : upds e (p :: ps) (y :: s') = upds e ps s' → (∀ i d, p = .sl i → y = .ce true d → False) → (∃ k b d d', (p :: ps)[k]? = some (.sl j) ∧ gt (y :: s') k = .ce true d' ∧ gt e j = .ce b d ∧ x = .ce b d') ∨ ((∀ k d', (p :: ps)[k]? = some (.sl j) → gt (y :: s') k = .ce true d' → ∀ b d, gt e j ≠ .ce b d) ∧ gt e j = x) := fun q hn => by
      rw [q] at h
      rcases gt_upds h with ⟨k, b, d, d', h1, h2, h3, h4⟩ | ⟨h1, h2⟩
      · exact .inl ⟨k + 1, b, d, d', by simpa using h1, h2, h3, h4⟩
      · refine .inr ⟨fun k d' q1 q2 => ?_, h2⟩
        cases k with
        | zero => simp at q1; exact (hn _ _ q1 q2).elim
        | succ k => exact h1 k d' (by simpa using q1) q2
    cases p with
    | d _ => exact skip rfl (fun i d z => by cases z)
    | nw _ => exact skip rfl (fun i d z => by cases z)
    | sl i =>
      cases y with
      | un => exact skip rfl (fun i d _ z => by cases z)
      | va _ => exact skip rfl (fun i d _ z => by cases z)
      | ce b0 d0 =>
        cases b0 with
        | false => exact skip rfl (fun i d _ z => by cases z)
        | true =>
          have e1 : upds e (.sl i :: ps) (.ce true d0 :: s') = upds (match gt e i with | .ce b _ => st e i (.ce b d0) | _ => e) ps s' := rfl
          rw [e1] at h
          cases hi : gt e i with
          | un =>
            rw [hi] at h
            rcases gt_upds h with ⟨k, b, d, d', h1, h2, h3, h4⟩ | ⟨h1, h2⟩
            · exact .inl ⟨k + 1, b, d, d', by simpa using h1, h2, h3, h4⟩
            · refine .inr ⟨fun k d' q1 q2 => ?_, h2⟩
              cases k with
              | zero => simp at q1; subst q1; intro b d z; rw [hi] at z; cases z
              | succ k => exact h1 k d' (by simpa using q1) q2
          | va dv =>
            rw [hi] at h
            rcases gt_upds h with ⟨k, b, d, d', h1, h2, h3, h4⟩ | ⟨h1, h2⟩
            · exact .inl ⟨k + 1, b, d, d', by simpa using h1, h2, h3, h4⟩
            · refine .inr ⟨fun k d' q1 q2 => ?_, h2⟩
              cases k with
              | zero => simp at q1; subst q1; intro b d z; rw [hi] at z; cases z
              | succ k => exact h1 k d' (by simpa using q1) q2
          | ce b1 d1 =>
            rw [hi] at h
            have hl : i < e.length := gt_lt (by rw [hi]; intro z; cases z)
            rcases gt_upds h with ⟨k, b, d, d', h1, h2, h3, h4⟩ | ⟨h1, h2⟩
            · rw [gt_st] at h3
              split at h3
              · rename_i q
                cases h3
                exact .inl ⟨k + 1, b1, d1, d', by simpa using h1, h2, by rw [q.1]; exact hi, h4⟩
              · exact .inl ⟨k + 1, b, d, d', by simpa using h1, h2, h3, h4⟩
            · rw [gt_st] at h2
              split at h2
              · rename_i q
                exact .inl ⟨0, b1, d1, d0, by rw [q.1]; rfl, rfl, by rw [q.1]; exact hi, h2.symm⟩
              · rename_i q
                refine .inr ⟨fun k d' q1 q2 => ?_, h2⟩
                cases k with
                | zero => simp at q1; exact absurd ⟨q1.symm, hl⟩ q
                | succ k =>
                  intro b d z
                  refine h1 k d' (by simpa using q1) q2 b d ?_
                  rw [gt_st, if_neg q]; exact z
theorem upds_len : ∀ {ps : List PV} {s' : List Sl} {e : Env}, (upds e ps s').length = e.length
  | [], s', e => by rw [upds_nil]
  | p :: ps, [], e => by rw [upds_nil2]
  | p :: ps, y :: s', e => by
    have skip : upds e (p :: ps) (y :: s') = upds e ps s' → (upds e (p :: ps) (y :: s')).length = e.length := fun q => by rw [q]; exact upds_len
    cases p with
    | d _ => exact skip rfl
    | nw _ => exact skip rfl
    | sl i =>
      cases y with
      | un => exact skip rfl
      | va _ => exact skip rfl
      | ce b0 d0 =>
        cases b0 with
        | false => exact skip rfl
        | true =>
          show (upds (match gt e i with | .ce b _ => st e i (.ce b d0) | _ => e) ps s').length = _
          rw [upds_len]
          split
          · rw [st_len]
          · rfl
theorem ArgOk.app {vs dvs : List V} {sls : List Sl} {dfl : List D} (h : ArgOk T G H vs sls) (hl : sls.length = vs.length) (r : RpL T G dfl dvs) : ArgOk T G H (vs ++ dvs) (sls ++ dfl.map Sl.va) := by
  have key : ∀ {sls : List Sl} {i : Nat} {x : Sl}, gt (sls ++ dfl.map Sl.va) i = x → x ≠ .un → (i < sls.length ∧ gt sls i = x) ∨ (sls.length ≤ i ∧ ∃ d, dfl[i - sls.length]? = some d ∧ x = .va d) := by
    intro sls
    induction sls with
    | nil =>
      intro i x q hx
      refine .inr ⟨Nat.zero_le _, ?_⟩
      replace q : gt (dfl.map Sl.va) i = x := q
      clear r
      revert i
      induction dfl with
      | nil => intro i q; exact absurd q.symm hx
      | cons d ds ih =>
        intro i q
        cases i with
        | zero => exact ⟨d, rfl, q.symm⟩
        | succ i =>
          obtain ⟨d', h1, h2⟩ := ih (i := i) q
          exact ⟨d', by simpa using h1, h2⟩
    | cons y sls ih =>
      intro i x q hx
      cases i with
      | zero => exact .inl ⟨Nat.succ_pos _, q⟩
      | succ i =>
        rcases ih (i := i) q hx with ⟨a, b⟩ | ⟨a, d, b, c⟩
        · exact .inl ⟨Nat.succ_lt_succ a, b⟩
        · exact .inr ⟨Nat.succ_le_succ a, d, by simpa using b, c⟩
  have get1 : ∀ {i : Nat} {v : V}, i < sls.length → (vs ++ dvs)[i]? = some v → vs[i]? = some v := fun {i v} hi q => by
    rw [List.getElem?_append_left (by omega)] at q; exact q
  refine ⟨fun i d q => ?_, fun i b d q => ?_, fun i j b d b' d' p q1 q2 y1 y2 => ?_⟩
  · rcases key q (by intro z; cases z) with ⟨a, b⟩ | ⟨a, d', b, c⟩
    · obtain ⟨v, h1, h2⟩ := h.va i d b
      exact ⟨v, by rw [List.getElem?_append_left (by omega)]; exact h1, h2⟩
    · cases c
      obtain ⟨v, h1, h2⟩ := r.get b
      exact ⟨v, by rw [List.getElem?_append_right (by omega), ← hl]; exact h1, h2⟩
  · rcases key q (by intro z; cases z) with ⟨a, b'⟩ | ⟨a, d', _, c⟩
    · obtain ⟨h0, p, h1, h2⟩ := h.ce i b d b'
      exact ⟨h0, p, by rw [List.getElem?_append_left (by omega)]; exact h1, h2⟩
    · cases c
  · rcases key q1 (by intro z; cases z) with ⟨a, b1⟩ | ⟨a, d1, _, c⟩
    · rcases key q2 (by intro z; cases z) with ⟨a', b2⟩ | ⟨a', d2, _, c⟩
      · exact h.dis i j b d b' d' p b1 b2 (get1 a y1) (get1 a' y2)
      · cases c
    · cases c
theorem gt_app_lt : ∀ {s t : List Sl} {i : Nat}, i < s.length → gt (s ++ t) i = gt s i
  | [], _, _, h => absurd h (Nat.not_lt_zero _)
  | _ :: _, _, 0, _ => rfl
  | _ :: s, t, i + 1, h => gt_app_lt (s := s) (t := t) (i := i) (Nat.lt_of_succ_lt_succ h)
/-- behind a call -/
theorem call_aft {ps : List PV} {vs dvs : List V} {sls s' : List Sl} {dfl : List D} {G' H' : Hp} (s : SR F G H σ e) (h : PVL F G σ ps vs) (ht : toSl e ps = some sls) (a : Aft F.T G H (vs ++ dvs) (sls ++ dfl.map Sl.va) s' G' H') :
    Ext F.Pr G G' ∧ SR F G' H' σ (upds e ps s') := by
  obtain ⟨l, k⟩ := toSl_at ht
  have hl : sls.length = vs.length := by rw [l, PVL.length h]
  have gapp : ∀ {sls : List Sl} {i : Nat} {d : D}, gt (sls ++ dfl.map Sl.va) i = .ce true d → gt sls i = .ce true d := by
    intro sls
    induction sls with
    | nil =>
      intro i d q
      replace q : gt (dfl.map Sl.va) i = .ce true d := q
      exfalso
      clear a
      revert i
      induction dfl with
      | nil => intro i q; cases q
      | cons d0 ds ih =>
        intro i q
        cases i with
        | zero => cases q
        | succ i => exact ih (i := i) q
    | cons y sls ih =>
      intro i d q
      cases i with
      | zero => exact q
      | succ i => exact ih (i := i) q
  -- a cell of the callee's is a name of ours that was handed over
  have isc : ∀ {p : Addr}, IsC (vs ++ dvs) (sls ++ dfl.map Sl.va) p → ∃ i j b d, ps[i]? = some (.sl j) ∧ gt e j = .ce b d ∧ σ[j]? = some (some (.ref p)) ∧ gt sls i = .ce true d := fun {p} ⟨i, d, q1, q2⟩ => by
    have q1 := gapp q1
    obtain ⟨_, j, b', g1, g2⟩ := (k i).2 true d q1
    have hi : i < sls.length := gt_lt (by rw [q1]; intro z; cases z)
    rw [List.getElem?_append_left (by omega)] at q2
    obtain ⟨v, y1, y2⟩ := h.at g1
    rw [q2] at y1; cases y1
    exact ⟨i, j, b', d, g1, g2, y2, q1⟩
  have x : Ext F.Pr G G' := ⟨a.ext.1, fun y o z => (a.ext.2 y o z).imp id fun q => by
    cases w : F.Pr y with
    | none => rfl
    | some u => rw [s.prot y u w] at q; cases q⟩
  have handed : ∀ {i j : Nat} {b : Bool} {d : D}, ps[i]? = some (.sl j) → gt e j = .ce b d → gt sls i = .ce true d := fun {i j b d} q1 q2 => by
    clear a k gapp isc l hl x h s
    induction ps generalizing i sls with
    | nil => simp at q1
    | cons p ps ih =>
      cases p with
      | nw _ => cases ht
      | d d0 =>
        simp only [toSl, Option.map_eq_some_iff] at ht
        obtain ⟨s1, h1, rfl⟩ := ht
        cases i with
        | zero => simp at q1
        | succ i => exact ih h1 (by simpa using q1)
      | sl m =>
        simp only [toSl] at ht
        split at ht
        · rename_i b0 d0 h0
          simp only [Option.map_eq_some_iff] at ht
          obtain ⟨s1, h1, rfl⟩ := ht
          cases i with
          | zero => simp at q1; subst q1; rw [q2] at h0; cases h0; rfl
          | succ i => exact ih h1 (by simpa using q1)
        · cases ht
  refine ⟨x, fun y o z => a.fr y o (s.prot y o z) fun hc => ?_, a.sub, by rw [upds_len]; exact s.len, fun j d q => ?_, fun j b d q => ?_, fun i j b d b' d' p q1 q2 y1 y2 => ?_⟩
  · obtain ⟨i, j, b, d, g1, g2, g3, _⟩ := isc hc
    obtain ⟨p, z1, z2, z3, _⟩ := s.ce j b d g2
    rw [g3] at z1; cases z1
    rw [z3] at z; cases z
  · rcases gt_upds q with ⟨k', b, d0, d', _, _, _, g⟩ | ⟨_, g⟩
    · cases g
    · obtain ⟨v, h1, h2⟩ := s.va j d g
      exact ⟨v, h1, Rp.mono a.ext.1 _ _ h2⟩
  · rcases gt_upds q with ⟨k', b1, d0, d', g1, g2, g3, g⟩ | ⟨gn, g⟩
    · cases g
      obtain ⟨p, z1, z2, z3, z4, z5⟩ := s.ce j b d0 g3
      have g4 := handed g1 g3
      have g5 : gt (sls ++ dfl.map Sl.va) k' = .ce true d0 := by
        have hi : k' < sls.length := gt_lt (by rw [g4]; intro z; cases z)
        rw [gt_app_lt hi]; exact g4
      obtain ⟨p', d2, y1, y2, y3, y4⟩ := a.cel k' d0 g5
      rw [g2] at y2; cases y2
      obtain ⟨v, w1, w2⟩ := h.at g1
      have w2' : σ[j]? = some (some v) := w2
      rw [z1] at w2'; cases w2'
      have hi : k' < sls.length := gt_lt (by rw [g4]; intro z; cases z)
      rw [List.getElem?_append_left (by omega)] at y1
      rw [w1] at y1; cases y1
      exact ⟨p, z1, z2, z3, y3, y4⟩
    · obtain ⟨p, z1, z2, z3, z4, z5⟩ := s.ce j b d g
      have nc : ¬ IsC (vs ++ dvs) (sls ++ dfl.map Sl.va) p := fun hc => by
        obtain ⟨i, j', b', d', g1, g2, g3, g4⟩ := isc hc
        have : j' = j := s.dis j' j b' d' b d p g2 g g3 z1
        subst this
        have hi : i < sls.length := gt_lt (by rw [g4]; intro z; cases z)
        obtain ⟨p', d2, _, y2, _, _⟩ := a.cel i d' (by rw [gt_app_lt hi]; exact g4)
        exact gn i d2 g1 y2 b d g
      obtain ⟨o, ho⟩ := z5.here
      refine ⟨p, z1, z2, z3, ?_, z5.mono a.ext.1 fun o' ho' => a.fr p o' ho' nc⟩
      cases w : G' p with
      | none => rfl
      | some u =>
        rcases a.ext.2 p u w with q | q
        · rw [z4] at q; cases q
        · rw [ho] at q; cases q
  · have was : ∀ {j : Nat} {b : Bool} {d : D}, gt (upds e ps s') j = .ce b d → ∃ b0 d0, gt e j = .ce b0 d0 := fun {j b d} q => by
      rcases gt_upds q with ⟨_, b1, d0, _, _, _, g3, _⟩ | ⟨_, g⟩
      · exact ⟨b1, d0, g3⟩
      · exact ⟨b, d, g⟩
    obtain ⟨c1, f1, g1⟩ := was q1
    obtain ⟨c2, f2, g2⟩ := was q2
    exact s.dis i j c1 f1 c2 f2 p g1 g2 y1 y2
theorem fcall_run {ta : TA} {m : FM} {ms : List Bool} {dfl : List D} {dvs : List V} {fa : FA} {n : Nat} (qa : ∀ (Pr : Hp) (A : Nat → Option Addr) (G H : Hp) (σ : St) (e : Env) (Q : List V → Hp → Prop), SR ⟨T, Pr, A⟩ G H σ e → OkE ⟨T, Pr, A⟩ W σ G Q (fun G' _ _ ps vs => PVL ⟨T, Pr, A⟩ G' σ ps vs) (fa e) → ta σ H Q)
    (hd : ∀ G, RpL T G dfl dvs) (hn : ∀ vs : List V, vs.length = (ms.length) → (vs ++ dvs).length = n) (hz : ∀ e ps e', fa e = .ok (ps, e') → ps.length = ms.length) (Pr : Hp) (A : Nat → Option Addr) (G H : Hp) (σ : St) (e : Env) (Q : VK)
    (s : SR ⟨T, Pr, A⟩ G H σ e) (h : OkE ⟨T, Pr, A⟩ W σ G Q (rPV ⟨T, Pr, A⟩ σ) (fCall m ms dfl fa e)) : tCallG ms.length (spD T n m) (· ++ dvs) (WE W) ta σ H Q := by
  refine qa Pr A G H σ e _ s ?_
  cases q0 : fa e with
  | no => unfold fCall at h; rw [q0] at h; exact h
  | ex c d e' => unfold fCall at h; rw [q0] at h; exact h
  | ok a =>
    obtain ⟨ps, e1⟩ := a
    intro vs G1 H1 x1 s1 q1
    unfold fCall at h
    rw [q0] at h
    simp only [R.bind_ok] at h
    have h := h.ext x1
    obtain ⟨⟨ps', e2⟩, l1, h2⟩ := no_of (fun _ _ _ => pass1_nx) h
    obtain ⟨G2, x2, s2, q2⟩ := pass1_ok s1 q1 l1
    obtain ⟨sls, l2, h3⟩ := of_ok h2
    have hnd : nodupB (refs ps') = true ∧ toSl e2 ps' = some sls := by
      by_cases q : nodupB (refs ps') = true
      · rw [if_pos q] at l2; exact ⟨q, l2⟩
      · rw [if_neg q] at l2; cases l2
    obtain ⟨al, ak⟩ := args_ok s2 q2 hnd.1 hnd.2
    have hl : (vs ++ dvs).length = n := hn vs (by rw [PVL.length q1]; exact hz _ _ _ q0)
    refine ⟨by rw [PVL.length q1]; exact hz _ _ _ q0, hl, G2, sls ++ dfl.map Sl.va, s2.sub, ?_, ak.app al (hd G2), ?_⟩
    · rw [← hl, List.length_append, List.length_append, List.length_map, al, RpL.length (hd G2)]
    · have h4 := h3.ext x2
      dsimp only at h4
      revert h4
      cases m (sls ++ dfl.map Sl.va) with
      | no => exact fun h => h
      | ex c d s' =>
        intro h4 dct v f G' H' a r nm y
        obtain ⟨xx, ss⟩ := call_aft s2 q2 hnd.2 a
        exact h4 dct v f G' H' xx ss r nm y
      | ok b =>
        obtain ⟨pv, s'⟩ := b
        intro h4 v G' H' a r
        obtain ⟨xx, ss⟩ := call_aft s2 q2 hnd.2 a
        refine h4 v G' H' xx ss ?_
        cases pv with
        | d d => exact r
        | sl i => exact r.elim
        | nw d =>
          obtain ⟨p, rfl, r1, r2, r3⟩ := r
          have f1 := s2.fresh r1
          refine ⟨p, rfl, f1.1, r2, fun j b d' z y => ?_, r3⟩
          have was : ∃ b0 d0, gt e2 j = .ce b0 d0 := by
            rcases gt_upds z with ⟨_, b1, d0, _, _, _, g3, _⟩ | ⟨_, g⟩
            · exact ⟨b1, d0, g3⟩
            · exact ⟨b, d', g⟩
          obtain ⟨b0, d0, g⟩ := was
          exact f1.2.2 j b0 d0 g y
/-- how many arguments there are -/
def Ar (fa : FA) (n : Nat) : Prop := ∀ e ps e', fa e = .ok (ps, e') → ps.length = n
theorem ar_nil : Ar fNil 0 := fun e ps e' h => by cases h; rfl
theorem ar_cons {fa : FE} {fr : FA} {n : Nat} (h : Ar fr n) : Ar (fCons fa fr) (n + 1) := fun e ps e' q => by
  unfold fCons at q
  cases q0 : fa e with
  | no => rw [q0] at q; cases q
  | ex _ _ _ => rw [q0] at q; cases q
  | ok a =>
    obtain ⟨p, e1⟩ := a
    rw [q0] at q
    simp only [R.bind_ok] at q
    cases q1 : fr e1 with
    | no => rw [q1] at q; cases q
    | ex _ _ _ => rw [q1] at q; cases q
    | ok b =>
      obtain ⟨ps1, e2⟩ := b
      rw [q1] at q
      simp only [R.bind_ok] at q
      cases q
      simp [h _ _ _ q1]
theorem se_call {f : Addr} {fd : FuncData} {ps : List Str} {k : Nat} {x : Str} {p pos : Pos} {a : Expr} {es : List Expr} {ta : TA} {fa : FA} {m : FM} {ms : List Bool} {dfl : List D} {dvs : List V} {g : List Value → List Value} {n : Nat}
    (Fn : FnG X.prog X.w X.K X.mg X.base k f fd ps (spD T n m)) (tk : Takes X W) (hr : Room k X.A) (gd : X.A.guards = some []) (hg : Gl X x) (hm : X.mg x = some (.ref f)) (hk : PySem.W.keepIn X.K (.ref f) = true) (hb : Bd X.K fd ps [] ms.length g (· ++ dvs)) (hd : ∀ G, RpL T G dfl dvs)
    (ha : SA T W X (a :: es) ta fa) (hz : Ar fa ms.length) (hn : ms.length + dvs.length = n := by rfl) (hdb : (x == ("__debug__" : Str)) = false := by decide)
    (he : starEach (a :: es) X.env = (false, eval a X.env) :: starEach es X.env := by rfl) (hpl : (backTo pos (starEach es X.env)).any (·.1) = false := by rfl) :
    SE T W X (.Call (.Name x p) (a :: es) [] pos) (tCallG ms.length (spD T n m) (· ++ dvs) (WE W) ta) (fCall m ms dfl fa) :=
  ⟨pe_callG Fn hr gd hg hm hk hb (fun σ => passAt tk σ) ha.1 hdb he hpl, fcall_run ha.2 hd (fun vs h => by rw [List.length_append, h]; exact hn) hz⟩
theorem se_call0 {f : Addr} {fd : FuncData} {ps : List Str} {k : Nat} {x : Str} {p pos : Pos} {m : FM} {dfl : List D} {dvs : List V} {g : List Value → List Value} {n : Nat}
    (Fn : FnG X.prog X.w X.K X.mg X.base k f fd ps (spD T n m)) (tk : Takes X W) (hr : Room k X.A) (gd : X.A.guards = some []) (hg : Gl X x) (hm : X.mg x = some (.ref f)) (hk : PySem.W.keepIn X.K (.ref f) = true) (hb : Bd X.K fd ps [] 0 g (· ++ dvs)) (hd : ∀ G, RpL T G dfl dvs)
    (hn : dvs.length = n := by rfl) (hdb : (x == ("__debug__" : Str)) = false := by decide) :
    SE T W X (.Call (.Name x p) [] [] pos) (tCallG 0 (spD T n m) (· ++ dvs) (WE W) tNil) (fCall m [] dfl fNil) :=
  ⟨pe_callG0 Fn hr gd hg hm hk hb (fun σ => passAt tk σ) hdb, fcall_run (ms := []) (sa_nil (X := X)).2 hd (fun vs h => by rw [List.length_append, h]; exact (Nat.zero_add _).trans hn) ar_nil⟩
/-! .. with keywords, all arguments as data -/
def fCallK (m : FM) (perm : List D → List D) (fa : FA) : FE := fun e => do
  let (ps, e1) ← fa e
  let (ds, e2) ← settleL e1 ps
  match m ((perm ds).map Sl.va) with
  | .ok (p, _) => .ok (p, e2)
  | .ex c d _ => .ex c d e2
  | .no => .no
def SK (T : Tb) (W : WX) (X : Cx) (kws : List Keyword) (t : TA) (f : FA) : Prop := PK X kws t ∧ ∀ (Pr : Hp) (A : Nat → Option Addr) (G H : Hp) (σ : St) (e : Env) (Q : List V → Hp → Prop), SR ⟨T, Pr, A⟩ G H σ e → OkE ⟨T, Pr, A⟩ W σ G Q (fun G' _ _ ps vs => PVL ⟨T, Pr, A⟩ G' σ ps vs) (f e) → t σ H Q
theorem fcallK_run {ta : TA} {m : FM} {perm : List D → List D} {gV : List V → List V} {fa : FA} {n N : Nat} (qa : ∀ (Pr : Hp) (A : Nat → Option Addr) (G H : Hp) (σ : St) (e : Env) (Q : List V → Hp → Prop), SR ⟨T, Pr, A⟩ G H σ e → OkE ⟨T, Pr, A⟩ W σ G Q (fun G' _ _ ps vs => PVL ⟨T, Pr, A⟩ G' σ ps vs) (fa e) → ta σ H Q)
    (hp : ∀ G ds xs, RpL T G ds xs → ds.length = N → RpL T G (perm ds) (gV xs) ∧ (perm ds).length = n) (hz : ∀ e ps e', fa e = .ok (ps, e') → ps.length = N) (Pr : Hp) (A : Nat → Option Addr) (G H : Hp) (σ : St) (e : Env) (Q : VK)
    (s : SR ⟨T, Pr, A⟩ G H σ e) (h : OkE ⟨T, Pr, A⟩ W σ G Q (rPV ⟨T, Pr, A⟩ σ) (fCallK m perm fa e)) : tCallG N (spD T n m) gV (WE W) ta σ H Q := by
  refine qa Pr A G H σ e _ s ?_
  cases q0 : fa e with
  | no => unfold fCallK at h; rw [q0] at h; exact h
  | ex c d e' => unfold fCallK at h; rw [q0] at h; exact h
  | ok a =>
    obtain ⟨ps, e1⟩ := a
    intro vs G1 H1 x1 s1 q1
    unfold fCallK at h
    rw [q0] at h
    simp only [R.bind_ok] at h
    have h := h.ext x1
    obtain ⟨⟨ds, e2⟩, l1, h2⟩ := no_of (fun _ _ _ => settleL_nx) h
    obtain ⟨G2, x2, s2, q2⟩ := settleL_ok s1 q1 l1
    have hN := hz _ _ _ q0
    have hl : ds.length = N := by rw [← RpL.length q2, PVL.length q1]; exact hN
    obtain ⟨rp, ln⟩ := hp G2 ds vs q2 hl
    have ak : ArgOk T G2 H1 [] [] := ⟨fun i d z => (by cases z), fun i b d z => (by cases z), fun i j b d b2 d2 p z _ _ _ => (by cases z)⟩
    have ak2 := ak.app rfl rp
    refine ⟨by rw [PVL.length q1]; exact hN, by rw [RpL.length rp]; exact ln, G2, (perm ds).map Sl.va, s2.sub, by rw [List.length_map]; exact ln, ak2, ?_⟩
    have h4 := h2.ext x2
    dsimp only at h4
    revert h4
    cases m ((perm ds).map Sl.va) with
    | no => exact fun h => h
    | ex c d s' =>
      intro h4 dct v f G' H' a r nm y
      obtain ⟨xx, ss⟩ := call_aft (ps := []) (vs := []) (sls := []) s2 rfl rfl a
      exact h4 dct v f G' H' xx (by rw [upds_nil] at ss; exact ss) r nm y
    | ok b =>
      obtain ⟨pv, s'⟩ := b
      intro h4 v G' H' a r
      obtain ⟨xx, ss⟩ := call_aft (ps := []) (vs := []) (sls := []) s2 rfl rfl a
      rw [upds_nil] at ss
      refine h4 v G' H' xx ss ?_
      cases pv with
      | d d => exact r
      | sl i => exact r.elim
      | nw d =>
        obtain ⟨p, rfl, r1, r2, r3⟩ := r
        have f1 := s2.fresh r1
        exact ⟨p, rfl, f1.1, r2, f1.2.2, r3⟩
theorem sk_nil : SK T W X [] tNil fNil := ⟨pk_nil, (sa_nil (X := X)).2⟩
theorem sk_cons {a : Expr} {kws : List Keyword} {ta : TE} {tr : TA} {fa : FE} {fr : FA} {nm : Option Str} {kpos : Pos} (ha : SE T W X a ta fa) (hr : SK T W X kws tr fr) : SK T W X (⟨nm, a, kpos⟩ :: kws) (tCons ta tr) (fCons fa fr) :=
  ⟨pk_cons ha.1 hr.1, cons_run ha.2 hr.2⟩
theorem se_callK0 {f : Addr} {fd : FuncData} {ps ks : List Str} {k : Nat} {x : Str} {p pos : Pos} {kws : List Keyword} {tk : TA} {fk : FA} {m : FM} {g : List Value → List Value} {gV : List V → List V} {perm : List D → List D} {n : Nat}
    (Fn : FnG X.prog X.w X.K X.mg X.base k f fd ps (spD T n m)) (tks : Takes X W) (hr : Room k X.A) (gd : X.A.guards = some []) (hg : Gl X x) (hm : X.mg x = some (.ref f)) (hk : PySem.W.keepIn X.K (.ref f) = true) (hb : Bd X.K fd ps ks 0 g gV)
    (hp : ∀ G ds xs, RpL T G ds xs → ds.length = ks.length → RpL T G (perm ds) (gV xs) ∧ (perm ds).length = n) (ha : SK T W X kws tk fk) (hz : Ar fk ks.length) (hall : (backToKw pos (keywordEach kws X.env)).all (·.1.isSome) = true := by rfl) (hks : (backToKw pos (keywordEach kws X.env)).filterMap (·.1) = ks := by rfl)
    (hdb : (x == ("__debug__" : Str)) = false := by decide) (hpl : ((backTo pos (starEach [] X.env)).any (·.1) || (backToKw pos (keywordEach kws X.env)).any (·.1.isNone)) = false := by rfl) :
    SE T W X (.Call (.Name x p) [] kws pos) (tCallG ks.length (spD T n m) gV (WE W) tk) (fCallK m perm fk) :=
  ⟨pe_callGk0 Fn hr gd hg hm hk hb (fun σ => passAt tks σ) ha.1 hall hks hdb hpl, fcallK_run ha.2 hp hz⟩
end
end DL
set_option Elab.async false
set_option linter.all false
set_option maxRecDepth 100000
set_option maxHeartbeats 4000000
namespace DL
open PySem PySem.Spec PyProof.Rows L2

section
variable {T : Tb} {X : Cx} {G H : Hp}
theorem OpD.or {r r' : R2} {op : D → D → Option RV} {op' : D → D → Option RV} (h : OpD T r op) (h' : OpD T r' op') : OpD T (fun x y H Q => r x y H Q ∨ r' x y H Q) (fun a b => match op a b with | some x => some x | none => op' a b) := by
  intro G H x y dx dy rv Q sub px py ho q
  dsimp only at ho
  split at ho
  · rename_i z hz; cases ho; exact .inl (h G H x y dx dy _ Q sub px py hz q)
  · exact .inr (h' G H x y dx dy rv Q sub px py ho q)
theorem str_val {l : List Nat} : Rp T G (.str l) (.str (S l)) := by simp only [Rp]
theorem int_val {i : Int} : Rp T G (.int i) (.int i) := by simp only [Rp]
theorem bl_val {b : Bool} : Rp T G (.bl b) (.bl b) := by simp only [Rp]
theorem non_val : Rp T G .non .non := by simp only [Rp]
theorem S_app (a b : List Nat) : S a ++ S b = S (a ++ b) := by
  show Str.append (S a) (S b) = _
  simp [S, Str.append]
theorem S_len (a : List Nat) : (S a).length = a.length := by simp [S, Str.length]
theorem S_inj {a b : List Nat} (h : S a = S b) : a = b := by
  have := congrArg (fun x : Str => x.cps.toList) h
  simpa [S] using this

/-! ### + -/
def rAddS : R2 := fun x y H Q => ∃ i j, x = .str i ∧ y = .str j ∧ i.length + j.length ≤ sizeLine ∧ Q (.str (i ++ j)) H
def oAddI : D → D → Option RV
  | .int i, .int j => some (.at (.int (i + j)))
  | _, _ => none
def oAddS : D → D → Option RV
  | .str a, .str b => if a.length + b.length ≤ LIM then some (.at (.str (a ++ b))) else none
  | _, _ => none
def oAddL : D → D → Option RV
  | .lst a, .lst b => if a.length + b.length ≤ LIM then some (.ls (a ++ b)) else none
  | _, _ => none
theorem d_addI : OpD T (rI0 fun i j => .int (i + j)) oAddI := by
  intro G H x y dx dy rv Q sub px py ho q
  unfold oAddI at ho
  split at ho
  · cases ho
    rw [pk_int px, pk_int py]
    exact ⟨_, _, rfl, rfl, q _ int_val⟩
  · cases ho
theorem d_addS : OpD T rAddS oAddS := by
  intro G H x y dx dy rv Q sub px py ho q
  unfold oAddS at ho
  split at ho
  · split at ho
    · rename_i hl
      cases ho
      rw [pk_str px, pk_str py]
      exact ⟨_, _, rfl, rfl, by rw [S_len, S_len]; exact Nat.le_trans hl lim_le, by rw [S_app]; exact q _ str_val⟩
    · cases ho
  · cases ho
theorem d_addL : OpD T rCat oAddL := by
  intro G H x y dx dy rv Q sub px py ho q
  unfold oAddL at ho
  split at ho
  · split at ho
    · rename_i hl
      cases ho
      obtain ⟨a, xs, rfl, h1, r1⟩ := pk_lst sub px
      obtain ⟨b, ys, rfl, h2, r2⟩ := pk_lst sub py
      exact ⟨a, b, xs, ys, rfl, rfl, h1, h2, by rw [RpL.length r1, RpL.length r2]; exact Nat.le_trans hl lim_le, fun p hp => q p _ hp (r1.append r2)⟩
    · cases ho
  · cases ho
@[simp] def oAdd : D → D → Option RV
  | .int i, .int j => some (.at (.int (i + j)))
  | .str a, .str b => if a.length + b.length ≤ LIM then some (.at (.str (a ++ b))) else none
  | .lst a, .lst b => if a.length + b.length ≤ LIM then some (.ls (a ++ b)) else none
  | _, _ => none
abbrev rAddA : R2 := fun x y H Q => (rI0 fun i j => .int (i + j)) x y H Q ∨ (rAddS x y H Q ∨ rCat x y H Q)
theorem op_addA : OpR X (binaryOp .Add) rAddA := op_add.or (OpR.or (r := rAddS) op_add_str op_cat)
theorem iop_addA : OpR X (inplaceOp .Add) (fun x y H Q => (rI0 fun i j => .int (i + j)) x y H Q ∨ rAddS x y H Q) := OpR.or iop_add (r' := rAddS) iop_add_str
theorem d_add : OpD T rAddA oAdd := by
  intro G H x y dx dy rv Q sub px py ho q
  unfold oAdd at ho
  split at ho
  · exact .inl (d_addI G H x y _ _ rv Q sub px py ho q)
  · exact .inr (.inl (d_addS G H x y _ _ rv Q sub px py ho q))
  · exact .inr (.inr (d_addL G H x y _ _ rv Q sub px py ho q))
  · cases ho
@[simp] def oAugAdd : D → D → Option RV
  | .int i, .int j => some (.at (.int (i + j)))
  | .str a, .str b => if a.length + b.length ≤ LIM then some (.at (.str (a ++ b))) else none
  | _, _ => none
theorem d_augAdd : OpD T (fun x y H Q => (rI0 fun i j => .int (i + j)) x y H Q ∨ rAddS x y H Q) oAugAdd := by
  intro G H x y dx dy rv Q sub px py ho q
  unfold oAugAdd at ho
  split at ho
  · exact .inl (d_addI G H x y _ _ rv Q sub px py ho q)
  · exact .inr (d_addS G H x y _ _ rv Q sub px py ho q)
  · cases ho
/-! ### other arithmetic -/
@[simp] def oI (C : Int → Int → Bool) (g : Int → Int → Int) : D → D → Option RV
  | .int i, .int j => if C i j = true then some (.at (.int (g i j))) else none
  | _, _ => none
theorem d_I {C : Int → Int → Prop} {Cb : Int → Int → Bool} {g : Int → Int → Int} (h : ∀ i j, Cb i j = true → C i j) : OpD T (rI C fun i j => .int (g i j)) (oI Cb g) := by
  intro G H x y dx dy rv Q sub px py ho q
  unfold oI at ho
  split at ho
  · split at ho
    · rename_i hc
      cases ho
      rw [pk_int px, pk_int py]
      exact ⟨_, _, rfl, rfl, h _ _ hc, q _ int_val⟩
    · cases ho
  · cases ho
@[simp] def oI0 (g : Int → Int → Int) : D → D → Option RV
  | .int i, .int j => some (.at (.int (g i j)))
  | _, _ => none
theorem d_I0 {g : Int → Int → Int} : OpD T (rI0 fun i j => .int (g i j)) (oI0 g) := by
  intro G H x y dx dy rv Q sub px py ho q
  unfold oI0 at ho
  split at ho
  · cases ho
    rw [pk_int px, pk_int py]
    exact ⟨_, _, rfl, rfl, q _ int_val⟩
  · cases ho
@[simp] def oB0 (g : Int → Int → Bool) : D → D → Option RV
  | .int i, .int j => some (.at (.bl (g i j)))
  | _, _ => none
theorem d_B0 {g : Int → Int → Bool} : OpD T (rI0 fun i j => .bl (g i j)) (oB0 g) := by
  intro G H x y dx dy rv Q sub px py ho q
  unfold oB0 at ho
  split at ho
  · cases ho
    rw [pk_int px, pk_int py]
    exact ⟨_, _, rfl, rfl, q _ bl_val⟩
  · cases ho
@[simp] abbrev oSub := oI0 fun i j => i - j
@[simp] abbrev oLt := oB0 fun i j => decide (i < j)
@[simp] abbrev oLe := oB0 fun i j => decide (i ≤ j)
@[simp] abbrev oGt := oB0 fun i j => decide (j < i)
@[simp] abbrev oGe := oB0 fun i j => decide (j ≤ i)
@[simp] def cMod (_ j : Int) : Bool := decide (0 < j)
@[simp] abbrev oMod := oI cMod fun i j => i % j
theorem d_mod : OpD T (rI (fun _ j => 0 < j) fun i j => .int (i % j)) oMod := d_I fun i j h => of_decide_eq_true h
@[simp] def cDiv (_ j : Int) : Bool := decide (0 < j) && decide (j < 1073741824)
@[simp] abbrev oDiv := oI cDiv fun i j => i / j
theorem d_div : OpD T (rI CDiv fun i j => .int (i / j)) oDiv := d_I fun i j h => by
  simp only [cDiv, Bool.and_eq_true, decide_eq_true_eq] at h; exact h
@[simp] def cPow (i j : Int) : Bool := decide (0 ≤ j) && decide (j ≤ 1000) && decide (-(2 ^ 60) < i) && decide (i < 2 ^ 60)
@[simp] abbrev oPow := oI cPow fun i j => i ^ j.toNat
theorem d_pow : OpD T (rI CPow fun i j => .int (i ^ j.toNat)) oPow := d_I fun i j h => by
  simp only [cPow, Bool.and_eq_true, decide_eq_true_eq] at h
  obtain ⟨⟨⟨h1, h2⟩, h3⟩, h4⟩ := h
  exact ⟨h1, by omega, by omega⟩
@[simp] def oNeg : D → Option RV
  | .int i => some (.at (.int (-i)))
  | _ => none
theorem d_neg : UnD T (rU fun i => .int (-i)) oNeg := by
  intro G H x dx rv Q sub px ho q
  unfold oNeg at ho
  split at ho
  · cases ho
    rw [pk_int px]
    exact ⟨_, rfl, q _ int_val⟩
  · cases ho
/-! ### * -/
def cMul (i j : Int) : Bool := (decide (-(2 ^ 64) < i) && decide (i < 2 ^ 64)) || (decide (-(2 ^ 64) < j) && decide (j < 2 ^ 64))
def rMulS : R2 := fun x y H Q => ∃ (i : Str) (n : Int), x = .str i ∧ y = .int n ∧ -(2 ^ 62) < n ∧ n < 2 ^ 62 ∧ i.length * n.toNat ≤ 1000000 ∧ Q (.str (Txt.mul i n)) H
theorem op_mulS : OpR X (binaryOp .Mult) rMulS := by
  intro pins s σ H x y v u Q I rx ry h
  obtain ⟨i, n, rfl, rfl, h1, h2, h3, q⟩ := h
  obtain ⟨t, rfl⟩ := rx
  obtain ⟨t', rfl⟩ := ry
  refine SB.mul ⟨?_, fun a b => ?_, fun a b => ?_⟩ fun t' k => ⟨.str (Txt.mul i n), H, I.tok _, ⟨_, rfl⟩, q⟩
  · simp only [Bool.or_eq_false_iff, decide_eq_false_iff_not]; omega
  · have hn : 1 ≤ n := by omega
    have h4 : (i.length : Int) * n ≤ 1000000 := by
      have : ((i.length * n.toNat : Nat) : Int) ≤ 1000000 := by omega
      rw [Int.natCast_mul, Int.toNat_of_nonneg (by omega)] at this
      exact this
    intro z
    have h5 : (2 ^ 63 - 1) / n < (i.length : Int) := z
    have h6 := (Int.ediv_lt_iff_lt_mul (by omega : 0 < n)).mp h5
    omega
  · unfold Builtin.Str.tooLong
    simp only [decide_eq_false_iff_not]
    have : (1000000 : Nat) < sizeLine := by decide
    omega
theorem mul_S (l : List Nat) (n : Int) : Txt.mul (S l) n = S (List.replicate n.toNat l).flatten := by
  have fold : ∀ (k : Nat) (acc : Array Nat), (List.replicate k l.toArray).foldl (· ++ ·) acc = acc ++ ((List.replicate k l).flatten).toArray := by
    intro k
    induction k with
    | zero => intro acc; simp
    | succ k ih => intro acc; simp only [List.replicate_succ, List.foldl_cons, ih, List.flatten_cons]; simp
  unfold Txt.mul
  by_cases h1 : n < 1
  · rw [if_pos h1, show n.toNat = 0 by omega]; rfl
  · rw [if_neg h1]
    by_cases h2 : (n == 1 || (S l).length == 0) = true
    · rw [if_pos h2]
      simp only [Bool.or_eq_true, beq_iff_eq] at h2
      rcases h2 with h2 | h2
      · subst h2; simp
      · rw [S_len] at h2
        have : l = [] := List.length_eq_zero_iff.mp h2
        subst this
        have : ∀ k, (List.replicate k ([] : List Nat)).flatten = [] := by intro k; induction k with | zero => rfl | succ k ih => simp [List.replicate_succ, ih]
        rw [this]
    · rw [if_neg h2, fold]; simp
@[simp] def oMul : D → D → Option RV
  | .int i, .int j => if cMul i j = true then some (.at (.int (i * j))) else none
  | .str l, .int n => if (decide (-(2 ^ 62) < n) && decide (n < 2 ^ 62) && decide (l.length * n.toNat ≤ LIM)) = true then some (.at (.str (List.replicate n.toNat l).flatten)) else none
  | .lst l, .int n => if (decide (-(2 ^ 62) < n) && decide (n < 2 ^ 62) && decide (l.length * n.toNat ≤ LIM)) = true then some (.ls (List.replicate n.toNat l).flatten) else none
  | _, _ => none
abbrev rMulA : R2 := fun x y H Q => (rI CMul fun i j => .int (i * j)) x y H Q ∨ (rMulS x y H Q ∨ rRep x y H Q)
theorem op_mulA : OpR X (binaryOp .Mult) rMulA := op_mul.or (op_mulS.or op_rep)
theorem rep_rpl {l : List D} {xs : List V} (h : RpL T G l xs) : ∀ n : Nat, RpL T G (List.replicate n l).flatten (List.replicate n xs).flatten
  | 0 => RpL.nil
  | n + 1 => by simp only [List.replicate_succ, List.flatten_cons]; exact h.append (rep_rpl h n)
theorem d_mul : OpD T rMulA oMul := by
  intro G H x y dx dy rv Q sub px py ho q
  unfold oMul at ho
  split at ho
  · split at ho
    · rename_i hc
      cases ho
      rw [pk_int px, pk_int py]
      refine .inl ⟨_, _, rfl, rfl, ?_, q _ int_val⟩
      simp only [cMul, Bool.or_eq_true, Bool.and_eq_true, decide_eq_true_eq] at hc
      exact hc
    · cases ho
  · split at ho
    · rename_i hc
      cases ho
      rw [pk_str px, pk_int py]
      simp only [Bool.and_eq_true, decide_eq_true_eq] at hc
      refine .inr (.inl ⟨_, _, rfl, rfl, hc.1.1, hc.1.2, by rw [S_len]; exact hc.2, ?_⟩)
      rw [mul_S]; exact q _ str_val
    · cases ho
  · split at ho
    · rename_i hc
      cases ho
      obtain ⟨a, xs, rfl, h1, r1⟩ := pk_lst sub px
      rw [pk_int py]
      simp only [Bool.and_eq_true, decide_eq_true_eq] at hc
      refine .inr (.inr ⟨a, _, xs, rfl, rfl, h1, by omega, by omega, ?_, fun p hp => q p _ hp (rep_rpl r1 _)⟩)
      rw [RpL.length r1]; exact Nat.le_trans hc.2 lim_le
    · cases ho
  · cases ho

/-! ### == -/
mutual
def toPy : D → Option PyData
  | .non => some .none
  | .bl b => some (.bool b)
  | .int i => some (.int i)
  | .str l => some (.str (S l))
  | .lst ds => match toPyL ds with | some ps => some (.list ps) | none => none
  | .tup ds => match toPyL ds with | some ps => some (.tuple ps) | none => none
  | _ => none
def toPyL : List D → Option (List PyData)
  | [] => some []
  | d :: ds => match toPy d, toPyL ds with | some p, some ps => some (p :: ps) | _, _ => none
end
mutual
def eqD : D → D → Bool
  | .non, .non => true
  | .bl a, .bl b => a == b
  | .bl a, .int j => (if a then 1 else 0) == j
  | .int i, .bl b => i == (if b then 1 else 0)
  | .int i, .int j => i == j
  | .str x, .str y => x == y
  | .lst xs, .lst ys => eqDL xs ys
  | .tup xs, .tup ys => eqDL xs ys
  | _, _ => false
def eqDL : List D → List D → Bool
  | [], [] => true
  | x :: xs, y :: ys => eqD x y && eqDL xs ys
  | _, _ => false
end
mutual
/-- nested at most n deep, signs in range -/
def okD : Nat → D → Bool
  | _, .non => true
  | _, .bl _ => true
  | _, .int _ => true
  | _, .str l => l.all (· < 0x110000)
  | n + 1, .lst ds => okDL n ds
  | n + 1, .tup ds => okDL n ds
  | _, _ => false
def okDL : Nat → List D → Bool
  | _, [] => true
  | n, d :: ds => okD n d && okDL n ds
end
mutual
theorem ok_py : ∀ (n : Nat) (d : D), okD n d = true → ∃ p, toPy d = some p ∧ p.canLay0 = true ∧ p.depth ≤ n
  | n, .non, h => ⟨.none, by simp only [toPy], by simp only [PyData.canLay0], by simp only [PyData.depth]; omega⟩
  | n, .bl b, h => ⟨.bool b, by simp only [toPy], by simp only [PyData.canLay0], by simp only [PyData.depth]; omega⟩
  | n, .int i, h => ⟨.int i, by simp only [toPy], by simp only [PyData.canLay0], by simp only [PyData.depth]; omega⟩
  | n, .str l, h => ⟨.str (S l), by simp only [toPy], by
      simp only [okD] at h
      simp only [PyData.canLay0, PyData.strOk]
      simpa [S] using h, by simp only [PyData.depth]; omega⟩
  | 0, .lst ds, h => by simp only [okD] at h; cases h
  | 0, .tup ds, h => by simp only [okD] at h; cases h
  | n + 1, .lst ds, h => by
    simp only [okD] at h
    obtain ⟨ps, h1, h2, h3⟩ := ok_pyL n ds h
    exact ⟨.list ps, by simp only [toPy, h1], by simp only [PyData.canLay0]; exact h2, by simp only [PyData.depth]; omega⟩
  | n + 1, .tup ds, h => by
    simp only [okD] at h
    obtain ⟨ps, h1, h2, h3⟩ := ok_pyL n ds h
    exact ⟨.tuple ps, by simp only [toPy, h1], by simp only [PyData.canLay0]; exact h2, by simp only [PyData.depth]; omega⟩
  | n, .dic _ _, h => by simp only [okD] at h; cases h
  | n, .obj _ _, h => by simp only [okD] at h; cases h
  | n, .fro _, h => by simp only [okD] at h; cases h
theorem ok_pyL : ∀ (n : Nat) (ds : List D), okDL n ds = true → ∃ ps, toPyL ds = some ps ∧ PyData.canLayAll0 ps = true ∧ PyData.depthAll ps ≤ n
  | n, [], h => ⟨[], by simp only [toPyL], by simp only [PyData.canLayAll0], by simp only [PyData.depthAll]; omega⟩
  | n, d :: ds, h => by
    simp only [okDL, Bool.and_eq_true] at h
    obtain ⟨p, h1, h2, h3⟩ := ok_py n d h.1
    obtain ⟨ps, g1, g2, g3⟩ := ok_pyL n ds h.2
    exact ⟨p :: ps, by simp only [toPyL, h1, g1], by simp only [PyData.canLayAll0, h2, g2, Bool.and_true], by simp only [PyData.depthAll]; omega⟩
end
mutual
theorem py_dp {K : PySem.W.Frag} (sub : Sub G H) : ∀ (d : D) (p : PyData) (v : V), toPy d = some p → Rp T G d v → Dp K H v p
  | .non, p, v, h, r => by simp only [toPy] at h; cases h; simp only [Rp] at r; subst r; exact .non
  | .bl b, p, v, h, r => by simp only [toPy] at h; cases h; simp only [Rp] at r; subst r; exact .bl b
  | .int i, p, v, h, r => by simp only [toPy] at h; cases h; simp only [Rp] at r; subst r; exact .int i
  | .str l, p, v, h, r => by simp only [toPy] at h; cases h; simp only [Rp] at r; subst r; exact .str _
  | .lst ds, p, v, h, r => by
    simp only [toPy] at h
    split at h
    · rename_i ps hp
      cases h
      simp only [Rp] at r
      obtain ⟨a, xs, rfl, h1, h2⟩ := r
      exact .lst (.inl (.inl (sub _ _ h1))) (py_dpL sub ds ps xs hp h2)
    · cases h
  | .tup ds, p, v, h, r => by
    simp only [toPy] at h
    split at h
    · rename_i ps hp
      cases h
      simp only [Rp] at r
      obtain ⟨a, xs, rfl, h1, h2⟩ := r
      exact .tup (.inl (.inl (sub _ _ h1))) (py_dpL sub ds ps xs hp h2)
    · cases h
  | .dic _ _, p, v, h, r => by simp only [toPy] at h; cases h
  | .obj _ _, p, v, h, r => by simp only [toPy] at h; cases h
  | .fro _, p, v, h, r => by simp only [toPy] at h; cases h
theorem py_dpL {K : PySem.W.Frag} (sub : Sub G H) : ∀ (ds : List D) (ps : List PyData) (vs : List V), toPyL ds = some ps → RpL T G ds vs → DpAll K H vs ps
  | [], ps, vs, h, r => by simp only [toPyL] at h; cases h; simp only [RpL] at r; subst r; exact .nil
  | d :: ds, ps, vs, h, r => by
    simp only [toPyL] at h
    split at h
    · rename_i p ps' h1 h2
      cases h
      simp only [RpL] at r
      obtain ⟨x, r', rfl, r1, r2⟩ := r
      exact .cons (py_dp sub d p x h1 r1) (py_dpL sub ds ps' r' h2 r2)
    · cases h
end
theorem pk_dp {K : PySem.W.Frag} (sub : Sub G H) {d : D} {p : PyData} {v : V} (h : toPy d = some p) (r : Pk T G H v d) : Dp K H v p := by
  rcases r with r | ⟨a, rfl, r⟩
  · exact py_dp sub d p v h r
  · cases d with
    | lst ds =>
      simp only [toPy] at h
      split at h
      · rename_i ps hp
        cases h
        obtain ⟨xs, h1, h2⟩ := r
        exact .lst (.inl (.inl h1)) (py_dpL sub ds ps xs hp h2)
      · cases h
    | _ => first | exact r.elim | (simp only [toPy] at h; cases h)
mutual
theorem eqv_eqD : ∀ (d e : D) (p q : PyData), toPy d = some p → toPy e = some q → PyData.eqv p q = eqD d e := by
  intro d e p q h1 h2
  cases d with
  | dic _ _ => simp only [toPy] at h1; cases h1
  | obj _ _ => simp only [toPy] at h1; cases h1
  | fro _ => simp only [toPy] at h1; cases h1
  | non =>
    simp only [toPy] at h1; cases h1
    cases e <;> simp only [toPy] at h2 <;> (try (cases h2; done)) <;> (try (split at h2)) <;> (try (cases h2; done)) <;> cases h2 <;> simp only [PyData.eqv, eqD]
  | bl b =>
    simp only [toPy] at h1; cases h1
    cases e <;> simp only [toPy] at h2 <;> (try (cases h2; done)) <;> (try (split at h2)) <;> (try (cases h2; done)) <;> cases h2 <;> simp only [PyData.eqv, eqD]
  | int b =>
    simp only [toPy] at h1; cases h1
    cases e <;> simp only [toPy] at h2 <;> (try (cases h2; done)) <;> (try (split at h2)) <;> (try (cases h2; done)) <;> cases h2 <;> simp only [PyData.eqv, eqD]
  | str l =>
    simp only [toPy] at h1; cases h1
    cases e <;> simp only [toPy] at h2 <;> (try (cases h2; done)) <;> (try (split at h2)) <;> (try (cases h2; done)) <;> cases h2 <;> simp only [PyData.eqv, eqD]
    rw [Bool.eq_iff_iff]
    simp only [beq_iff_eq]
    exact ⟨S_inj, fun z => by rw [z]⟩
  | lst ds =>
    simp only [toPy] at h1
    split at h1
    · rename_i ps hp
      cases h1
      cases e with
      | lst es =>
        simp only [toPy] at h2
        split at h2
        · rename_i qs hq
          cases h2
          simp only [PyData.eqv, eqD]
          exact eqv_eqDL ds es ps qs hp hq
        · cases h2
      | _ => simp only [toPy] at h2 <;> (try (cases h2; done)) <;> (try (split at h2)) <;> (try (cases h2; done)) <;> cases h2 <;> simp only [PyData.eqv, eqD]
    · cases h1
  | tup ds =>
    simp only [toPy] at h1
    split at h1
    · rename_i ps hp
      cases h1
      cases e with
      | tup es =>
        simp only [toPy] at h2
        split at h2
        · rename_i qs hq
          cases h2
          simp only [PyData.eqv, eqD]
          exact eqv_eqDL ds es ps qs hp hq
        · cases h2
      | _ => simp only [toPy] at h2 <;> (try (cases h2; done)) <;> (try (split at h2)) <;> (try (cases h2; done)) <;> cases h2 <;> simp only [PyData.eqv, eqD]
    · cases h1
termination_by d => sizeOf d
theorem eqv_eqDL : ∀ (ds es : List D) (ps qs : List PyData), toPyL ds = some ps → toPyL es = some qs → PyData.eqvAll ps qs = eqDL ds es
  | [], [], ps, qs, h1, h2 => by simp only [toPyL] at h1 h2; cases h1; cases h2; simp only [PyData.eqvAll, eqDL]
  | [], e :: es, ps, qs, h1, h2 => by
    simp only [toPyL] at h1 h2; cases h1
    split at h2
    · cases h2; simp only [PyData.eqvAll, eqDL]
    · cases h2
  | d :: ds, [], ps, qs, h1, h2 => by
    simp only [toPyL] at h1 h2; cases h2
    split at h1
    · cases h1; simp only [PyData.eqvAll, eqDL]
    · cases h1
  | d :: ds, e :: es, ps, qs, h1, h2 => by
    simp only [toPyL] at h1 h2
    split at h1
    · rename_i p ps' a1 a2
      cases h1
      split at h2
      · rename_i q qs' b1 b2
        cases h2
        simp only [PyData.eqvAll, eqDL]
        rw [eqv_eqD d e p q a1 b1, eqv_eqDL ds es ps' qs' a2 b2]
      · cases h2
    · cases h1
termination_by ds => sizeOf ds
end
@[simp] def scalD : D → D → Bool
  | .non, .non => true | .non, .int _ => true | .int _, .non => true | .non, .bl _ => true | .bl _, .non => true | .non, .str _ => true | .str _, .non => true
  | .int _, .int _ => true | .bl _, .bl _ => true | .str _, .str _ => true
  | .int _, .str _ => true | .str _, .int _ => true | .bl _, .str _ => true | .str _, .bl _ => true
  | _, _ => false
@[simp] def oEq (f : Bool → Bool) (a b : D) : Option RV := if (scalD a b || (okD 60 a && okD 60 b)) = true then some (.at (.bl (f (eqD a b)))) else none
abbrev rEqA (K : PySem.W.Frag) : R2 := fun x y H Q => rEq x y H Q ∨ rEqD K x y H Q
abbrev rNeA (K : PySem.W.Frag) : R2 := fun x y H Q => rNe x y H Q ∨ rNeD K x y H Q
theorem scal_of {x y : V} {a b : D} (h : scalD a b = true) (px : Pk T G H x a) (py : Pk T G H y b) : scal x y = true ∧ decide (x = y) = eqD a b := by
  unfold scalD at h
  split at h <;> first
    | exact absurd h Bool.false_ne_true
    | (first | rw [pk_non px] | rw [pk_int px] | rw [pk_bl px] | rw [pk_str px]
       first | rw [pk_non py] | rw [pk_int py] | rw [pk_bl py] | rw [pk_str py]
       refine ⟨rfl, ?_⟩
       simp only [eqD]
       first
         | rfl
         | (rw [dec_int])
         | (rw [dec_bl])
         | (rw [Bool.eq_iff_iff]; simp only [decide_eq_true_eq, beq_iff_eq]; exact ⟨fun z => S_inj (V.str.inj z), fun z => by rw [z]⟩)
         | (exact decide_eq_false (fun z => nomatch z)))
theorem d_eqA {K : PySem.W.Frag} : OpD T (rEqA K) (oEq id) := by
  intro G H x y dx dy rv Q sub px py ho q
  unfold oEq at ho
  split at ho
  · rename_i hc
    cases ho
    simp only [Bool.or_eq_true, Bool.and_eq_true] at hc
    rcases hc with hc | ⟨h1, h2⟩
    · obtain ⟨e1, e2⟩ := scal_of hc px py
      exact .inl ⟨e1, by rw [e2]; exact q _ bl_val⟩
    · obtain ⟨p, p1, p2, p3⟩ := ok_py _ _ h1
      obtain ⟨p', q1, q2, q3⟩ := ok_py _ _ h2
      refine .inr ⟨p, p', pk_dp sub p1 px, pk_dp sub q1 py, ?_, ?_, ?_⟩
      · simp only [SeqAt.shaped, Bool.and_eq_true, decide_eq_true_eq]; exact ⟨p2, by omega⟩
      · simp only [SeqAt.shaped, Bool.and_eq_true, decide_eq_true_eq]; exact ⟨q2, by omega⟩
      · rw [eqv_eqD _ _ _ _ p1 q1]; exact q _ bl_val
  · cases ho
theorem d_neA {K : PySem.W.Frag} : OpD T (rNeA K) (oEq not) := by
  intro G H x y dx dy rv Q sub px py ho q
  unfold oEq at ho
  split at ho
  · rename_i hc
    cases ho
    simp only [Bool.or_eq_true, Bool.and_eq_true] at hc
    rcases hc with hc | ⟨h1, h2⟩
    · obtain ⟨e1, e2⟩ := scal_of hc px py
      exact .inl ⟨e1, by rw [e2]; exact q _ bl_val⟩
    · obtain ⟨p, p1, p2, p3⟩ := ok_py _ _ h1
      obtain ⟨p', q1, q2, q3⟩ := ok_py _ _ h2
      refine .inr ⟨p, p', pk_dp sub p1 px, pk_dp sub q1 py, ?_, ?_, ?_⟩
      · simp only [SeqAt.shaped, Bool.and_eq_true, decide_eq_true_eq]; exact ⟨p2, by omega⟩
      · simp only [SeqAt.shaped, Bool.and_eq_true, decide_eq_true_eq]; exact ⟨q2, by omega⟩
      · rw [eqv_eqD _ _ _ _ p1 q1]; exact q _ bl_val
  · cases ho
theorem op_eqA (hu : X.A.units + 64 < cLine) : OpR X (compareOp .Eq) (rEqA X.K) := op_eq.or (op_eqD hu)
theorem op_neA (hu : X.A.units + 64 < cLine) : OpR X (compareOp .NotEq) (rNeA X.K) := op_ne.or (op_neD hu)
end
end DL
set_option Elab.async false
set_option linter.all false
set_option maxRecDepth 100000
set_option maxHeartbeats 4000000
namespace DL
open PySem PySem.Spec PyProof.Rows L2

section
variable {T : Tb} {X : Cx} {G H : Hp}
theorem S_list (l : List Nat) : (S l).cps.toList = l := by simp [S]
/-! ### is None -/
@[simp] def oIsN (f : Bool → Bool) : D → D → Option RV
  | .non, .non => some (.at (.bl (f true)))
  | _, .non => some (.at (.bl (f false)))
  | _, _ => none
theorem pk_nn {v : V} {d : D} (h : Pk T G H v d) (hd : d ≠ .non) : v ≠ .non := by
  rcases h with h | ⟨p, rfl, h⟩
  · cases d with
    | non => exact absurd rfl hd
    | bl _ => simp only [Rp] at h; rw [h]; intro z; cases z
    | int _ => simp only [Rp] at h; rw [h]; intro z; cases z
    | str _ => simp only [Rp] at h; rw [h]; intro z; cases z
    | lst _ => simp only [Rp] at h; obtain ⟨a, _, rfl, _⟩ := h; intro z; cases z
    | tup _ => simp only [Rp] at h; obtain ⟨a, _, rfl, _⟩ := h; intro z; cases z
    | dic _ _ => simp only [Rp] at h; obtain ⟨a, _, rfl, _⟩ := h; intro z; cases z
    | obj _ _ => simp only [Rp] at h; obtain ⟨a, _, _, rfl, _⟩ := h; intro z; cases z
    | fro _ => simp only [Rp] at h; obtain ⟨a, _, rfl, _⟩ := h; intro z; cases z
  · intro z; cases z
abbrev rIsN' (f : Bool → Bool) : R2 := fun x y H Q => y = .non ∧ Q (.bl (f (decide (x = .non)))) H
theorem d_isN (f : Bool → Bool) : OpD T (rIsN' f) (oIsN f) := by
  intro G H x y dx dy rv Q sub px py ho q
  unfold oIsN at ho
  split at ho
  · cases ho
    rw [pk_non px, pk_non py]
    exact ⟨rfl, q _ bl_val⟩
  · rename_i hn
    cases ho
    have e1 : decide (x = V.non) = false := decide_eq_false (pk_nn px (fun z => hn z))
    rw [pk_non py]
    refine ⟨rfl, ?_⟩
    rw [e1]; exact q _ bl_val
  · cases ho
theorem op_isN' : OpR X (compareOp .Is) (rIsN' id) := op_isN
theorem op_notN' : OpR X (compareOp .IsNot) (rIsN' not) := op_notN
/-! ### is True, is False -/
@[simp] def oIsB (f : Bool → Bool) : D → D → Option RV
  | .bl a, .bl b => some (.at (.bl (f (a == b))))
  | _, _ => none
abbrev rIsB' (f : Bool → Bool) : R2 := fun x y H Q => ∃ a b : Bool, x = .bl a ∧ y = .bl b ∧ Q (.bl (f (a == b))) H
theorem d_isB (f : Bool → Bool) : OpD T (rIsB' f) (oIsB f) := by
  intro G H x y dx dy rv Q sub px py ho q
  unfold oIsB at ho
  split at ho
  · cases ho
    rw [pk_bl px, pk_bl py]
    exact ⟨_, _, rfl, rfl, q _ bl_val⟩
  · cases ho
/-! ### in -/
@[simp] def oIn (f : Bool → Bool) : D → D → Option RV
  | .str [c], .str z => some (.at (.bl (f (z.contains c))))
  | d, .lst ds => if (okD 60 d && okDL 60 ds) = true then some (.at (.bl (f (ds.any fun z => eqD z d)))) else none
  | _, _ => none
abbrev rInC (f : Bool → Bool) : R2 := fun x y H Q => ∃ (c : Nat) (z : Str), x = .str ⟨#[c]⟩ ∧ y = .str z ∧ Q (.bl (f (decide (c ∈ z.cps.toList)))) H
abbrev rInL (K : PySem.W.Frag) (f : Bool → Bool) : R2 := fun x y H Q => ∃ d ds, Dp K H x d ∧ Dp K H y (.list ds) ∧ SeqAt.shaped d = true ∧ SeqAt.shaped (.list ds) = true ∧ Q (.bl (f (ds.any fun z => PyData.eqv z d))) H
abbrev rInA (K : PySem.W.Frag) (f : Bool → Bool) : R2 := fun x y H Q => rInC f x y H Q ∨ rInL K f x y H Q
theorem op_inA (hu : X.A.units + 65 < cLine) : OpR X (compareOp .In) (rInA X.K id) := OpR.or (r := rInC id) (r' := rInL X.K id) op_in_sign (op_inD hu)
theorem op_notInA (hu : X.A.units + 65 < cLine) : OpR X (compareOp .NotIn) (rInA X.K not) := OpR.or (r := rInC not) (r' := rInL X.K not) op_notIn_sign (op_notInD hu)
theorem any_eqv {d : D} {p : PyData} (hd : toPy d = some p) : ∀ (ds : List D) (ps : List PyData), toPyL ds = some ps → (ps.any fun z => PyData.eqv z p) = (ds.any fun z => eqD z d)
  | [], ps, h => by simp only [toPyL] at h; cases h; rfl
  | e :: ds, ps, h => by
    simp only [toPyL] at h
    split at h
    · rename_i q qs h1 h2
      cases h
      simp only [List.any_cons]
      rw [eqv_eqD e d q p h1 hd, any_eqv hd ds qs h2]
    · cases h
theorem list_depth {ps : List PyData} (h : PyData.depthAll ps ≤ 60) : (PyData.list ps).depth ≤ 64 := by
  have e : (PyData.list ps).depth = PyData.depthAll ps + 1 := by simp only [PyData.depth]
  omega
theorem d_in {K : PySem.W.Frag} (f : Bool → Bool) : OpD T (rInA K f) (oIn f) := by
  intro G H x y dx dy rv Q sub px py ho q
  unfold oIn at ho
  split at ho
  · rename_i c z
    cases ho
    rw [pk_str px, pk_str py]
    refine .inl ⟨c, S z, rfl, rfl, ?_⟩
    have e : decide (c ∈ (S z).cps.toList) = z.contains c := by
      rw [Bool.eq_iff_iff]; simp [S]
    rw [e]; exact q _ bl_val
  · rename_i ds
    split at ho
    · rename_i hc
      cases ho
      simp only [Bool.and_eq_true] at hc
      obtain ⟨p, p1, p2, p3⟩ := ok_py _ _ hc.1
      obtain ⟨ps, q1, q2, q3⟩ := ok_pyL _ _ hc.2
      refine .inr ⟨p, ps, pk_dp sub p1 px, pk_dp sub (by simp only [toPy, q1]) py, ?_, ?_, ?_⟩
      · simp only [SeqAt.shaped, Bool.and_eq_true, decide_eq_true_eq]; exact ⟨p2, by omega⟩
      · simp only [SeqAt.shaped, Bool.and_eq_true, decide_eq_true_eq, PyData.canLay0]; exact ⟨q2, list_depth q3⟩
      · rw [any_eqv p1 _ _ q1]; exact q _ bl_val
    · cases ho
  · cases ho

/-! ### subscripts -/
@[simp] def at? {α : Type} (l : List α) (i : Int) : Option α := if 0 ≤ i then l[i.toNat]? else if -(l.length : Int) ≤ i then l[(i + l.length).toNat]? else none
theorem atI_at (xs : List V) (i : Int) : atI xs i = at? xs i := by
  unfold atI at? ixN
  by_cases h : 0 ≤ i
  · rw [if_pos h, if_pos h]
    by_cases h2 : i < xs.length
    · rw [if_pos h2]; rfl
    · rw [if_neg h2]; rw [List.getElem?_eq_none (by omega)]; rfl
  · rw [if_neg h, if_neg h]
    by_cases h2 : -(xs.length : Int) ≤ i
    · rw [if_pos h2, if_pos h2]; rfl
    · rw [if_neg h2, if_neg h2]; rfl
theorem RpL.at? {l : List D} {xs : List V} (r : RpL T G l xs) {i : Int} {d : D} (h : DL.at? l i = some d) : ∃ x, DL.at? xs i = some x ∧ Rp T G d x := by
  unfold DL.at? at h ⊢
  rw [RpL.length r]
  split at h
  · rename_i h0; rw [if_pos h0]; exact r.get h
  · rename_i h0
    rw [if_neg h0]
    split at h
    · rename_i h1; rw [if_pos h1]; exact r.get h
    · cases h
@[simp] def oIx : D → D → Option RV
  | .lst l, .int i => (at? l i).map RV.at
  | .tup l, .int i => (at? l i).map RV.at
  | .str l, .int i => if l.length ≤ LIM then (at? l i).map (fun c => RV.at (.str [c])) else none
  | _, _ => none
theorem d_ix : OpD T (rIx T.K) oIx := by
  intro G H x y dx dy rv Q sub px py ho q
  unfold oIx at ho
  split at ho
  · simp only [Option.map_eq_some_iff] at ho
    obtain ⟨d, h1, rfl⟩ := ho
    obtain ⟨a, xs, rfl, h2, r⟩ := pk_lst sub px
    obtain ⟨v, h3, rv⟩ := r.at? h1
    rw [pk_int py]
    exact .inl ⟨a, xs, _, v, rfl, rfl, .inl (.inl h2), by rw [atI_at]; exact h3, q v rv⟩
  · simp only [Option.map_eq_some_iff] at ho
    obtain ⟨d, h1, rfl⟩ := ho
    obtain ⟨a, xs, rfl, h2, r⟩ := pk_tup sub px
    obtain ⟨v, h3, rv⟩ := r.at? h1
    rw [pk_int py]
    exact .inr (.inl ⟨a, xs, _, v, rfl, rfl, .inl (.inl h2), by rw [atI_at]; exact h3, q v rv⟩)
  · split at ho
    · rename_i hl
      simp only [Option.map_eq_some_iff] at ho
      obtain ⟨c, h1, rfl⟩ := ho
      rw [pk_str px, pk_int py]
      refine .inr (.inr ⟨S _, _, c, rfl, rfl, by rw [S_len]; exact Nat.le_trans hl lim_le, ?_, q _ str_val⟩)
      rw [S_list]
      unfold atI ixN
      unfold at? at h1
      split at h1
      · rename_i h0
        rw [if_pos h0]
        have := (List.getElem?_eq_some_iff.mp h1).1
        rw [if_pos (by omega)]
        exact h1
      · rename_i h0
        rw [if_neg h0]
        split at h1
        · rename_i h2; rw [if_pos h2]; exact h1
        · cases h1
    · cases ho
  · cases ho
/-! ### slices -/
def cut {α : Type} (xs : List α) (lo hi : Option Int) : List α := (xs.drop (HT.sIx xs.length 0 lo)).take (HT.sIx xs.length xs.length hi - HT.sIx xs.length 0 lo)
theorem cutS_S (l : List Nat) (lo hi : Option Int) : cutS (S l) lo hi = S (cut l lo hi) := by
  unfold cutS cut
  rw [S_len]
@[simp] def oSl : D → Option Int → Option Int → Option RV
  | .lst l, lo, hi => some (.ls (cut l lo hi))
  | .fro l, lo, hi => some (.ls (cut l lo hi))
  | .str l, lo, hi => if l.length ≤ LIM then some (.at (.str (cut l lo hi))) else none
  | _, _, _ => none
abbrev rSlA' (K : PySem.W.Frag) : V → Option Int → Option Int → Hp → VK → Prop := fun x lo hi H Q => rSlL K x lo hi H Q ∨ rSlS x lo hi H Q
theorem sl_A : SlR X (rSlA' X.K) := sl_list.or sl_str
theorem d_sl : SlD T (rSlA' T.K) oSl := by
  intro G H x dx lo hi rv Q sub px ho q
  unfold oSl at ho
  split at ho
  · cases ho
    obtain ⟨a, xs, rfl, h2, r⟩ := pk_lst sub px
    refine .inl ⟨a, xs, rfl, .inl (.inl h2), fun p hp => q p _ hp ?_⟩
    unfold cut cutV
    rw [RpL.length r]
    exact (r.drop _).take _
  · cases ho
    obtain ⟨a, xs, rfl, h2, r⟩ := pk_fro sub px
    refine .inl ⟨a, xs, rfl, h2, fun p hp => q p _ hp ?_⟩
    unfold cut cutV
    rw [RpL.length r]
    exact (r.drop _).take _
  · split at ho
    · rename_i hl
      cases ho
      rw [pk_str px]
      refine .inr ⟨S _, rfl, by rw [S_len]; exact Nat.le_trans hl lim_le, ?_⟩
      rw [cutS_S]
      exact q _ str_val
    · cases ho
  · cases ho
/-! ### built-in functions -/
@[simp] def oLen : List D → Option RV
  | [.lst l] => some (.at (.int l.length))
  | [.tup l] => some (.at (.int l.length))
  | [.fro l] => some (.at (.int l.length))
  | [.str l] => if l.length ≤ LIM then some (.at (.int l.length)) else none
  | _ => none
abbrev rLen (K : PySem.W.Frag) : List V → Hp → VK → Prop := fun xs H Q => ∃ x n, xs = [x] ∧ LenV K x H n ∧ Q (.int n) H
theorem d_len : CallD T (rLen T.K) oLen := by
  intro G H vs ds rv Q sub pk ho q
  unfold oLen at ho
  split at ho
  · cases ho
    obtain ⟨v, r, rfl, p1, rfl⟩ := pk
    obtain ⟨a, xs, rfl, h2, r⟩ := pk_lst sub p1
    refine ⟨_, _, rfl, .inl ⟨xs, .inl (.inl h2), rfl⟩, ?_⟩
    rw [RpL.length r]; exact q _ int_val
  · cases ho
    obtain ⟨v, r, rfl, p1, rfl⟩ := pk
    obtain ⟨a, xs, rfl, h2, r⟩ := pk_tup sub p1
    refine ⟨_, _, rfl, .inr ⟨xs, .inl (.inl h2), rfl⟩, ?_⟩
    rw [RpL.length r]; exact q _ int_val
  · cases ho
    obtain ⟨v, r, rfl, p1, rfl⟩ := pk
    obtain ⟨a, xs, rfl, h2, r⟩ := pk_fro sub p1
    refine ⟨_, _, rfl, .inl ⟨xs, h2, rfl⟩, ?_⟩
    rw [RpL.length r]; exact q _ int_val
  · split at ho
    · rename_i hl
      cases ho
      obtain ⟨v, r, rfl, p1, rfl⟩ := pk
      rw [pk_str p1]
      refine ⟨_, _, rfl, ⟨by rw [S_len]; exact Nat.le_trans hl lim_le, rfl⟩, ?_⟩
      rw [S_len]; exact q _ int_val
    · cases ho
  · cases ho
@[simp] def oMax2 : List D → Option RV
  | [.int i, .int j] => some (.at (.int (if j > i then j else i)))
  | _ => none
@[simp] def oMin2 : List D → Option RV
  | [.int i, .int j] => some (.at (.int (if j < i then j else i)))
  | _ => none
theorem d_max2 : CallD T (fun xs H Q => ∃ i j, xs = [.int i, .int j] ∧ Q (.int (if j > i then j else i)) H) oMax2 := by
  intro G H vs ds rv Q sub pk ho q
  unfold oMax2 at ho
  split at ho
  · cases ho
    obtain ⟨v, r, rfl, p1, v', r', rfl, p2, rfl⟩ := pk
    rw [pk_int p1, pk_int p2]
    exact ⟨_, _, rfl, q _ int_val⟩
  · cases ho
theorem d_min2 : CallD T (fun xs H Q => ∃ i j, xs = [.int i, .int j] ∧ Q (.int (if j < i then j else i)) H) oMin2 := by
  intro G H vs ds rv Q sub pk ho q
  unfold oMin2 at ho
  split at ho
  · cases ho
    obtain ⟨v, r, rfl, p1, v', r', rfl, p2, rfl⟩ := pk
    rw [pk_int p1, pk_int p2]
    exact ⟨_, _, rfl, q _ int_val⟩
  · cases ho
@[simp] def oInt : List D → Option RV
  | [.int i] => some (.at (.int i))
  | [.bl b] => some (.at (.int (if b then 1 else 0)))
  | _ => none
theorem d_int : CallD T (fun xs H Q => (∃ i, xs = [.int i] ∧ Q (.int i) H) ∨ ∃ k, xs = [.bl k] ∧ Q (.int (if k then 1 else 0)) H) oInt := by
  intro G H vs ds rv Q sub pk ho q
  unfold oInt at ho
  split at ho
  · cases ho
    obtain ⟨v, r, rfl, p1, rfl⟩ := pk
    rw [pk_int p1]
    exact .inl ⟨_, rfl, q _ int_val⟩
  · cases ho
    obtain ⟨v, r, rfl, p1, rfl⟩ := pk
    rw [pk_bl p1]
    exact .inr ⟨_, rfl, q _ int_val⟩
  · cases ho
theorem chrs_rp : ∀ l : List Nat, RpL T G (chrs l) (l.map fun c => V.str ⟨#[c]⟩)
  | [] => RpL.nil
  | c :: l => RpL.cons str_val (chrs_rp l)
/-! ### list(..) -/
@[simp] def oList : List D → Option RV
  | [.lst l] => some (.ls l)
  | [.tup l] => some (.ls l)
  | [.fro l] => some (.ls l)
  | [.str l] => if l.length ≤ LIM then some (.ls (chrs l)) else none
  | _ => none
abbrev rList1 (K : PySem.W.Frag) : List V → Hp → VK → Prop := fun xs H Q => ∃ p ys, xs = [.ref p] ∧ (SqL K H p ys ∨ SqT K H p ys) ∧ ∀ l, H l = none → Q (.ref l) (upd H l (.lst ys))
abbrev rList2 : List V → Hp → VK → Prop := fun xs H Q => ∃ z : Str, xs = [.str z] ∧ z.length ≤ sizeLine ∧ ∀ l, H l = none → Q (.ref l) (upd H l (.lst (z.cps.toList.map fun c => .str ⟨#[c]⟩)))
theorem call_list_chars (hc : X.calm = true) : CallR X (.type "list") rList2 := by
  intro pins s σ H vs us Q I r h
  obtain ⟨z, rfl, hz, q⟩ := h
  cases r with
  | cons r1 r2 =>
    cases r2
    obtain ⟨t, rfl⟩ := r1
    refine call_list_str (I.ok.hd hc) z t (fun h' tk acc' c' hk hS hacc => ?_) (by simpa [Str.length] using hz)
    have hf : H s.heap.objs.size = none := I.hok.fresh (Nat.le_refl _)
    refine ⟨.ref s.heap.objs.size, upd H s.heap.objs.size (.lst (z.cps.toList.map fun c => .str ⟨#[c]⟩)), I.laid (t' := tk) hk (Nat.le_refl _) ?_, rfl, q _ hf⟩
    refine ⟨by simpa [Str.length] using hz, acc'.toList, c', ?_, by simpa using hS⟩
    have key : ∀ (l : List Nat) (us : List Value), us.length = l.length → (∀ (j : Nat) (v : Value), us[j]? = some v → ∃ c u, l[j]? = some c ∧ v = .str ⟨#[c]⟩ u) → Vals (l.map fun c => V.str ⟨#[c]⟩) us := by
      intro l
      induction l with
      | nil =>
        intro us hl _
        have : us = [] := List.length_eq_zero_iff.mp hl
        subst this; exact .nil
      | cons c l ih =>
        intro us hl hk
        cases us with
        | nil => cases hl
        | cons u us =>
          obtain ⟨c', t', e1, e2⟩ := hk 0 u rfl
          simp at e1
          subst e1
          exact .cons ⟨t', e2⟩ (ih us (by simpa using hl) fun j v hj => by simpa using hk (j + 1) v (by simpa using hj))
    refine key _ _ (by simpa using hacc.1) fun j v hj => ?_
    obtain ⟨c, u, e1, e2⟩ := hacc.2 j v (by simpa using hj)
    exact ⟨c, u, by simpa using e1, e2⟩
theorem d_list {K : PySem.W.Frag} (hK : K = T.K) : CallD T (fun xs H Q => rList1 K xs H Q ∨ rList2 xs H Q) oList := by
  subst hK
  intro G H vs ds rv Q sub pk ho q
  unfold oList at ho
  split at ho
  · cases ho
    obtain ⟨v, r, rfl, p1, rfl⟩ := pk
    obtain ⟨a, xs, rfl, h2, r⟩ := pk_lst sub p1
    exact .inl ⟨a, xs, rfl, .inl (.inl (.inl h2)), fun p hp => q p _ hp r⟩
  · cases ho
    obtain ⟨v, r, rfl, p1, rfl⟩ := pk
    obtain ⟨a, xs, rfl, h2, r⟩ := pk_tup sub p1
    exact .inl ⟨a, xs, rfl, .inr (.inl (.inl h2)), fun p hp => q p _ hp r⟩
  · cases ho
    obtain ⟨v, r, rfl, p1, rfl⟩ := pk
    obtain ⟨a, xs, rfl, h2, r⟩ := pk_fro sub p1
    exact .inl ⟨a, xs, rfl, .inl h2, fun p hp => q p _ hp r⟩
  · split at ho
    · rename_i hl
      cases ho
      obtain ⟨v, r, rfl, p1, rfl⟩ := pk
      rw [pk_str p1]
      refine .inr ⟨S _, rfl, by rw [S_len]; exact Nat.le_trans hl lim_le, fun p hp => q p _ hp ?_⟩
      rw [S_list]
      exact chrs_rp _
    · cases ho
  · cases ho
/-! ### all, any -/
def bls : List D → Option (List Bool)
  | [] => some []
  | .bl b :: r => (bls r).map (b :: ·)
  | _ => none
theorem bls_ok : ∀ {l : List D} {xs : List V} {bs : List Bool}, bls l = some bs → RpL T G l xs → xs = bs.map V.bl
  | [], xs, bs, h, r => by cases h; simp only [RpL] at r; exact r
  | d :: l, xs, bs, h, r => by
    cases d with
    | bl b =>
      simp only [bls, Option.map_eq_some_iff] at h
      obtain ⟨bs', h1, rfl⟩ := h
      simp only [RpL, Rp] at r
      obtain ⟨x, r', rfl, rfl, r2⟩ := r
      rw [bls_ok h1 r2]; rfl
    | _ => simp only [bls] at h; cases h
@[simp] def oAll : List D → Option RV
  | [.lst l] => (bls l).map fun bs => .at (.bl (bs.all id))
  | _ => none
@[simp] def oAny : List D → Option RV
  | [.lst l] => (bls l).map fun bs => .at (.bl (bs.any id))
  | _ => none
theorem d_all : CallD T (rAll T.K) oAll := by
  intro G H vs ds rv Q sub pk ho q
  unfold oAll at ho
  split at ho
  · simp only [Option.map_eq_some_iff] at ho
    obtain ⟨bs, h1, rfl⟩ := ho
    obtain ⟨v, r, rfl, p1, rfl⟩ := pk
    obtain ⟨a, xs, rfl, h2, r⟩ := pk_lst sub p1
    exact ⟨a, bs, rfl, .inl (.inl (by rw [← bls_ok h1 r]; exact h2)), q _ bl_val⟩
  · cases ho
theorem d_any : CallD T (rAny T.K) oAny := by
  intro G H vs ds rv Q sub pk ho q
  unfold oAny at ho
  split at ho
  · simp only [Option.map_eq_some_iff] at ho
    obtain ⟨bs, h1, rfl⟩ := ho
    obtain ⟨v, r, rfl, p1, rfl⟩ := pk
    obtain ⟨a, xs, rfl, h2, r⟩ := pk_lst sub p1
    exact ⟨a, bs, rfl, .inl (.inl (by rw [← bls_ok h1 r]; exact h2)), q _ bl_val⟩
  · cases ho
/-! ### max, min, sum of a list of ints -/
def nums : List D → Option (List Int)
  | [] => some []
  | .int b :: r => (nums r).map (b :: ·)
  | _ => none
theorem nums_ok : ∀ {l : List D} {xs : List V} {bs : List Int}, nums l = some bs → RpL T G l xs → xs = bs.map V.int
  | [], xs, bs, h, r => by cases h; simp only [RpL] at r; exact r
  | d :: l, xs, bs, h, r => by
    cases d with
    | int b =>
      simp only [nums, Option.map_eq_some_iff] at h
      obtain ⟨bs', h1, rfl⟩ := h
      simp only [RpL, Rp] at r
      obtain ⟨x, r', rfl, rfl, r2⟩ := r
      rw [nums_ok h1 r2]; rfl
    | _ => simp only [nums] at h; cases h
def maxL : List Int → Option Int
  | [] => none
  | x :: r => some (r.foldl max x)
def minL : List Int → Option Int
  | [] => none
  | x :: r => some (r.foldl min x)
theorem foldl_max_ge : ∀ (r : List Int) (x : Int), x ≤ r.foldl max x ∧ (∀ y ∈ r, y ≤ r.foldl max x) ∧ (r.foldl max x = x ∨ r.foldl max x ∈ r)
  | [], x => ⟨Int.le_refl _, by simp, .inl rfl⟩
  | y :: r, x => by
    obtain ⟨h1, h2, h3⟩ := foldl_max_ge r (max x y)
    rw [List.foldl_cons]
    refine ⟨by omega, fun z hz => ?_, ?_⟩
    · rcases List.mem_cons.mp hz with rfl | hz
      · omega
      · exact h2 z hz
    · rcases h3 with h3 | h3
      · rw [h3]
        by_cases h : x ≤ y
        · rw [Int.max_eq_right h]; exact .inr List.mem_cons_self
        · rw [Int.max_eq_left (by omega)]; exact .inl rfl
      · exact .inr (List.mem_cons_of_mem _ h3)
theorem foldl_min_le : ∀ (r : List Int) (x : Int), r.foldl min x ≤ x ∧ (∀ y ∈ r, r.foldl min x ≤ y) ∧ (r.foldl min x = x ∨ r.foldl min x ∈ r)
  | [], x => ⟨Int.le_refl _, by simp, .inl rfl⟩
  | y :: r, x => by
    obtain ⟨h1, h2, h3⟩ := foldl_min_le r (min x y)
    rw [List.foldl_cons]
    refine ⟨by omega, fun z hz => ?_, ?_⟩
    · rcases List.mem_cons.mp hz with rfl | hz
      · omega
      · exact h2 z hz
    · rcases h3 with h3 | h3
      · rw [h3]
        by_cases h : x ≤ y
        · rw [Int.min_eq_left h]; exact .inl rfl
        · rw [Int.min_eq_right (by omega)]; exact .inr List.mem_cons_self
      · exact .inr (List.mem_cons_of_mem _ h3)
def oMaxL : List D → Option RV
  | [.lst l] => (nums l).bind fun bs => (maxL bs).map fun m => .at (.int m)
  | _ => none
def oMinL : List D → Option RV
  | [.lst l] => (nums l).bind fun bs => (minL bs).map fun m => .at (.int m)
  | _ => none
def oSum : List D → Option RV
  | [.lst l] => (nums l).map fun bs => .at (.int bs.sum)
  | _ => none
theorem d_maxL : CallD T (rMax T.K) oMaxL := by
  intro G H vs ds rv Q sub pk ho q
  unfold oMaxL at ho
  split at ho
  · simp only [Option.bind_eq_some_iff, Option.map_eq_some_iff] at ho
    obtain ⟨bs, h1, m, h3, rfl⟩ := ho
    obtain ⟨v, r, rfl, p1, rfl⟩ := pk
    obtain ⟨a, xs, rfl, h2, r⟩ := pk_lst sub p1
    cases bs with
    | nil => cases h3
    | cons x bs =>
      cases h3
      refine ⟨a, x :: bs, rfl, .inl (.inl (by rw [← nums_ok h1 r]; exact h2)), Nat.succ_pos _, fun m hm hall => ?_⟩
      obtain ⟨k1, k2, k3⟩ := foldl_max_ge bs x
      have e : m = bs.foldl max x := by
        have a1 : m ≤ bs.foldl max x := by
          rcases List.mem_cons.mp hm with rfl | hm
          · exact k1
          · exact k2 m hm
        have a2 : bs.foldl max x ≤ m := hall _ (k3.elim (fun z => by rw [z]; exact List.mem_cons_self) (fun z => List.mem_cons_of_mem _ z))
        omega
      rw [e]; exact q _ int_val
  · cases ho
theorem d_minL : CallD T (rMin T.K) oMinL := by
  intro G H vs ds rv Q sub pk ho q
  unfold oMinL at ho
  split at ho
  · simp only [Option.bind_eq_some_iff, Option.map_eq_some_iff] at ho
    obtain ⟨bs, h1, m, h3, rfl⟩ := ho
    obtain ⟨v, r, rfl, p1, rfl⟩ := pk
    obtain ⟨a, xs, rfl, h2, r⟩ := pk_lst sub p1
    cases bs with
    | nil => cases h3
    | cons x bs =>
      cases h3
      refine ⟨a, x :: bs, rfl, .inl (.inl (by rw [← nums_ok h1 r]; exact h2)), Nat.succ_pos _, fun m hm hall => ?_⟩
      obtain ⟨k1, k2, k3⟩ := foldl_min_le bs x
      have e : m = bs.foldl min x := by
        have a1 : bs.foldl min x ≤ m := by
          rcases List.mem_cons.mp hm with rfl | hm
          · exact k1
          · exact k2 m hm
        have a2 : m ≤ bs.foldl min x := hall _ (k3.elim (fun z => by rw [z]; exact List.mem_cons_self) (fun z => List.mem_cons_of_mem _ z))
        omega
      rw [e]; exact q _ int_val
  · cases ho
theorem d_sum : CallD T (rSum T.K) oSum := by
  intro G H vs ds rv Q sub pk ho q
  unfold oSum at ho
  split at ho
  · simp only [Option.map_eq_some_iff] at ho
    obtain ⟨bs, h1, rfl⟩ := ho
    obtain ⟨v, r, rfl, p1, rfl⟩ := pk
    obtain ⟨a, xs, rfl, h2, r⟩ := pk_lst sub p1
    exact ⟨a, bs, rfl, .inl (.inl (by rw [← nums_ok h1 r]; exact h2)), q _ int_val⟩
  · cases ho
/-! ### methods of lists -/
@[simp] def oApp : D → List D → Option (RV × D)
  | .lst l, [d] => if l.length < LIM then some (.at .non, .lst (l ++ [d])) else none
  | _, _ => none
theorem d_app : MtM T rAppend oApp := by
  intro G H p d vs ds rv d' Q sub hg hc r ho q
  unfold oApp at ho
  split at ho
  · split at ho
    · rename_i hl
      cases ho
      obtain ⟨xs, h1, h2⟩ := hc
      simp only [RpL] at r
      obtain ⟨v, r', rfl, rv, rfl⟩ := r
      refine ⟨p, xs, v, rfl, rfl, h1, by rw [RpL.length h2]; exact Nat.lt_of_lt_of_le hl lim_le, ?_⟩
      exact q _ ⟨_, upd_same, h2.append (RpL.cons rv RpL.nil)⟩ .non non_val
    · cases ho
  · cases ho
theorem seqIx_nn {i : Int} {n : Nat} (h : 0 ≤ i) (h2 : i.toNat < n) : seqIndex? i n = some i.toNat := by
  unfold seqIndex?
  have e : (if i < 0 then i + (n : Int) else i) = i := if_neg (by omega)
  simp only [e]
  rw [if_pos]
  simp only [Bool.and_eq_true, decide_eq_true_eq]; omega
@[simp] def oPopAt : D → List D → Option (RV × D)
  | .lst l, [.int i] => if 0 ≤ i then (match l[i.toNat]? with | some d => if l.length ≤ LIM then some (.at d, .lst (l.eraseIdx i.toNat)) else none | none => none) else none
  | _, _ => none
theorem RpL.erase : ∀ (n : Nat) {ds : List D} {xs : List V}, RpL T G ds xs → RpL T G (ds.eraseIdx n) (xs.eraseIdx n)
  | n, [], xs, h => by simp only [RpL] at h; subst h; exact RpL.nil
  | 0, d :: ds, xs, h => by simp only [RpL] at h; obtain ⟨x, r, rfl, h2, h3⟩ := h; exact h3
  | n + 1, d :: ds, xs, h => by
    simp only [RpL] at h
    obtain ⟨x, r, rfl, h2, h3⟩ := h
    exact RpL.cons h2 (RpL.erase n h3)
theorem d_popAt : MtM T rPopAt oPopAt := by
  intro G H p d vs ds rv d' Q sub hg hc r ho q
  unfold oPopAt at ho
  split at ho
  · split at ho
    · rename_i hi
      split at ho
      · rename_i d0 h0
        split at ho
        · rename_i hl
          cases ho
          obtain ⟨xs, h1, h2⟩ := hc
          simp only [RpL, Rp] at r
          obtain ⟨v, r', rfl, rfl, rfl⟩ := r
          obtain ⟨y, hy, ry⟩ := h2.get h0
          have hlt := (List.getElem?_eq_some_iff.mp hy).1
          have hxl := RpL.length h2
          have hL : LIM < 2 ^ 62 := by decide
          refine ⟨p, xs, _, _, y, rfl, rfl, h1, by omega, by omega, ?_, hy, ?_⟩
          · exact seqIx_nn hi hlt
          · exact q _ ⟨_, upd_same, h2.erase _⟩ y ry
        · cases ho
      · cases ho
    · cases ho
  · cases ho
@[simp] def oPop : D → List D → Option (RV × D)
  | .lst l, [] => match l[l.length - 1]? with | some d => some (.at d, .lst l.dropLast) | none => none
  | _, _ => none
theorem RpL.dropLast : ∀ {ds : List D} {xs : List V}, RpL T G ds xs → RpL T G ds.dropLast xs.dropLast := fun {ds xs} h => by
  rw [List.dropLast_eq_take, List.dropLast_eq_take, RpL.length h]
  exact h.take _
theorem d_pop : MtM T rPop oPop := by
  intro G H p d vs ds rv d' Q sub hg hc r ho q
  unfold oPop at ho
  split at ho
  · split at ho
    · rename_i d0 h0
      cases ho
      obtain ⟨xs, h1, h2⟩ := hc
      simp only [RpL] at r
      subst r
      obtain ⟨y, hy, ry⟩ := h2.get h0
      refine ⟨p, xs, y, rfl, rfl, h1, by rw [RpL.length h2]; exact hy, ?_⟩
      exact q _ ⟨_, upd_same, h2.dropLast⟩ y ry
    · cases ho
  · cases ho
@[simp] def oExt : D → List D → Option (RV × D)
  | .lst l, [.lst m] => if l.length + m.length ≤ LIM then some (.at .non, .lst (l ++ m)) else none
  | _, _ => none
theorem d_ext : MtM T rExtend oExt := by
  intro G H p d vs ds rv d' Q sub hg hc r ho q
  unfold oExt at ho
  split at ho
  · split at ho
    · rename_i hl
      cases ho
      obtain ⟨xs, h1, h2⟩ := hc
      simp only [RpL, Rp] at r
      obtain ⟨v, r', rfl, ⟨b, zs, rfl, h3, h4⟩, rfl⟩ := r
      refine ⟨p, b, xs, zs, rfl, rfl, h1, sub _ _ h3, by rw [RpL.length h2, RpL.length h4]; exact Nat.le_trans hl lim_le, ?_⟩
      exact q _ ⟨_, upd_same, h2.append h4⟩ .non non_val
    · cases ho
  · cases ho
@[simp] def oSetL : D → D → D → Option D
  | .lst l, .int i, d => if 0 ≤ i ∧ i < l.length then some (.lst (l.set i.toNat d)) else none
  | _, _, _ => none
theorem d_setL : StD T rSetL oSetL := by
  intro G H p d k v dk dv d' Q sub hg hc rk rv ho q
  unfold oSetL at ho
  split at ho
  · split at ho
    · rename_i hi
      cases ho
      obtain ⟨xs, h1, h2⟩ := hc
      simp only [Rp] at rk
      subst rk
      refine ⟨p, xs, _, _, rfl, rfl, h1, ?_, q _ ⟨_, upd_same, h2.set _ rv⟩⟩
      unfold ixN
      rw [if_pos hi.1, if_pos (by rw [RpL.length h2]; exact hi.2)]
    · cases ho
  · cases ho
end
end DL
set_option Elab.async false
set_option linter.all false
set_option maxRecDepth 100000
set_option maxHeartbeats 4000000
/-! own exception classes over any of the built-in bases -/
namespace DL
open PySem PySem.Spec PyProof.Rows L2

/-- what is known of the built-in base -/
structure XBase (B nw ini : String) (tl : List Value) : Prop where
  facts : ExcBaseFacts B nw ini tl
  passes : ∀ self, PySem.refuseLoop self "__setattr__" tl = pure ()
  object : tl.contains (.type "object") = true
abbrev tl_value : List Value := [.type "ValueError", .type "Exception", .type "BaseException", .type "object"]
theorem xb_value : XBase "ValueError" "ValueError.__new__" "ValueError.__init__" tl_value := ⟨PySem.F.excBase_ValueError, PySem.F.store_ValueError.passes, by decide +kernel⟩
abbrev tl_index : List Value := [.type "IndexError", .type "LookupError", .type "Exception", .type "BaseException", .type "object"]
theorem xb_index : XBase "IndexError" "IndexError.__new__" "IndexError.__init__" tl_index := ⟨PySem.F.excBase_IndexError, PySem.F.store_IndexError.passes, by decide +kernel⟩
abbrev tl_lookup : List Value := [.type "LookupError", .type "Exception", .type "BaseException", .type "object"]
theorem xb_lookup : XBase "LookupError" "LookupError.__new__" "LookupError.__init__" tl_lookup := ⟨PySem.F.excBase_LookupError, PySem.F.store_LookupError.passes, by decide +kernel⟩
abbrev tl_overflow : List Value := [.type "OverflowError", .type "ArithmeticError", .type "Exception", .type "BaseException", .type "object"]
theorem xb_overflow : XBase "OverflowError" "OverflowError.__new__" "OverflowError.__init__" tl_overflow := ⟨PySem.F.excBase_OverflowError, PySem.F.store_OverflowError.passes, by decide +kernel⟩
abbrev tl_runtime : List Value := [.type "RuntimeError", .type "Exception", .type "BaseException", .type "object"]
theorem xb_runtime : XBase "RuntimeError" "RuntimeError.__new__" "RuntimeError.__init__" tl_runtime := ⟨PySem.F.excBase_RuntimeError, PySem.F.store_RuntimeError.passes, by decide +kernel⟩
/-- own classes, then the base's line -/
def Line (tl l : List Value) : Prop := ∃ cs : List Addr, l = cs.map Value.ref ++ tl
theorem Line.has {tl l : List Value} (h : Line tl l) (Y : String) : l.contains (.type Y) = tl.contains (.type Y) := by
  obtain ⟨cs, rfl⟩ := h
  induction cs with
  | nil => rfl
  | cons c cs ih => rw [List.map_cons, List.cons_append, List.contains_cons, ih]; rfl
theorem Line.pass {B nw ini : String} {tl l : List Value} (b : XBase B nw ini tl) (h : Line tl l) (self : Value) : PySem.refuseLoop self "__setattr__" l = pure () := by
  obtain ⟨cs, rfl⟩ := h
  induction cs with
  | nil => exact b.passes self
  | cons c cs ih => rw [List.map_cons, List.cons_append, PySem.refuseLoop_ref]; exact ih
theorem Line.own {tl l : List Value} (h : Line tl l) (C : Addr) : Line tl (.ref C :: l) := by
  obtain ⟨cs, rfl⟩ := h
  exact ⟨C :: cs, rfl⟩
/-- what the written part says of such a class -/
structure XCls (K : PySem.W.Frag) (C : Addr) (B nw ini : String) (tl : List Value) : Prop where
  bs : XBase B nw ini tl
  here : ∃ nm q N bs bm sn sub ab col dd k0 k1 k2 k3 k5, K.lookup C = some (excClassObj nm q C N bs bm true sn sub ab col dd k0 k1 k2 k3 k5 nw) ∧ Line tl bm
  store : PySem.W.findIn K (.ref C) "__setattr__" = some (some (.builtin "object.__setattr__"))
  isE : PySem.W.subIn K (.ref C) (.type "BaseException") = some true
  ty : PySem.W.typeIn K (.ref C) = some (.type "type")
  keeps : PySem.W.keepIn K (.ref C) = true
end DL
namespace DLS
open PySem PySem.W PySem.Calls PyProof.Rows PySem.HandSPX Builtin Builtin.ObjectAttr
section
variable {prog : Program} {w : World} {A : Around} {E : Value → Shared → Prop} {R : Result → Shared → Prop} {hp : Heap} {g : Array GenState} {d : Drawn} {t : Nat} {os : OsState}
/-- the first field of an exception that has no dict yet -/
theorem store_first {K : W.Frag} {B nw ini : String} {tl : List Value} {name : Str} {tk : Tok} {v : Value} {x C : Addr} {fv : Array Value} {cd : ClassData} (b : DL.XBase B nw ini tl)
    (X : K.In hp) (hx : hp.get? x = some { cls := .ref C, data := .fields fv }) (hcd : W.clsIn K C = some cd) (hm : DL.Line tl cd.mro) (hh : cd.hasDict = true) (ha : W.findIn K (.ref C) name = some none)
    (back : ∀ h' tk' dx, (∀ c o, c ≠ x → hp.get? c = some o → h'.get? c = some o) → hp.objs.size ≤ dx → dx ≠ x → h'.get? x = some { cls := .ref C, dict := some dx, data := .fields fv } →
      h'.Ns1 dx (fun y => if y = name then some v else none) → R (.ok (.ret .none)) ⟨h', g, d, tk', os⟩) :
    codeAny (model prog w) A (.call (.builtin "object.__setattr__") ⟨[.ref x, .str name tk, v], []⟩) R ⟨hp, g, d, t, os⟩ := by
  have inst : W.InstAt hp x { cls := .ref C, data := .fields fv } C none := ⟨hx, rfl, rfl, trivial⟩
  have so := F.store_object
  have hob : cd.mro.contains (.type "object") = true := (hm.has "object").trans b.object
  have nonempty : cd.mro.isEmpty = false := by
    cases e : cd.mro with
    | nil => rw [e] at hob; cases hob
    | cons _ _ => rfl
  have apart : x ≠ hp.objs.size := Nat.ne_of_lt (Heap.lt_size hx)
  have isO : W.Looks (model prog w) hp (isInstance (.ref x) (.type "object")) true := inst.type.andThen (W.looks_mroIn X (by unfold W.mroIn; rw [hcd, Option.bind_some, if_neg (by rw [nonempty]; decide), hob]))
  refine codeAny_call_builtin so.slot.plain so.entry (@W.check_slot (model prog w) _ _ ⟨hp, g, d, t, os⟩ "object.__setattr__" "object" "__setattr__" (.ref x) [.str name tk, v] [] _ so.kind so.split isO (so.args (.ref x) (.str name tk) v) ?_)
  have line : W.Looks (model prog w) hp (mroOf (.ref C)) cd.mro := (W.looks_clsIn X hcd).andThen .now
  have nobody : W.Looks (model prog w) hp (storeTaker? none) none := .now
  have data : W.Looks (model prog w) hp (classData C) cd := W.looks_clsIn X hcd
  rw [W.osa_eq, refuse_eq]
  refine wpAny_bind (wpAny_bind (inst.type.at (wpAny_bind (line.at ?_))))
  rw [hm.pass b]
  refine wpAny_pure (wpAny_bind (inst.type.at (wpAny_bind ((W.looks_findIn X ha).at (wpAny_bind (nobody.at ?_))))))
  show wpAny _ _ (storeInOwnDict (.ref x) (.ref C) (.str name tk) name v false) _ _ _
  obtain ⟨nm, bs, mro, ns, qn, hd, sn, sb, ab, col, del⟩ := cd
  dsimp only at hh
  subst hh
  unfold storeInOwnDict ownDictForStores
  repeat (first | with_reducible refine store_in_new ?_ ?_ | with_reducible refine wpAny_loadPart_at hx ?_ | with_reducible refine data.at ?_ | wp_step)
  · exact ⟨_, #[], _, (Heap.get?_update_ne _ _ _ _ apart.symm).trans (Heap.get?_push_at rfl rfl), rfl, fun e he => absurd he (by simp), fun _ => rfl⟩
  · intro h' tk' ns' same
    have there : (hp.push { cls := .type "dict", data := .dict #[] }).get? x = some { cls := .ref C, data := .fields fv } := Heap.get?_push_of_some _ hx
    refine back h' tk' hp.objs.size (fun c o hc ho => ?_) (Nat.le_refl _) apart.symm ?_ ns'
    · exact (same.2 c (Nat.ne_of_lt (Heap.lt_size ho))).trans ((Heap.get?_update_ne _ _ _ _ hc).trans (Heap.get?_push_of_some _ ho))
    · exact (same.2 x apart).trans (Heap.get?_update_self _ there rfl)
end
end DLS
namespace DL
open PySem PySem.Spec PyProof.Rows L2
section
variable {X : Cx} {pins : List (Addr × Obj)} {σ : L2.St} {H : Hp} {s : Shared} {a C dx : Addr} {f : Str} {y : V} {u : Value} {A : Around} {B nw ini : String} {tl : List Value}
/-- self.f = y -/
theorem x_store {Q : Unit → Shared → Prop} {E : Value → Shared → Prop} (T : XCls X.K C B nw ini tl) (I : Inv X pins σ H s) (e : H a = some (exo a C none)) (no : PySem.W.findIn X.K (.ref C) f = some none) (ry : RelV y u)
    (h : ∀ dx s', H dx = none → dx ≠ a → Inv X pins σ (upd (upd H dx (exd dx [(f, y)])) a (exo a C (some dx))) s' → Q () s') : wpAny (model X.prog X.w) A (setAttr (.ref a) f u) Q E s := by
  obtain ⟨nm, q, N, bs, bm, sn, sub, ab, col, dd, k0, k1, k2, k3, k5, hC, hbm⟩ := T.here
  have hcl : PySem.W.clsIn X.K C = some { name := nm, bases := bs, mro := .ref C :: bm, ns := N, qualname := q, hasDict := true, slotNames := sn, subclasses := sub, abstract := ab, collection := col, hasDel := false } := by unfold PySem.W.clsIn; rw [hC] <;> rfl
  obtain ⟨t1, ho⟩ := exo_at I.hok e
  obtain ⟨hp, g, d, t, os⟩ := s
  refine PySem.W.set_plain I.kIn (ox := { cls := .ref C, dict := none, data := .fields #[.ref t1, .none, .none, .none, .bool false, .none] }) (od := none) ⟨ho, rfl, rfl, trivial⟩ T.store ?_
  refine DLS.store_first T.bs I.kIn ho hcl (hbm.own C) rfl no fun h' tk' dx k big ne hx hn => ?_
  have free : H dx = none := I.hok.fresh big
  have old : ∀ {b : Addr} {o : Obj}, hp.get? b = some o → b ≠ dx := fun {b o} q => Nat.ne_of_lt (Nat.lt_of_lt_of_le (Heap.lt_size q) big)
  have nota : ∀ {b : Addr}, H b = none → b ≠ a := fun {b} n z => by
    rw [z, e] at n
    cases n
  have un : Un X.fs [] H (upd (upd H dx (exd dx [(f, y)])) a (exo a C (some dx))) hp h' := {
    keep := fun b o q n _ _ => k b o (nota n) q
    slot := fun b o q n _ _ => ⟨o.slots, k b o (nota n) q⟩
    free := fun b o q n _ => by rw [upd_ne (nota n), upd_ne (old q)]; exact n
    there := fun b o q _ => by
      rcases Decidable.em (b = a) with same | other
      · exact ⟨_, by rw [same]; exact hx⟩
      · exact ⟨o, k b o other q⟩
    tups := fun b xs q => by rw [upd_ne (at_ne e q exo_tup), upd_ne (ne_of_none q free)]; exact q
    frzs := fun b o v q => by rw [upd_ne (at_ne e q exo_frz), upd_ne (ne_of_none q free)]; exact q
    tbls := fun b ps q => ⟨#[], by rw [upd_ne (at_ne e q exo_tbl), upd_ne (ne_of_none q free), q]; simp⟩ }
  refine h dx _ free ne (I.un (t' := tk') un fun b o q => ?_)
  rcases Decidable.em (b = a) with rfl | other
  · rw [upd_same] at q
    cases q
    exact exo_ok hx
  · rw [upd_ne other] at q
    rcases Decidable.em (b = dx) with rfl | far
    · rw [upd_same] at q
      cases q
      exact exd_ok hn (relO_put (fs := []) ry fun g => True.intro)
    · rw [upd_ne far] at q
      refine (I.hok b o q).stay (fun c v hc z => k c v ?_ z) (fun c hc => ?_) (fun c xs hc => ?_)
      · rcases hc with rfl | hc
        · exact other
        · exact at_ne e hc exo_own
      · rw [upd_ne (at_ne e hc exo_own), upd_ne (ne_of_none hc free)]; exact hc
      · rw [upd_ne (at_ne e hc exo_tup), upd_ne (ne_of_none hc free)]; exact hc
/-- B.__init__(self, ..) -/
theorem x_init {us : List Value} {Q : Value → Shared → Prop} {E : Value → Shared → Prop} (T : XCls X.K C B nw ini tl) (I : Inv X pins σ H s) (e : H a = some (exo a C none)) (few : us.length ≤ sizeLine) (h : ∀ s', Inv X pins σ H s' → Q .none s') :
    wpAny (model X.prog X.w) A (call (.builtin ini) (.ref a :: us)) Q E s := by
  obtain ⟨nm, q, N, bs, bm, sn, sub, ab, col, dd, k0, k1, k2, k3, k5, hC, hbm⟩ := T.here
  obtain ⟨t1, ho⟩ := exo_at I.hok e
  obtain ⟨hp, g, d, t, os⟩ := s
  refine wpAny_call (PySem.HandSPX.init_base T.bs.facts (fun Y => hbm.has Y) (I.kIn _ _ hC) ho few fun h' t2 k hx => ?_)
  have J := I.write (t' := t) (x := a) (e := a) (o := exo a C none) (by rw [e]; exact True.intro) (.inl rfl) k ⟨_, hx⟩ (exo_ok hx)
  have same : upd H a (exo a C none) = H := funext fun b => by
    rcases Decidable.em (b = a) with rfl | other
    · rw [upd_same, e]
    · rw [upd_ne other]
  rw [same] at J
  exact h _ J
end
/-- B.__init__(self, ..), B a built-in exception, or an own one without an __init__ -/
def tXI (C : Addr) (ta : TA) : TE := fun σ H Q => ta σ H fun vs H1 => ∃ (a : Addr) (ws : List V), vs = .ref a :: ws ∧ ws.length ≤ 1000 ∧ H1 a = some (exo a C none) ∧ Q .non H1
def tXS (C : Addr) (f : Str) (to te : TE) : TS := fun D σ H => te σ H fun y H1 => to σ H1 fun x H2 => ∃ a : Addr, x = .ref a ∧ H2 a = some (exo a C none) ∧ ∀ dx, H2 dx = none → dx ≠ a → D.nx σ (upd (upd H2 dx (exd dx [(f, y)])) a (exo a C (some dx)))
section
variable {X : Cx} {o e : Expr} {es : List Expr} {to te : TE} {ta : TA} {f x : Str} {p p' p1 p2 pos : Pos} {C : Addr} {B nw ini : String} {tl : List Value}
/-- how the name before the point is read -/
inductive InitOf (X : Cx) (x : Str) (ini : String) : Prop where
  | blt (B : String) (hm : X.mg x = none) (hv : bootBuiltins x = some (.type B)) (hx : x ≠ "__name__") (hs : Manifest.isStub B = false) (ht : typeOf (.type B) = pure (.type "type")) (fc : PySem.W.findCls X.K (.type B) (.type "type") "__init__" = some (.val (.builtin ini))) (hh : PySem.W.handedIn (.builtin ini) = true)
  | own (L : Addr) (hm : X.mg x = some (.ref L)) (sp : PySem.W.specialIn X.K (.ref L) "__getattribute__" = some (some (.builtin "type.__getattribute__"))) (rd : PySem.W.readsIn X.K L (.type "type") = true) (fc : PySem.W.findCls X.K (.ref L) (.type "type") "__init__" = some (.val (.builtin ini))) (hh : PySem.W.handedIn (.builtin ini) = true)
theorem pe_xinit {pl : Sem Bool} (T : XCls X.K C B nw ini tl) (hg : Gl X x) (how : InitOf X x ini) (ha : PA X (e :: es) ta) (hdb : (x == ("__debug__" : Str)) = false := by decide)
    (hc : eval (.Call (.Attribute (.Name x p1) "__init__" p2) (e :: es) [] pos) X.env = (do
      let ov ← eval (.Name x p1) X.env
      standAt p2.atName
      let (f, first) ← holding [ov] (getMethod ov "__init__" pl)
      callWith pos f first (backTo pos (starEach (e :: es) X.env)) (backToKw pos (keywordEach [] X.env))) := by rfl)
    (he : starEach (e :: es) X.env = (false, eval e X.env) :: starEach es X.env := by rfl) (hpl : (backTo pos (starEach es X.env)).any (·.1) = false := by rfl) :
    PE X (.Call (.Attribute (.Name x p1) "__init__" p2) (e :: es) [] pos) (tXI C ta) := by
  refine ⟨fun pins s σ H Q I h => ?_⟩
  have run : ∀ tk, wpAny (model X.prog X.w) X.A (callWith pos (Value.builtin ini) [] (backTo pos (starEach (e :: es) X.env)) []) (EP X pins σ Q) X.xe { s with toks := tk } := fun tk => by
    refine PyProof.Rows.callWith_method1 (thn (ha.run pos pins _ σ H _ (I.tok _) h) fun us s1 ⟨vs, H1, I1, r1, a, ws, ev, few, ea, q⟩ => ?_) he hpl
    subst ev
    cases r1 with
    | @cons _ u0 _ ur ra rw' =>
      obtain rfl : u0 = Value.ref a := ra
      have few2 : ur.length ≤ sizeLine := by
        rw [← Paired.length rw', sizeLine_eq]
        omega
      exact x_init T I1 ea few2 fun s' J => ⟨.non, H1, J, rfl, q⟩
  obtain ⟨m, fr⟩ := I.fr
  cases how with
  | blt B hm hv hx hs ht fc hh =>
    refine PySem.W.methodCall_KW (ld_blt I hg hm hv ?_ hx hdb) hc
    exact PySem.W.method_type fr I.ok.mod.kin ht hs fc hh (run _)
  | own L hm sp rd fc hh =>
    refine PySem.W.methodCall_KW (ld_glob I hg hm ?_ hdb) hc
    exact PySem.W.method_cls I.kIn sp (PySem.W.cls_value I.kIn rd fc hh (run _))
theorem ps_xstore (T : XCls X.K C B nw ini tl) (no : PySem.W.findIn X.K (.ref C) f = some none) (ho : PE X o to) (he : PE X e te) (hs : swapsWith e (some (.Attribute o f p')) pos.line X.env = pure false := by rfl) : PS X (.Assign [.Attribute o f p'] e pos) (tXS C f to te) := by
  refine ⟨fun pins s σ H D I h => ?_⟩
  refine plainObj_wpAny_Assign_Attribute (thn (he.run pins s σ H _ I h) fun v s1 ⟨y, H1, I1, r1, q1⟩ => thn (ho.run pins s1 σ H1 _ I1 q1) fun u s2 ⟨x, H2, I2, r2, a, ex, ea, q⟩ => ?_) hs
  subst ex
  obtain rfl : u = Value.ref a := r2
  exact x_store T I2 ea no r1 fun dx s' n ne J => ⟨σ, _, J, q dx n ne⟩
end
/-- what __init__(self, value) of such a class does -/
def spX (C : Addr) (f : Str) : Sp := fun vs H Q _ => ∃ (a : Addr) (v : V), vs = [.ref a, v] ∧ H a = some (exo a C none) ∧ ∀ dx, H dx = none → dx ≠ a → Q .non (upd (upd H dx (exd dx [(f, v)])) a (exo a C (some dx)))
section
variable {P : Program} {w : World} {K : PySem.W.Frag} {mg : Str → Option Value} {base : Heap} {C : Addr} {B nw ini : String} {tl : List Value}
/-- the __init__ of the text: B.__init__(self, 'text'); self.f = v -/
theorem x_def {qual f v : Str} {sd : Stmt} {fa : Addr} {fd : FuncData} {m : Str} (F : Fun K "__init__" qual sd fa fd) (S : FnScope ["self", v] ["self", v] (defScope sd))
    (hb : ∀ (cdv : Value) (A : Around) (outer : List PySem.Env) (s : Shared) (H : Hp) (E : XK), PSs (cxOf (L2.CX P w) P w K mg base ["self", v] qual (defScope sd) fa cdv A outer s H E) (defBody sd) (tSeq (tDrop (tXI C (tCons (tVar 0) (tCons (tC (.str m)) tNil)))) (tXS C f (tVar 0) (tVar 1)))) :
    FnOk P w K mg base (L2.CX P w) 1 fa fd ["self", v] (spX C f) := by
  refine Fun.okX F S (fun vs H Q E h => ?_) fun cdv A outer s H vs Q E hr h => ?_
  · obtain ⟨a, y, rfl, _⟩ := h
    rfl
  · obtain ⟨a, y, rfl, ea, q⟩ := h
    refine ⟨_, hb cdv A outer s H E, ?_⟩
    refine ⟨.ref a, rfl, a, [.str m], rfl, (by show 1 ≤ 1000; omega), ea, ?_⟩
    exact ⟨y, rfl, .ref a, rfl, a, rfl, ea, fun dx n ne => q dx n ne⟩
end
/-- C(e): the class with one field -/
def tXM (C : Addr) (f : Str) (ta : TE) : L2.St → Hp → XK → Prop := fun σ H Q => ta σ H fun v H1 => ∀ d, H1 d = none → Q (.ref C) (some d) (upd H1 d (.xd [(f, v)]))
section
variable {X : Cx} {e : Expr} {ta : TE} {f x : Str} {p pos : Pos} {C fI : Addr} {B nw ini : String} {tl : List Value} {fd : FuncData} {v : Str}
theorem pmk_x (T : XCls X.K C B nw ini tl) (iC : PySem.W.findIn X.K (.ref C) "__init__" = some (some (.ref fI))) (tI : PySem.W.typeIn X.K (.ref fI) = some (.type "function"))
    (F1 : FnOk X.prog X.w X.K X.mg X.base (L2.CX X.prog X.w) 1 fI fd ["self", v] (spX C f)) (hr : Room 2 X.A) (hb : Binds X.K fd ["self", v] []) (hg : Gl X x) (hm : X.mg x = some (.ref C)) (ha : PE X e ta)
    (hdb : (x == ("__debug__" : Str)) = false := by decide) (he : starEach [e] X.env = (false, eval e X.env) :: starEach [] X.env := by rfl) (hpl : (backTo pos (starEach [] X.env)).any (·.1) = false := by rfl) :
    PMk X (.Call (.Name x p) [e] [] pos) (tXM C f ta) := by
  intro pins s σ H Q I h
  obtain ⟨nm, q, N, bs, bm, sn, sub, ab, col, dd, k0, k1, k2, k3, k5, hC, hbm⟩ := T.here
  refine wpAny_Call_Name_kw (ld_glob I hg hm ?_ hdb)
  refine PySem.W.callWith_K (h₀ := X.base) I.ok.mod.kin T.keeps (thn ((pa_cons ha pa_nil he).run pos pins s σ H (fun vs H1 => ∃ y, vs = [y] ∧ ∀ d, H1 d = none → Q (.ref C) (some d) (upd H1 d (.xd [(f, y)]))) I (by
    show ta σ H _
    have key : (fun (x : V) H1 => tNil σ H1 fun xs H2 => (fun (vs : List V) (H1 : Hp) => ∃ y, vs = [y] ∧ ∀ d, H1 d = none → Q (.ref C) (some d) (upd H1 d (.xd [(f, y)]))) (x :: xs) H2) = (fun (v : V) H1 => ∃ y, [v] = [y] ∧ ∀ d, H1 d = none → Q (.ref C) (some d) (upd H1 d (.xd [(f, y)]))) := rfl
    rw [key]
    have key2 : (fun (v : V) (H1 : Hp) => ∃ y, [v] = [y] ∧ ∀ d, H1 d = none → Q (.ref C) (some d) (upd H1 d (.xd [(f, y)]))) = fun (v : V) (H1 : Hp) => ∀ d, H1 d = none → Q (.ref C) (some d) (upd H1 d (.xd [(f, v)])) := by
      funext v H1
      exact propext ⟨fun ⟨y, e1, z⟩ => by cases e1; exact z, fun z => ⟨v, rfl, z⟩⟩
    rw [key2]
    exact h)) fun us s1 ⟨vs, H1, I1, r1, y, ev, q1⟩ => ⟨I1.kIn, ?_⟩) he hpl
  subst ev
  show wpAny _ _ (call (.ref C) us) _ _ _
  obtain ⟨hp, g, dr, tk, os⟩ := s1
  have big : hp.objs.size ≤ hp.objs.size + 1 := Nat.le_succ _
  have free : H1 (hp.objs.size + 1) = none := I1.hok.fresh big
  have kept : ∀ b o, hp.get? b = some o → ((hp.push (PySem.W.kdv_tup us)).push (PySem.HandSPX.excO C hp.objs.size)).get? b = some o := fun b o z => Heap.get?_push_of_some _ (Heap.get?_push_of_some _ z)
  have there : ((hp.push (PySem.W.kdv_tup us)).push (PySem.HandSPX.excO C hp.objs.size)).get? (hp.objs.size + 1) = some (PySem.HandSPX.excO C hp.objs.size) := by heap_get
  have I2 : Inv X pins σ (upd H1 (hp.objs.size + 1) (exo (hp.objs.size + 1) C none)) ⟨(hp.push (PySem.W.kdv_tup us)).push (PySem.HandSPX.excO C hp.objs.size), g, dr, tk, os⟩ :=
    I1.laid (t' := tk) (a := hp.objs.size + 1) (o := exo (hp.objs.size + 1) C none) (h' := (hp.push (PySem.W.kdv_tup us)).push (PySem.HandSPX.excO C hp.objs.size)) kept big (exo_ok there)
  have r2 : Vals [V.ref (hp.objs.size + 1), y] (Value.ref (hp.objs.size + 1) :: us) := .cons rfl r1
  have few : us.length ≤ sizeLine := by
    rw [← Paired.length r1, sizeLine_eq]
    show 1 ≤ _
    omega
  have long : (Value.ref (hp.objs.size + 1) :: us ++ ([] : List Value)).length = (["self", v] : List Str).length := by
    rw [List.append_nil, ← Paired.length r2]; rfl
  have bind := hb _ (Value.ref (hp.objs.size + 1) :: us) I2.kIn long
  rw [List.append_nil] at bind
  have want : spX C f [V.ref (hp.objs.size + 1), y] (upd H1 (hp.objs.size + 1) (exo (hp.objs.size + 1) C none)) (fun r H2 => r = .non ∧ ∃ (d : Addr) (fs : List (Str × V)), H2 (hp.objs.size + 1) = some (exo (hp.objs.size + 1) C (some d)) ∧ H2 d = some (exd d fs) ∧ H1 d = none ∧ Q (.ref C) (some d) (upd (del H2 (hp.objs.size + 1)) d (.xd fs))) (fun _ _ _ => False) := by
    refine ⟨_, y, rfl, upd_same, fun dx n ne => ⟨rfl, dx, [(f, y)], upd_same, ?_, ?_, ?_⟩⟩
    · rw [upd_ne ne, upd_same]
    · rw [upd_ne ne] at n; exact n
    · have n1 : H1 dx = none := by rw [upd_ne ne] at n; exact n
      have same : upd (del (upd (upd (upd H1 (hp.objs.size + 1) (exo (hp.objs.size + 1) C none)) dx (exd dx [(f, y)])) (hp.objs.size + 1) (exo (hp.objs.size + 1) C (some dx))) (hp.objs.size + 1)) dx (.xd [(f, y)]) = upd H1 dx (.xd [(f, y)]) := funext fun b => by
        rcases Decidable.em (b = dx) with rfl | other
        · rw [upd_same, upd_same]
        · rw [upd_ne other, upd_ne other]
          rcases Decidable.em (b = hp.objs.size + 1) with rfl | far
          · rw [del_same, free]
          · rw [del_ne far, upd_ne far, upd_ne other, upd_ne far]
      rw [same]
      exact q1 dx n1
  refine wpAny_call (PySem.HandSPX.call_own T.bs.facts (fun Y => hbm.has Y) (I1.kIn _ _ hC) (PySem.W.looks_findIn I1.kIn iC) (fun self => PySem.W.bind_fn I1.kIn self tI) few
    (codeAny_mono (F1.run _ X.stack _ _ ⟨Value.ref (hp.objs.size + 1) :: us, []⟩ (Value.ref (hp.objs.size + 1) :: us) _ _ (fun _ _ _ => False) (hr.make C us []) (I2.env0.make C us []) bind r2 want) fun r s' z => ?_))
  cases r with
  | error er => exact passL pins σ _ _ er s' I2 z
  | ok fl =>
    cases fl with
    | next => exact z.elim
    | brk => exact z.elim
    | cont => exact z.elim
    | ret u =>
      obtain ⟨rv, H2, os2, bare2, un2, hok2, r, ev, d, fs, ea, ed, hd1, q2⟩ := z
      subst ev
      obtain ⟨h2, g2, d2, t2, os'⟩ := s'
      exact ⟨r, mk_end (raises_own T.isE T.ty) I1 big kept un2 hok2 os2 bare2 ea ed hd1 q2⟩
end
end DL
set_option Elab.async false
set_option linter.all false
set_option maxRecDepth 100000
set_option maxHeartbeats 4000000
/-! raise, try -/
namespace DL
open PySem PySem.Spec PyProof.Rows L2
/-! ### raise C(e) -/
def fRaise (c : Nat) (fe : FE) : FS := fun e => toS (fe e) fun (p, e1) => toS (settle e1 p) fun (d, e2) => .ex c d e2
section
variable {T : Tb} {W : WX} {X : Cx}
theorem ss_raise {x : Expr} {te : TE} {fe : FE} {c : Nat} {C : Addr} {f : Str} {y : Expr} {pos : Pos} (hc : X.calm = true) (tk : Takes X W) (hm : ∀ t, PE X y t → PMk X x (tXM C f t)) (he : SE T W X y te fe) (hC : T.cls c = (C, [f])) :
    SS T W X (.Raise (some x) none pos) (fun _ σ H => tXM C f te σ H fun cls d H' => W cls d σ H') (fRaise c fe) := by
  refine ⟨ps_raise hc tk (hm _ he.1), fun Pr A G H σ e D s h => ?_⟩
  refine he.2 Pr A G H σ e _ s (h.first fun p1 e1 v1 G1 H1 x1 s1 q1 h1 => ?_)
  dsimp only at h1
  intro dct free
  cases q2 : settle e1 p1 with
  | no => rw [q2] at h1; exact h1.elim
  | ex _ _ _ => exact absurd q2 settle_nx
  | ok a =>
    obtain ⟨d, e2⟩ := a
    rw [q2] at h1
    obtain ⟨G2, x2, s2, r2⟩ := settle_ok s1 q1 q2
    have h2 : WExS ⟨T, Pr, A⟩ W G1 c d e2 := h1
    have := h2 dct v1 f σ G2 (upd H1 dct (.xd [(f, v1)])) x2 (s2.grow (Sub.new free)) r2 (by rw [hC]) upd_same
    rw [hC] at this
    exact this
end
/-! ### the clauses of a try -/
abbrev Hd := Option Nat × Value × (Addr → Value → Option Addr → TS)
def Ends.un (D : Ends) (i : Nat) : Ends := { nx := fun σ H => D.nx (σ.set i none) H, rt := D.rt, bk := fun σ H => D.bk (σ.set i none) H, ct := fun σ H => D.ct (σ.set i none) H }
/-- a clause's suite, run for the exception at a -/
def runHd (D : Ends) (a : Addr) (cls : Value) (d : Option Addr) : Option Nat → (Addr → Value → Option Addr → TS) → L2.St → Hp → Prop
  | none, ts, σ, H => ts a cls d D σ H
  | some i, ts, σ, H => ts a cls d (Ends.un D i) (σ.set i (some (.ref a))) H
def wHds (K : PySem.W.Frag) (Wout : WX) (D : Ends) : List Hd → WX
  | [] => Wout
  | (o, c, ts) :: r => fun cls d σ H => ∃ b, PySem.W.exmOne K cls c = some b ∧ (b = true → ∀ a, H a = none → runHd D a cls d o ts σ H) ∧ (b = false → wHds K Wout D r cls d σ H)
inductive Hds (X : Cx) : List ExceptHandler → List Hd → Prop
  | nil : Hds X [] []
  | plain {x : Str} {c : Value} {ts : Addr → Value → Option Addr → TS} {b₀ : Stmt} {suite : List Stmt} {np pos' : Pos} {hds : List ExceptHandler} {l : List Hd} (hc : Names X x c)
      (hsu : ∀ (a : Addr) (oe : Obj) (cls : Value) (d : Option Addr) (pn : List (Addr × Obj)), Zc cls d oe → (∃ vs, oe.data = .fields vs) → PSs (X.suite a ((a, oe) :: pn)) (b₀ :: suite) (ts a cls d)) (r : Hds X hds l) :
      Hds X (.ExceptHandler (some (.Name x np)) none (b₀ :: suite) pos' :: hds) ((none, c, ts) :: l)
  | named {x n : Str} {i : Nat} {c : Value} {ts : Addr → Value → Option Addr → TS} {b₀ : Stmt} {suite : List Stmt} {np pos' : Pos} {hds : List ExceptHandler} {l : List Hd} (hi : X.N[i]? = some n) (hln : X.env.kindOf n = some .local) (hc : Names X x c)
      (hsu : ∀ (a : Addr) (oe : Obj) (cls : Value) (d : Option Addr) (pn : List (Addr × Obj)), Zc cls d oe → (∃ vs, oe.data = .fields vs) → PSs (X.suite a ((a, oe) :: pn)) (b₀ :: suite) (ts a cls d)) (r : Hds X hds l) :
      Hds X (.ExceptHandler (some (.Name x np)) (some n) (b₀ :: suite) pos' :: hds) ((some i, c, ts) :: l)
section
variable {X : Cx} {body : List Stmt} {h₀ : ExceptHandler} {hds : List ExceptHandler} {l : List Hd} {pos : Pos} {tb : WX → TS} {Wout : WX}
theorem ps_try (stk : X.stack = X.env :: X.outer) (frm : X.env.frame = some X.env.locals) (nd : X.N.Nodup) (tk : Takes X Wout)
    (runs : ∀ (W : WX) (pn : List (Addr × Obj)) (xe : Value → Shared → Prop), Takes (X.tr pn xe) W → PassesOwn (model X.prog X.w) X.A X.env xe → PSs (X.tr pn xe) body (tb W))
    (hh : Hds X (h₀ :: hds) l) : PS X (.Try body (h₀ :: hds) [] [] pos) (fun D σ H => (∃ (pn : List (Addr × Obj)) (xe : Value → Shared → Prop), Takes (X.tr pn xe) (wHds X.K Wout D l) ∧ PassesOwn (model X.prog X.w) X.A X.env xe) → tb (wHds X.K Wout D l) D σ H) := by
  refine ⟨fun pins s σ H D I want => ?_⟩
  have good := I.ok
  have frames : X.A.frames = some (X.env :: X.outer) := by rw [good.frames, stk]
  refine wpAny_Try_except ?_
  have takes : Takes (X.tr (X.pn ++ pins) (fun e s₁ => wpAny (model X.prog X.w) X.A (noteFrame e X.env) (fun _ s₂ => wpAny (model X.prog X.w) X.A (setFlight e none) (fun _ s₃ =>
      wpAny (model X.prog X.w) X.A (handleBy e X.env (h₀ :: hds)) (SP X pins D) X.xe s₃) X.xe s₂) X.xe s₁)) (wHds X.K Wout D l) := by
    intro u s' air
    obtain ⟨a, B, sI, pins', σ', H', cls, d, rfl, J', nb, up, sky, free, os, ag, w⟩ := air
    have J : Inv X pins σ' H' sI := J'.ofTry good
    have flies : Sky B (X.env :: X.outer) a (Zc cls d) X.env.locals s'.heap := by rw [← stk]; exact sky
    show wpAny (model X.prog X.w) X.A (noteFrame (.ref a) X.env) _ _ _
    refine Sky.land Zc.steady frames frm flies fun h3 fl3 up3 => ?_
    have J3 : Inv X pins σ' H' { s' with heap := h3 } := J.landed nb fl3.1 (up.trans up3) os ag
    obtain ⟨oe3, vs3, at3, zc3, fields3⟩ := fl3.there
    have noFrame : a ∉ frs (X.env :: X.outer) := fun hm => by
      obtain ⟨_, o', e', hnf⟩ := fl3.2.2.1.mem hm
      rw [at3] at e'; cases e'
      exact hnf _ fields3
    have notL : a ≠ X.env.locals := fun z => noFrame (List.mem_filterMap.mpr ⟨X.env, List.mem_cons_self, by rw [frm, z]⟩)
    have notF : a ∉ X.fs := fun hm => by
      obtain ⟨e, he, q⟩ := List.mem_filterMap.mp hm
      exact noFrame (List.mem_filterMap.mpr ⟨e, List.mem_cons_of_mem _ he, q⟩)
    have S3 := J3.suite at3 fields3 free notL notF
    have tests : ∀ {x : Str} {c : Value} {np : Pos} {Q : Value → Shared → Prop} {E : Value → Shared → Prop}, Names X x c → Q c { s' with heap := h3 } → wpAny (model X.prog X.w) (X.A.mark (some (.ref a))) (eval (.Name x np) X.env) Q E { s' with heap := h3 } := fun {x c np Q E} hc q => by
      obtain ⟨g, ndb, m | ⟨m, v, nn⟩⟩ := hc
      · exact ld_glob (X := X.suite a ((a, oe3) :: (X.pn ++ pins))) S3 g m q ndb
      · exact ld_blt (X := X.suite a ((a, oe3) :: (X.pn ++ pins))) S3 g m v q nn ndb
    have kind : PySem.W.Looks (model X.prog X.w) h3 (typeOf (.ref a)) cls := fun A Q E s k q => wpAny_typeOf_ref (k _ _ at3) (by rw [zc3.1]; exact q)
    have go : ∀ {hds' : List ExceptHandler} {l' : List Hd}, Hds X hds' l' → wHds X.K Wout D l' cls d σ' H' → wpAny (model X.prog X.w) X.A (handleBy (.ref a) X.env hds') (SP X pins D) X.xe { s' with heap := h3 } := by
      intro hds' l' hk
      induction hk with
      | nil =>
        intro w
        refine wpAny_handleBy_nil ?_
        obtain ⟨_, _, _, oe, vs, Tb, oT, ts', he, hz, hd, h1, hr⟩ := id fl3
        unfold PySem.passOn
        refine wpAny_bind (wpAny_field he hd h1 ?_)
        rw [if_neg (show ¬ ((Value.ref Tb == Value.none) = true) from by simp)]
        have onward : wpAny (model X.prog X.w) X.A (setFlight (.ref a) X.env.frame) (fun _ s4 => wpAny (model X.prog X.w) X.A (throw (.ref a) : Sem Flow) (SP X pins D) X.xe s4) X.xe { s' with heap := h3 } := by
          rw [frm]
          refine HandSPX.setFlight_upZ fl3 fun h4 hh4 up4 => wpAny_throw (tk _ _ ?_)
          exact ⟨a, B, sI, pins, σ', H', cls, d, rfl, J, nb, (up.trans up3).trans up4, .inr (.inr (by rw [stk]; exact hh4)), free, os, ag, w⟩
        first
          | exact wpAny_bind (wpAny_pure (wpAny_bind onward))
          | exact wpAny_bind onward
      | @plain x c ts b₀ suite np pos' hds2 l2 hc hsu r ih =>
        intro w
        obtain ⟨b, same, yes, no⟩ := w
        refine wpAny_handleBy_cons (codeAny_handlers_test ?_) (by intro q; cases q)
        refine tests hc ((PySem.W.exm_one (M := model X.prog X.w) J3.kIn kind same).here ?_)
        cases b with
        | false =>
          show wpAny _ X.A (handleBy (.ref a) X.env hds2) _ _ _
          exact ih (no rfl)
        | true =>
          refine codeAny_handlers_suite ?_
          refine HandSPX.lands_againZ fl3 fun h4 fl4 up4 => ?_
          have J4 : Inv X pins σ' H' { s' with heap := h4 } := J.landed nb fl4.1 ((up.trans up3).trans up4) os ag
          obtain ⟨oe4, vs4, at4, zc4, fields4⟩ := fl4.there
          have S4 := J4.suite at4 fields4 free notL notF
          refine wpAny_mono ((hsu a oe4 cls d (X.pn ++ pins) zc4 ⟨_, fields4⟩).run [] _ _ H' _ S4 (yes rfl a free)) (fun f s6 ended => ?_) (fun _ _ z => False.elim z)
          cases f with
          | next => obtain ⟨σ6, H6, S6, q6⟩ := ended; exact ⟨_, _, S6.unsuite good, q6⟩
          | brk => obtain ⟨σ6, H6, S6, q6⟩ := ended; exact ⟨_, _, S6.unsuite good, q6⟩
          | cont => obtain ⟨σ6, H6, S6, q6⟩ := ended; exact ⟨_, _, S6.unsuite good, q6⟩
          | ret u => obtain ⟨v6, σ6, H6, S6, r6, q6⟩ := ended; exact ⟨_, _, _, S6.unsuite good, r6, q6⟩
      | @named x n i c ts b₀ suite np pos' hds2 l2 hi hln hc hsu r ih =>
        intro w
        obtain ⟨b, same, yes, no⟩ := w
        refine wpAny_handleBy_cons (codeAny_handlers_test ?_) (by intro q; cases q)
        refine tests hc ((PySem.W.exm_one (M := model X.prog X.w) J3.kIn kind same).here ?_)
        cases b with
        | false =>
          show wpAny _ X.A (handleBy (.ref a) X.env hds2) _ _ _
          exact ih (no rfl)
        | true =>
          refine codeAny_handlers_suite_as ?_
          refine HandSPX.lands_againZ fl3 fun h4 fl4 up4 => ?_
          have J4 : Inv X pins σ' H' { s' with heap := h4 } := J.landed nb fl4.1 ((up.trans up3).trans up4) os ag
          obtain ⟨oe4, vs4, at4, zc4, fields4⟩ := fl4.there
          have S4 := J4.suite at4 fields4 free notL notF
          refine store_ok (X := X.suite a ((a, oe4) :: (X.pn ++ pins))) (v := .ref a) S4 nd hi (.inl hln) rfl (fun s5 S5 => ?_) (.inr hln)
          refine wpAny_mono ((hsu a oe4 cls d (X.pn ++ pins) zc4 ⟨_, fields4⟩).run [] s5 _ H' _ S5 (yes rfl a free)) (fun f s6 ended => ?_) (fun _ _ z => False.elim z)
          have leave : ∀ {σ6 : L2.St} {H6 : Hp} {Q : Shared → Prop}, Inv (X.suite a ((a, oe4) :: (X.pn ++ pins))) [] σ6 H6 s6 → (∀ s7, Inv X pins (σ6.set i none) H6 s7 → Q s7) →
              wpAny (model X.prog X.w) X.A (do bindName X.env n .none; unbindBehindTheSuite X.env n pos') (fun _ s7 => Q s7) X.xe s6 := fun {σ6 H6 Q} S6 hq => gone_ok (S6.unsuite good) nd hi hln hq
          cases f with
          | next => obtain ⟨σ6, H6, S6, q6⟩ := ended; exact leave S6 fun s7 J7 => ⟨_, _, J7, q6⟩
          | brk => obtain ⟨σ6, H6, S6, q6⟩ := ended; exact leave S6 fun s7 J7 => ⟨_, _, J7, q6⟩
          | cont => obtain ⟨σ6, H6, S6, q6⟩ := ended; exact leave S6 fun s7 J7 => ⟨_, _, J7, q6⟩
          | ret u => obtain ⟨v6, σ6, H6, S6, r6, q6⟩ := ended; exact leave S6 fun s7 J7 => ⟨_, _, _, J7, r6, q6⟩
    exact go hh w
  have passes : PassesOwn (model X.prog X.w) X.A X.env (fun e s₁ => wpAny (model X.prog X.w) X.A (noteFrame e X.env) (fun _ s₂ => wpAny (model X.prog X.w) X.A (setFlight e none) (fun _ s₃ =>
      wpAny (model X.prog X.w) X.A (handleBy e X.env (h₀ :: hds)) (SP X pins D) X.xe s₃) X.xe s₂) X.xe s₁) := PassesOwn.looking
  refine wpAny_mono ((runs (wHds X.K Wout D l) (X.pn ++ pins) _ takes passes).run [] s σ H D (I.toTry _) (want ⟨_, _, takes, passes⟩)) (fun f s1 ended => ?_) (fun e s1 he => he)
  · cases f with
    | next =>
      obtain ⟨σ', H', J', q⟩ := ended
      exact wpAny_execs_nil ⟨σ', H', J'.ofTry good, q⟩
    | brk => obtain ⟨σ', H', J', q⟩ := ended; exact ⟨σ', H', J'.ofTry good, q⟩
    | cont => obtain ⟨σ', H', J', q⟩ := ended; exact ⟨σ', H', J'.ofTry good, q⟩
    | ret u => obtain ⟨v, σ', H', J', r, q⟩ := ended; exact ⟨v, σ', H', J'.ofTry good, r, q⟩
end
/-! ### their mirrors -/
abbrev HM := (Nat → Option Bool) × (Nat → D → Env → Oc)
@[simp] def fHds : List HM → Nat → D → Env → Oc
  | [], c, d, e => .ex c d e
  | (mt, k) :: r, c, d, e => match mt c with
    | some true => k c d e
    | some false => fHds r c d e
    | none => .no
def fTry (fb : FS) (hs : List HM) : FS := fun e => match fb e with
  | .ex c d e1 => fHds hs c d e1
  | o => o
/-- a clause keeps to its mirror -/
structure HOk1 (T : Tb) (W : WX) (h : Hd) (m : HM) : Prop where
  same : ∀ c b, m.1 c = some b → PySem.W.exmOne T.K (.ref (T.cls c).1) h.2.1 = some b
  run : ∀ (Pr : Hp) (A : Nat → Option Addr) (G H : Hp) (σ : L2.St) (e : Env) (D : Ends) (c : Nat) (d : DL.D) (a dct : Addr) (v : V) (f : Str), SR ⟨T, Pr, A⟩ G H σ e → Rp T G d v → (T.cls c).2 = [f] → H dct = some (.xd [(f, v)]) → H a = none → m.1 c = some true →
    OkS ⟨T, Pr, A⟩ W G D (m.2 c d e) → runHd D a (.ref (T.cls c).1) (some dct) h.1 h.2.2 σ H
inductive HsOk (T : Tb) (W : WX) : List Hd → List HM → Prop
  | nil : HsOk T W [] []
  | cons {h m l r} (a : HOk1 T W h m) (b : HsOk T W l r) : HsOk T W (h :: l) (m :: r)
theorem hds_run {T : Tb} {W : WX} {l : List Hd} {ms : List HM} (h : HsOk T W l ms) {Pr : Hp} {A : Nat → Option Addr} {G H : Hp} {σ : L2.St} {e : Env} {D : Ends} {c : Nat} {d : DL.D} {dct : Addr} {v : V} {f : Str} (s : SR ⟨T, Pr, A⟩ G H σ e) (r : Rp T G d v)
    (nm : (T.cls c).2 = [f]) (hd : H dct = some (.xd [(f, v)])) (q : OkS ⟨T, Pr, A⟩ W G D (fHds ms c d e)) : wHds T.K W D l (.ref (T.cls c).1) (some dct) σ H := by
  induction h with
  | nil => exact q dct v f σ G H Ext.refl s r nm hd
  | @cons hd1 m l ms a b ih =>
    obtain ⟨o, cv, ts⟩ := hd1
    obtain ⟨mt, k⟩ := m
    unfold fHds at q
    split at q
    · rename_i hm
      exact ⟨true, a.same c true hm, fun _ x free => a.run Pr A G H σ e D c d x dct v f s r nm hd free hm q, fun z => absurd z.symm Bool.false_ne_true⟩
    · rename_i hm
      exact ⟨false, a.same c false hm, fun z => absurd z Bool.false_ne_true, fun _ => ih q⟩
    · exact q.elim
section
variable {T : Tb} {W : WX} {X : Cx} {body : List Stmt} {h₀ : ExceptHandler} {hds : List ExceptHandler} {l : List Hd} {ms : List HM} {pos : Pos} {tb : TS} {fb : FS}
theorem ss_try {tb : WX → TS} (stk : X.stack = X.env :: X.outer) (frm : X.env.frame = some X.env.locals) (nd : X.N.Nodup) (tk : Takes X W) (hK : X.K = T.K)
    (runs : ∀ (W : WX) (pn : List (Addr × Obj)) (xe : Value → Shared → Prop), Takes (X.tr pn xe) W → PassesOwn (model X.prog X.w) X.A X.env xe → SSs T W (X.tr pn xe) body (tb W) fb)
    (hh : Hds X (h₀ :: hds) l) (hm : HsOk T W l ms) : SS T W X (.Try body (h₀ :: hds) [] [] pos) (fun D σ H => (∃ (pn : List (Addr × Obj)) (xe : Value → Shared → Prop), Takes (X.tr pn xe) (wHds X.K W D l) ∧ PassesOwn (model X.prog X.w) X.A X.env xe) → tb (wHds X.K W D l) D σ H) (fTry fb ms) := by
  refine ⟨ps_try stk frm nd tk (fun W pn xe tk' ps => (runs W pn xe tk' ps).1) hh, fun Pr A G H σ e D s h => ?_⟩
  rintro ⟨pn, xe, tk', ps⟩
  refine (runs (wHds X.K W D l) pn xe tk' ps).2 Pr A G H σ e D s ?_
  rw [hK]
  unfold fTry at h
  revert h
  cases fb e with
  | ex c d e1 => exact fun h dct v f σ' G' H' x' s' r nm y => hds_run hm s' r nm y (h.ext x')
  | nx e1 => exact fun h => h
  | bk e1 => exact fun h => h
  | ct e1 => exact fun h => h
  | rt p e1 => exact fun h => h
  | no => exact fun h => h
end
/-! ### clauses -/
/-- a suite that raises nothing and does not look at the exception -/
@[simp] def kPlain (f : FS) : Nat → D → Env → Oc := fun _ _ e => match f e with
  | .ex _ _ _ => .no
  | o => o
theorem hok_plain {T : Tb} {W : WX} {cv : Value} {t : TS} {f : FS} {mt : Nat → Option Bool} (hs : ∀ c b, mt c = some b → PySem.W.exmOne T.K (.ref (T.cls c).1) cv = some b)
    (h : ∀ (Pr : Hp) (A : Nat → Option Addr) (G H : Hp) (σ : L2.St) (e : Env) (D : Ends), SR ⟨T, Pr, A⟩ G H σ e → OkS ⟨T, Pr, A⟩ W0 G D (f e) → t D σ H) : HOk1 T W (none, cv, fun _ _ _ => t) (mt, kPlain f) := by
  refine ⟨hs, fun Pr A G H σ e D c d a dct v f' s r nm y free _ q => ?_⟩
  refine h Pr A G H σ e D s ?_
  unfold kPlain at q
  dsimp only at q
  revert q
  cases f e with
  | ex c d e1 => exact fun q => q.elim
  | nx e1 => exact fun q => q
  | bk e1 => exact fun q => q
  | ct e1 => exact fun q => q
  | rt p e1 => exact fun q => q
  | no => exact fun q => q
/-- what an expression of the exception in hand (slot i) gives -/
def AX (T : Tb) (Y : Cx) (i : Nat) (a : Addr) (cls : Value) (d : Option Addr) (c : Nat) (x : Expr) (t : TE) (g : D → Option RV) : Prop :=
  (∀ (oe : Obj) (pn : List (Addr × Obj)), Zc cls d oe → (∃ vs, oe.data = .fields vs) → PE (Y.suite a ((a, oe) :: pn)) x t) ∧
  ∀ (G H : Hp) (σ : L2.St) (v : V) (f : Str) (dct : Addr) (d0 : D) (rv : RV) (Q : VK), Sub G H → σ[i]? = some (some (.ref a)) → cls = .ref (T.cls c).1 → (T.cls c).2 = [f] → d = some dct → H dct = some (.xd [(f, v)]) → Rp T G d0 v → g d0 = some rv → RVQ T G H Q rv → t σ H Q
def AXs (T : Tb) (Y : Cx) (i : Nat) (a : Addr) (cls : Value) (d : Option Addr) (c : Nat) (x : List Expr) (t : TA) (g : D → Option (List D)) : Prop :=
  (∀ (oe : Obj) (pn : List (Addr × Obj)), Zc cls d oe → (∃ vs, oe.data = .fields vs) → PA (Y.suite a ((a, oe) :: pn)) x t) ∧
  ∀ (G H : Hp) (σ : L2.St) (v : V) (f : Str) (dct : Addr) (d0 : D) (ds : List D) (Q : List V → Hp → Prop), Sub G H → σ[i]? = some (some (.ref a)) → cls = .ref (T.cls c).1 → (T.cls c).2 = [f] → d = some dct → H dct = some (.xd [(f, v)]) → Rp T G d0 v → g d0 = some ds → (∀ vs, RpL T G ds vs → Q vs H) → t σ H Q
@[simp] def xC (d0 : D) : D → Option RV := fun _ => some (.at d0)
@[simp] def xAt (g : D → Option RV) : D → Option D := fun d => match g d with
  | some (.at d1) => some d1
  | _ => none
@[simp] def xNil : D → Option (List D) := fun _ => some []
@[simp] def xCons (g : D → Option RV) (gs : D → Option (List D)) : D → Option (List D) := fun d => match xAt g d, gs d with
  | some x, some r => some (x :: r)
  | _, _ => none
@[simp] def xLst (gs : D → Option (List D)) : D → Option RV := fun d => match gs d with
  | some l => if l.length ≤ LIM then some (.ls l) else none
  | none => none
@[simp] def xCall (op : List D → Option RV) (gs : D → Option (List D)) : D → Option RV := fun d => match gs d with
  | some l => op l
  | none => none
section
variable {T : Tb} {Y : Cx} {i : Nat} {a : Addr} {cls : Value} {d : Option Addr} {c : Nat} {x : Expr} {es : List Expr} {t : TE} {ts : TA} {g : D → Option RV} {gs : D → Option (List D)}
theorem ax_c {v : V} {d0 : D} (h : ∀ Z, PE Z x (tC v)) (r : ∀ G, Rp T G d0 v) : AX T Y i a cls d c x (tC v) (xC d0) := ⟨fun oe pn _ _ => h _, fun G H σ w f dct d1 rv Q sub e1 e2 e3 e4 e5 e6 e7 q => by
  cases e7
  exact q v (r G)⟩
theorem xAt_ok {d d1 : D} (h : xAt g d = some d1) : g d = some (.at d1) := by
  unfold xAt at h
  split at h
  · rename_i z hz; cases h; exact hz
  · cases h
theorem axs_nil : AXs T Y i a cls d c [] tNil xNil := ⟨fun oe pn _ _ => pa_nil, fun G H σ w f dct d1 ds Q sub e1 e2 e3 e4 e5 e6 e7 q => by
  cases e7
  exact q [] RpL.nil⟩
theorem axs_cons (h : AX T Y i a cls d c x t g) (k : AXs T Y i a cls d c es ts gs) (hs : starEach (x :: es) Y.env = (false, eval x Y.env) :: starEach es Y.env := by rfl) : AXs T Y i a cls d c (x :: es) (tCons t ts) (xCons g gs) := ⟨fun oe pn z1 z2 => pa_cons (h.1 oe pn z1 z2) (k.1 oe pn z1 z2) hs, fun G H σ w f dct d1 ds Q sub e1 e2 e3 e4 e5 e6 e7 q => by
  unfold xCons at e7
  split at e7
  · rename_i d2 r h1 h2
    cases e7
    exact h.2 G H σ w f dct d1 _ _ sub e1 e2 e3 e4 e5 e6 (xAt_ok h1) fun v1 r1 => k.2 G H σ w f dct d1 r _ sub e1 e2 e3 e4 e5 e6 h2 fun vs rs => q (v1 :: vs) (RpL.cons r1 rs)
  · cases e7⟩
theorem ax_lst {pos : Pos} (k : AXs T Y i a cls d c es ts gs) : AX T Y i a cls d c (.List es pos) (tLst ts) (xLst gs) := ⟨fun oe pn z1 z2 => pe_lst (k.1 oe pn z1 z2), fun G H σ w f dct d1 rv Q sub e1 e2 e3 e4 e5 e6 e7 q => by
  unfold xLst at e7
  split at e7
  · rename_i l hl
    split at e7
    · rename_i few
      cases e7
      exact k.2 G H σ w f dct d1 l _ sub e1 e2 e3 e4 e5 e6 hl fun vs rs => ⟨by rw [RpL.length rs]; exact Nat.le_trans few lim_le, fun p hp => q p vs hp rs⟩
    · cases e7
  · cases e7⟩
theorem ax_call {r : List V → Hp → VK → Prop} {op : List D → Option RV} (hx : ∀ oe pn t, PA (Y.suite a ((a, oe) :: pn)) es t → PE (Y.suite a ((a, oe) :: pn)) x (tCB r t)) (hd : CallD T r op) (k : AXs T Y i a cls d c es ts gs) : AX T Y i a cls d c x (tCB r ts) (xCall op gs) :=
  ⟨fun oe pn z1 z2 => hx _ _ _ (k.1 oe pn z1 z2), fun G H σ w f dct d1 rv Q sub e1 e2 e3 e4 e5 e6 e7 q => by
  unfold xCall at e7
  split at e7
  · rename_i l hl
    refine k.2 G H σ w f dct d1 l _ sub e1 e2 e3 e4 e5 e6 hl fun vs rs => hd G H vs l rv Q sub ?_ e7 q
    clear e7 hl
    induction l generalizing vs with
    | nil => simp only [RpL] at rs; exact rs
    | cons d0 l ih =>
      simp only [RpL] at rs
      obtain ⟨v0, vs, rfl, r0, rs⟩ := rs
      exact ⟨v0, vs, rfl, .inl r0, ih vs rs⟩
  · cases e7⟩
end
theorem kit_blt {K : PySem.W.Frag} {C : Addr} {t : String} {b : Bool} (h : PySem.W.subIn K (.ref C) (.type t) = some b) (hm : PySem.W.kitMeta t = true := by decide +kernel) : PySem.W.kitOne K (.ref C) (.type t) = some b := by
  unfold PySem.W.kitOne
  rw [if_neg (show ¬ ((Value.ref C == Value.type t) = true) from by simp)]
  show (if PySem.W.kitMeta t = true then PySem.W.subIn K (.ref C) (.type t) else none) = some b
  rw [if_pos hm]; exact h
theorem kit_own {K : PySem.W.Frag} {C L : Addr} {b : Bool} (h : PySem.W.subIn K (.ref C) (.ref L) = some b) (hc : (PySem.W.clsIn K L).isSome = true) (ht : PySem.W.typeIn K (.ref L) = some (.type "type")) (hne : (Value.ref C == Value.ref L) = false) : PySem.W.kitOne K (.ref C) (.ref L) = some b := by
  unfold PySem.W.kitOne
  rw [if_neg (by rw [hne]; simp)]
  show (if ((PySem.W.clsIn K L).isSome && PySem.W.typeIn K (.ref L) == some (.type "type")) = true then PySem.W.subIn K (.ref C) (.ref L) else none) = some b
  rw [if_pos (by rw [hc, ht] <;> rfl)]; exact h
/-- e.f -/
@[simp] def xF : D → Option RV := fun d => some (.at d)
theorem ax_f {T : Tb} {Y : Cx} {i : Nat} {a C : Addr} {cls : Value} {d : Option Addr} {c : Nat} {e : Expr} {pos : Pos} {f : Str} (XC : XfC Y.K C) (hno : PySem.W.findIn Y.K (.ref C) f = some none) (hC : T.cls c = (C, [f]))
    (he : ∀ oe pn, PE (Y.suite a ((a, oe) :: pn)) e (tVar i)) (hb : attributeBase e f Y.env (eval e Y.env) = eval e Y.env := by rfl) : AX T Y i a cls d c (.Attribute e f pos) (tXf a cls d C f (tVar i)) xF :=
  ⟨fun oe pn hz hf => pe_xf XC hno hz hf (he oe pn) hb, fun G H σ w f' dct d0 rv Q sub e1 e2 e3 e4 e5 e6 e7 q => by
    cases e7
    rw [hC] at e3 e2
    cases e3
    refine ⟨.ref a, e1, rfl, e2, dct, _, w, e4, e5, ?_, q w e6⟩
    show List.lookup f [(f, w)] = _
    simp [List.lookup]⟩
/-- isinstance(e, K) -/
structure XIs (K : PySem.W.Frag) (C : Addr) : Prop where
  cls : (PySem.W.clsIn K C).isSome = true
  ga : PySem.W.findIn K (.ref C) "__getattribute__" = some (some (.builtin "BaseException.__getattribute__"))
  gg : PySem.W.findIn K (.ref C) "__getattr__" = some none
  isE : PySem.W.subIn K (.ref C) (.type "BaseException") = some true
  kl : PySem.W.findIn K (.ref C) "__class__" = some (some (.builtin "object.__class__"))
  gt : PySem.W.specialIn K (.builtin "object.__class__") "__get__" = some (some (.builtin "getset_descriptor.__get__"))
  tk : PySem.W.takesIn K (.builtin "object.__class__") = some true
  ob : PySem.W.mroIn K C (.type "object") = some true
def rIsX (K : PySem.W.Frag) (C a : Addr) (cls : Value) (d : Option Addr) : List V → Hp → VK → Prop := fun xs H Q => ∃ (k : V) (cv : Value) (b : Bool) (fs : List (Str × V)) (dct : Addr), cls = .ref C ∧ d = some dct ∧ xs = [.ref a, k] ∧ (∀ u, RelV k u → u = cv) ∧ PySem.W.kitOne K (.ref C) cv = some b ∧ H dct = some (.xd fs) ∧ Q (.bl b) H
theorem call_isX {Y : Cx} {a C : Addr} {cls : Value} {d : Option Addr} {oe : Obj} {pn : List (Addr × Obj)} (k : XIs Y.K C) (hz : Zc cls d oe) (hf : ∃ vs, oe.data = .fields vs) : CallR (Y.suite a ((a, oe) :: pn)) (.builtin "isinstance") (rIsX Y.K C a cls d) := by
  intro pins s σ H xs us Q I r h
  obtain ⟨c, cv, b, fs, dct, rfl, rfl, rfl, same, e, hd, q⟩ := h
  cases r with
  | cons rx rr =>
    cases rr with
    | cons rt rr =>
      cases rr
      cases rx
      obtain rfl := same _ rt
      obtain ⟨there, _⟩ := I.pin (a, oe) (List.mem_append.mpr (.inl List.mem_cons_self))
      obtain ⟨vs, hv⟩ := hf
      have hx : ObjOk Y.prog Y.w H s.heap dct (.xd fs) := I.hok dct _ hd
      obtain ⟨mA, hns, _⟩ := hx
      obtain ⟨od, ho, _⟩ := lookIn_ns hns
      have J : PySem.W.InstAt s.heap a oe C (some od) := ⟨there, hz.1, by unfold PySem.W.notCls; rw [hv] <;> rfl, by rw [hz.2]; exact ho⟩
      exact PySem.W.kia_one (PySem.W.kitx_exc k.cls k.ga k.gg k.isE k.kl k.gt k.tk k.ob) I.kIn J e (fun z => nomatch z) fun tk => ⟨.bl b, H, I.kept (t' := tk) fun _ _ z => z, rfl, q⟩
@[simp] def xB (b : Bool) : D → Option RV := fun _ => some (.at (.bl b))
theorem ax_is {T : Tb} {Y : Cx} {i : Nat} {a C : Addr} {cls : Value} {d : Option Addr} {c : Nat} {x : Expr} {k : V} {cv : Value} {b : Bool} {fs : List Str} (xi : XIs Y.K C) (hC : T.cls c = (C, fs)) (same : ∀ u, RelV k u → u = cv) (e : PySem.W.kitOne Y.K (.ref C) cv = some b)
    (hx : ∀ oe pn (r : List V → Hp → VK → Prop), CallR (Y.suite a ((a, oe) :: pn)) (.builtin "isinstance") r → PE (Y.suite a ((a, oe) :: pn)) x (tCB r (tCons (tVar i) (tCons (tC k) tNil)))) :
    AX T Y i a cls d c x (tCB (rIsX Y.K C a cls d) (tCons (tVar i) (tCons (tC k) tNil))) (xB b) :=
  ⟨fun oe pn hz hf => hx _ _ _ (call_isX xi hz hf), fun G H σ w f' dct d0 rv Q sub e1 e2 e3 e4 e5 e6 e7 q => by
    cases e7
    rw [hC] at e2
    exact ⟨.ref a, e1, k, cv, b, _, dct, e2, e4, rfl, same, e, e5, q _ (by simp only [Rp])⟩⟩
/-- except C as e: return .. -/
@[simp] def kRet (i : Nat) (g : D → Option RV) : Nat → D → Env → Oc := fun _ d e => match g d with
  | some rv => if i < e.length then .rt rv.pv (st e i .un) else .no
  | none => .no
/-- clauses and their mirrors -/
structure TryOk (T : Tb) (W : WX) (X : Cx) (hds : List ExceptHandler) (l : List Hd) (ms : List HM) : Prop where
  hs : Hds X hds l
  ms : HsOk T W l ms
section
variable {T : Tb} {W : WX} {X : Cx} {hds : List ExceptHandler} {l : List Hd} {ms : List HM} {mt : Nat → Option Bool} {x : Str} {cv : Value} {np pos' p1 : Pos}
theorem try_nil : TryOk T W X [] [] [] := ⟨.nil, .nil⟩
theorem try_named {n : Str} {i c0 : Nat} {y : Expr} {te : Addr → Value → Option Addr → TE} {g : D → Option RV} (hi : X.N[i]? = some n) (hln : X.env.kindOf n = some .local) (hc : Names X x cv) (hs : ∀ c b, mt c = some b → PySem.W.exmOne T.K (.ref (T.cls c).1) cv = some b)
    (h1 : ∀ c, mt c = some true → c = c0) (hx : ∀ a cls d, AX T X i a cls d c0 y (te a cls d) g) (r : TryOk T W X hds l ms) :
    TryOk T W X (.ExceptHandler (some (.Name x np)) (some n) [.Return (some y) p1] pos' :: hds) ((some i, cv, fun a cls d => tRet (te a cls d)) :: l) ((mt, kRet i g) :: ms) := by
  refine ⟨.named hi hln hc (fun a oe cls d pn hz hf => pss_one (ps_ret ((hx a cls d).1 oe pn hz hf))) r.hs, .cons ⟨hs, fun Pr A G H σ e D c d a dct v f s r nm y free hm q => ?_⟩ r.ms⟩
  have := h1 c hm
  subst this
  unfold kRet at q
  dsimp only at q
  split at q
  · rename_i rv hg
    have s1 := un_slot s i
    by_cases hi : i < e.length
    · rw [if_pos hi] at q
      rw [s.len] at hi
      refine (hx a _ _).2 G H (σ.set i (some (.ref a))) v f dct d rv _ s.sub (List.getElem?_set_self hi) rfl nm rfl y r hg ?_
      refine rv_done (F := ⟨T, Pr, A⟩) (σ := σ) (W := fun _ _ _ _ => False) s1 ?_
      intro w G' H' x' s' r'
      exact q σ w G' H' x' s' r'
    · rw [if_neg hi] at q; exact q.elim
  · exact q.elim
theorem try_plain {b₀ : Stmt} {suite : List Stmt} {t : TS} {f : FS} (hc : Names X x cv) (hs : ∀ c b, mt c = some b → PySem.W.exmOne T.K (.ref (T.cls c).1) cv = some b)
    (hx : ∀ (a : Addr) (oe : Obj) (pn : List (Addr × Obj)), SSs T W0 (X.suite a ((a, oe) :: pn)) (b₀ :: suite) t f) (r : TryOk T W X hds l ms) :
    TryOk T W X (.ExceptHandler (some (.Name x np)) none (b₀ :: suite) pos' :: hds) ((none, cv, fun _ _ _ => t) :: l) ((mt, kPlain f) :: ms) :=
  ⟨.plain hc (fun a oe cls d pn hz hf => (hx a oe pn).1) r.hs, .cons (hok_plain hs (hx 0 ⟨.none, none, .fields #[], #[]⟩ []).2) r.ms⟩
theorem ss_try2 {body : List Stmt} {h₀ : ExceptHandler} {pos : Pos} {fb : FS} {tb : WX → TS} (stk : X.stack = X.env :: X.outer) (frm : X.env.frame = some X.env.locals) (nd : X.N.Nodup) (tk : Takes X W) (hK : X.K = T.K)
    (runs : ∀ (W : WX) (pn : List (Addr × Obj)) (xe : Value → Shared → Prop), Takes (X.tr pn xe) W → PassesOwn (model X.prog X.w) X.A X.env xe → SSs T W (X.tr pn xe) body (tb W) fb)
    (h : TryOk T W X (h₀ :: hds) l ms) : SS T W X (.Try body (h₀ :: hds) [] [] pos) (fun D σ H => (∃ (pn : List (Addr × Obj)) (xe : Value → Shared → Prop), Takes (X.tr pn xe) (wHds X.K W D l) ∧ PassesOwn (model X.prog X.w) X.A X.env xe) → tb (wHds X.K W D l) D σ H) (fTry fb ms) :=
  ss_try stk frm nd tk hK runs h.hs h.ms
end
end DL
set_option Elab.async false
set_option linter.all false
set_option maxRecDepth 100000
set_option maxHeartbeats 4000000
/-! more operations: texts, repr, isinstance, names of the module -/
namespace DL
open PySem PySem.Spec PyProof.Rows L2
section
variable {T : Tb} {X : Cx} {W : WX} {G H : Hp}
/-! ### join -/
def txts : List D → Option (List (List Nat))
  | [] => some []
  | .str l :: r => (txts r).map (l :: ·)
  | _ => none
theorem txts_ok : ∀ {l : List D} {xs : List V} {bs : List (List Nat)}, txts l = some bs → RpL T G l xs → xs = (bs.map S).map V.str
  | [], xs, bs, h, r => by cases h; simp only [RpL] at r; exact r
  | d :: l, xs, bs, h, r => by
    cases d with
    | str b =>
      simp only [txts, Option.map_eq_some_iff] at h
      obtain ⟨bs', h1, rfl⟩ := h
      simp only [RpL, Rp] at r
      obtain ⟨x, r', rfl, rfl, r2⟩ := r
      rw [txts_ok h1 r2]; rfl
    | _ => simp only [txts] at h; cases h
def joinN (sep : List Nat) : List (List Nat) → List Nat
  | [] => []
  | [x] => x
  | x :: r => x ++ sep ++ joinN sep r
theorem join_S (sep : List Nat) : ∀ ys : List (List Nat), Txt.join (S sep) (ys.map S) = S (joinN sep ys) := fun ys => by
  show Builtin.Str.glued (S sep) (ys.map S) = _
  rw [StrLaws.glued_eq_join]
  induction ys with
  | nil => rfl
  | cons x r ih =>
    cases r with
    | nil => rfl
    | cons y r =>
      show S x ++ S sep ++ Str.join (S sep) ((y :: r).map S) = S (x ++ sep ++ joinN sep (y :: r))
      rw [ih, S_app, S_app]
def joinB (sep : List Nat) (ys : List (List Nat)) : Bool := decide ((ys.map (·.length)).sum + ys.length * sep.length ≤ LIM)
@[simp] def oJoin : D → List D → Option RV
  | .str sep, [.lst l] => (txts l).bind fun ys => if joinB sep ys = true then some (.at (.str (joinN sep ys))) else none
  | _, _ => none
abbrev rJoin (K : PySem.W.Frag) : V → List V → Hp → VK → Prop := fun x xs H Q => ∃ a p, ∃ ys : List Str, x = .str a ∧ xs = [.ref p] ∧ (SqL K H p (ys.map V.str) ∨ SqT K H p (ys.map V.str)) ∧
    (ys.map (·.length)).sum + ys.length * a.length ≤ 16777216 ∧ Q (.str (Txt.join a ys)) H
theorem d_join : MtD T "str" (rJoin T.K) oJoin := by
  intro G H x dx vs ds rv Q sub px pv ho q
  unfold oJoin at ho
  split at ho
  · rename_i sep l
    simp only [Option.bind_eq_some_iff] at ho
    obtain ⟨ys, h1, h2⟩ := ho
    split at h2
    · rename_i hb
      cases h2
      obtain ⟨v, r, rfl, p1, rfl⟩ := pv
      obtain ⟨a, xs, rfl, h3, r⟩ := pk_lst sub p1
      have e := txts_ok h1 r
      subst e
      rw [pk_str px]
      refine ⟨S sep, a, ys.map S, rfl, rfl, .inl (.inl (.inl h3)), ?_, by rw [join_S]; exact q _ str_val⟩
      unfold joinB at hb
      rw [decide_eq_true_eq] at hb
      have e2 : ((ys.map S).map (·.length)) = ys.map (·.length) := by
        rw [List.map_map]
        exact List.map_congr_left fun x _ => S_len x
      rw [e2, List.length_map, S_len]
      have : LIM ≤ 16777216 := by decide
      omega
    · cases h2
  · cases ho
/-! ### lower, upper -/
def ascii (l : List Nat) : Bool := l.all (· < 128)
@[simp] def oLower : D → List D → Option RV
  | .str l, [] => if (ascii l && decide (l.length ≤ LIM)) = true then some (.at (.str (l.map lo1))) else none
  | _, _ => none
@[simp] def oUpper : D → List D → Option RV
  | .str l, [] => if (ascii l && decide (l.length ≤ LIM)) = true then some (.at (.str (l.map up1))) else none
  | _, _ => none
theorem ascii_S {l : List Nat} (h : ascii l = true) : ∀ c ∈ (S l).cps.toList, c < 128 := by
  rw [S_list]
  unfold ascii at h
  simpa using h
abbrev rLower : V → List V → Hp → VK → Prop := fun x xs H Q => ∃ a, x = .str a ∧ xs = [] ∧ a.length ≤ 5592405 ∧ Q (.str (Txt.lower a)) H
abbrev rUpper : V → List V → Hp → VK → Prop := fun x xs H Q => ∃ a, x = .str a ∧ xs = [] ∧ a.length ≤ 5592405 ∧ Q (.str (Txt.upper a)) H
theorem map_S (f : Nat → Nat) (l : List Nat) : (⟨(S l).cps.map f⟩ : Str) = S (l.map f) := by simp [S]
theorem d_lower : MtD T "str" rLower oLower := by
  intro G H x dx vs ds rv Q sub px pv ho q
  unfold oLower at ho
  split at ho
  · split at ho
    · rename_i hb
      cases ho
      simp only [Bool.and_eq_true, decide_eq_true_eq] at hb
      rw [pk_str px]
      have : LIM ≤ 5592405 := by decide
      refine ⟨_, rfl, pv, by rw [S_len]; omega, ?_⟩
      rw [lower_ascii (ascii_S hb.1), map_S]
      exact q _ str_val
    · cases ho
  · cases ho
theorem d_upper : MtD T "str" rUpper oUpper := by
  intro G H x dx vs ds rv Q sub px pv ho q
  unfold oUpper at ho
  split at ho
  · split at ho
    · rename_i hb
      cases ho
      simp only [Bool.and_eq_true, decide_eq_true_eq] at hb
      rw [pk_str px]
      have : LIM ≤ 5592405 := by decide
      refine ⟨_, rfl, pv, by rw [S_len]; omega, ?_⟩
      rw [upper_ascii (ascii_S hb.1), map_S]
      exact q _ str_val
    · cases ho
  · cases ho
/-! ### find, index -/
/-- the first place from n on at which c stands in l, whose first item stands at n -/
def seek (c : Nat) : List Nat → Nat → Option Nat
  | [], _ => none
  | x :: r, n => if x = c then some n else seek c r (n + 1)
def findN (l : List Nat) (c i : Nat) : Int := match seek c (l.drop i) i with
  | some k => k
  | none => -1
theorem seek_some {c : Nat} : ∀ {l : List Nat} {n k : Nat}, seek c l n = some k → n ≤ k ∧ l[k - n]? = some c ∧ ∀ j, j < k - n → l[j]? ≠ some c
  | [], n, k, h => by cases h
  | x :: r, n, k, h => by
    unfold seek at h
    split at h
    · rename_i e
      cases h
      subst e
      refine ⟨Nat.le_refl _, by simp, fun j hj => by omega⟩
    · rename_i e
      obtain ⟨h1, h2, h3⟩ := seek_some h
      obtain ⟨m, hm⟩ : ∃ m, k - n = m + 1 := ⟨k - n - 1, by omega⟩
      have hm2 : k - (n + 1) = m := by omega
      rw [hm2] at h2 h3
      rw [hm]
      refine ⟨by omega, by simpa using h2, fun j hj => ?_⟩
      cases j with
      | zero => simpa using e
      | succ j => simpa using h3 j (by omega)
theorem seek_none {c : Nat} : ∀ {l : List Nat} {n : Nat}, seek c l n = none → c ∉ l
  | [], n, h => by simp
  | x :: r, n, h => by
    unfold seek at h
    split at h
    · cases h
    · rename_i e
      have := seek_none h
      simp only [List.mem_cons, not_or]
      exact ⟨fun z => e z.symm, this⟩
theorem find_S (l : List Nat) (c i : Nat) : Txt.find3 (S l) ⟨#[c]⟩ (i : Int) = findN l c i := by
  have from_ : fromIndex (S l).length (i : Int) = i := by
    unfold fromIndex
    rw [if_neg (by omega)]
    omega
  have gd : ∀ v, v < (S l).length → ((S l).cps.getD v 0 = c ↔ l[v]? = some c) := fun v hv => by
    rw [S_len] at hv
    simp [S, Array.getD, hv, List.getElem?_eq_getElem]
  have at_ : ∀ m, (l.drop i)[m]? = l[i + m]? := fun m => by rw [List.getElem?_drop]
  unfold findN
  rcases StrLaws.find3_spec (S l) c i with ⟨h1, h2⟩ | ⟨k, h1, h2, h3, h4, h5⟩
  · rw [h1]
    cases hs : seek c (l.drop i) i with
    | none => rfl
    | some k =>
      obtain ⟨a, b, _⟩ := seek_some hs
      rw [at_] at b
      have hk : i + (k - i) = k := by omega
      rw [hk] at b
      have hlt : k < (S l).length := by rw [S_len]; exact (List.getElem?_eq_some_iff.mp b).1
      exact absurd ((gd k hlt).mpr b) (h2 k (by rw [from_]; exact a) hlt)
  · rw [h1]
    have hk := (gd k h3).mp h4
    rw [from_] at h2 h5
    cases hs : seek c (l.drop i) i with
    | none =>
      have := seek_none hs
      refine absurd ?_ this
      refine List.mem_of_getElem? (i := k - i) ?_
      rw [at_, show i + (k - i) = k by omega]
      exact hk
    | some m =>
      obtain ⟨a, b, c'⟩ := seek_some hs
      rw [at_, show i + (m - i) = m by omega] at b
      show (k : Int) = (m : Int)
      have hlt : m < (S l).length := by rw [S_len]; exact (List.getElem?_eq_some_iff.mp b).1
      have h6 : ¬ m < k := fun z => h5 m a z ((gd m hlt).mpr b)
      have h7 : ¬ k < m := fun z => c' (k - i) (by omega) (by rw [at_, show i + (k - i) = k by omega]; exact hk)
      omega
theorem S_one (c : Nat) : S [c] = ⟨#[c]⟩ := rfl
@[simp] def oFind : D → List D → Option RV
  | .str l, [.str [c]] => some (.at (.int (findN l c 0)))
  | _, _ => none
@[simp] def oFind2 : D → List D → Option RV
  | .str l, [.str [c], .int i] => if 0 ≤ i then some (.at (.int (findN l c i.toNat))) else none
  | _, _ => none
abbrev rFind1 : V → List V → Hp → VK → Prop := fun x xs H Q => ∃ a b, x = .str a ∧ xs = [.str b] ∧ Q (.int (Txt.find a b)) H
abbrev rFind3' : V → List V → Hp → VK → Prop := fun x xs H Q => ∃ (a b : Str) (i : Int), x = .str a ∧ xs = [.str b, .int i] ∧ Q (.int (Txt.find3 a b i)) H
theorem d_find : MtD T "str" rFind1 oFind := by
  intro G H x dx vs ds rv Q sub px pv ho q
  unfold oFind at ho
  split at ho
  · rename_i l c
    cases ho
    obtain ⟨v, r, rfl, p1, rfl⟩ := pv
    rw [pk_str px, pk_str p1]
    refine ⟨_, _, rfl, rfl, ?_⟩
    rw [find_is_find3, S_one, show (0 : Int) = ((0 : Nat) : Int) from rfl, find_S]
    exact q _ int_val
  · cases ho
theorem d_find2 : MtD T "str" rFind3' oFind2 := by
  intro G H x dx vs ds rv Q sub px pv ho q
  unfold oFind2 at ho
  split at ho
  · rename_i l c i
    split at ho
    · rename_i hi
      cases ho
      obtain ⟨v, r, rfl, p1, v2, r2, rfl, p2, rfl⟩ := pv
      rw [pk_str px, pk_str p1, pk_int p2]
      refine ⟨_, _, i, rfl, rfl, ?_⟩
      have := find_S l c i.toNat
      rw [Int.toNat_of_nonneg hi] at this
      rw [S_one, this]
      exact q _ int_val
    · cases ho
  · cases ho
@[simp] def oIndex : D → List D → Option RV
  | .str l, [.str [c]] => (seek c l 0).map fun k => RV.at (.int (Int.ofNat k))
  | _, _ => none
abbrev rIndex1 : V → List V → Hp → VK → Prop := fun x xs H Q => ∃ a b i rest, x = .str a ∧ xs = [.str b] ∧ Builtin.Str.occurrences a b 0 a.length 1 = i :: rest ∧ Q (.int (i : Nat)) H
theorem d_index : MtD T "str" rIndex1 oIndex := by
  intro G H x dx vs ds rv Q sub px pv ho q
  unfold oIndex at ho
  split at ho
  · rename_i l c
    simp only [Option.map_eq_some_iff] at ho
    obtain ⟨k, hk, rfl⟩ := ho
    obtain ⟨v, r, rfl, p1, rfl⟩ := pv
    rw [pk_str px, pk_str p1]
    have h1 : Txt.find (S l) (S [c]) = (k : Int) := by
      rw [find_is_find3, S_one, show (0 : Int) = ((0 : Nat) : Int) from rfl, find_S]
      unfold findN
      rw [List.drop_zero, hk]
    unfold Txt.find at h1
    split at h1
    · rename_i i rest ho
      refine ⟨_, _, i, rest, rfl, rfl, ho, ?_⟩
      rw [h1]
      exact q _ int_val
    · omega
  · cases ho
/-! ### repr -/
def shown (d : D) : Option (List Nat) := match d with
  | .dic [] [] => some (Str.cps "{}").toList
  | d => match toPy d with
    | some p => if p.showable = true ∧ p.shown.length ≤ LIM ∧ p.depth ≤ 60 then some p.shown.cps.toList else none
    | none => none
@[simp] def oRepr : List D → Option RV
  | [d] => (shown d).map fun l => .at (.str l)
  | _ => none
def rRepr (K : PySem.W.Frag) : List V → Hp → VK → Prop := fun xs H Q => (∃ v p, xs = [v] ∧ Dp K H v p ∧ p.showable = true ∧ p.shown.length ≤ LIM ∧ p.depth ≤ 60 ∧ Q (.str p.shown) H) ∨ (∃ a, xs = [.ref a] ∧ Rd H a (.dK []) ∧ Q (.str "{}") H)
theorem dp_nodict {K : PySem.W.Frag} {H : Hp} {v : V} {p : PyData} (h : Dp K H v p) : p.hasDict = false := by
  refine Dp.rec (motive_1 := fun v p _ => p.hasDict = false) (motive_2 := fun vs ps _ => PyData.hasDictAll ps = false) ?_ ?_ ?_ ?_ ?_ ?_ ?_ ?_ h
  · simp only [PyData.hasDict]
  · intro b; simp only [PyData.hasDict]
  · intro i; simp only [PyData.hasDict]
  · intro x; simp only [PyData.hasDict]
  · intro a xs ds _ _ ih; simp only [PyData.hasDict]; exact ih
  · intro a xs ds _ _ ih; simp only [PyData.hasDict]; exact ih
  · simp only [PyData.hasDictAll]
  · intro v vs d ds _ _ h1 h2; simp only [PyData.hasDictAll, h1, h2, Bool.or_false]
theorem call_repr (gd : X.A.guards = some []) (hu : X.A.units + 64 < cLine) : CallR X (.builtin "repr") (rRepr X.K) := by
  intro pins s σ H xs us Q I r h
  rcases h with ⟨v, p, rfl, dp, sh, few, deep, q⟩ | ⟨a, rfl, hd, q⟩
  · obtain ⟨u, rfl, ru⟩ := vals1 r
    obtain ⟨as, rd⟩ := Dp.reads I p v u dp ru
    have few' : p.shown.length ≤ sizeLine := Nat.le_trans few lim_le
    have nd := dp_nodict dp
    have byRef : ∀ a, u = .ref a → wpAny (model X.prog X.w) X.A (call (.builtin "repr") [u]) (EP X pins σ Q) X.xe s := fun a e => by
      subst e
      refine repr_of_reads' rd sh (fun z => by rw [nd] at z; cases z) gd (by omega) (fun _ _ z => z) (fun h' u tk k => ?_) few'
      exact ⟨.str p.shown, H, I.kept (t' := tk) k, ⟨_, rfl⟩, q⟩
    cases dp with
    | non => obtain rfl : u = Value.none := ru; exact PySem.P.repr_of_none ⟨.str _, H, I.tok _, ⟨_, rfl⟩, by simpa only [PyData.shown] using q⟩
    | bl b => obtain rfl : u = Value.bool b := ru; exact PySem.P.repr_of_bool ⟨.str _, H, I.tok _, ⟨_, rfl⟩, by simpa only [PyData.shown] using q⟩
    | int i =>
      obtain ⟨t, rfl⟩ := (show ∃ t, u = Value.int i t from ru)
      simp only [PyData.showable, decide_eq_true_eq] at sh
      exact PySem.P.repr_of_int sh ⟨.str _, H, I.tok _, ⟨_, rfl⟩, by simpa only [PyData.shown] using q⟩
    | str x =>
      obtain ⟨t, rfl⟩ := (show ∃ t, u = Value.str x t from ru)
      simp only [PyData.shown] at few' q
      exact PySem.P.repr_of_str ⟨.str _, H, I.tok _, ⟨_, rfl⟩, q⟩ few'
    | lst _ _ => exact byRef _ ru
    | tup _ _ => exact byRef _ ru
  · obtain ⟨u, rfl, ru⟩ := vals1 r
    cases ru
    obtain ⟨z, lo, vs, rel, dd⟩ := dk_rd I.hok hd
    have e0 : vs = [] := by
      have := rel.length
      exact List.length_eq_zero_iff.mp this.symm
    subst e0
    obtain ⟨o, es, ep, h1, h2, h3, h4, h5, h6⟩ := dd
    have e1 : es.toList = [] := by cases e : es.toList with
      | nil => rfl
      | cons x r => rw [e] at h5; cases h5
    have rd : Reads s.heap (.ref a) (.dict []) (a :: [] ++ []) := .dict h1 h2.1 h3 (by rw [e1]; exact .nil) (by rw [e1]; exact .nil)
    refine repr_of_reads' rd rfl (fun _ hm => ?_) gd (by show X.A.units + ((PyData.dict []).depth + 1) < cLine; simp only [PyData.depth, PyData.depthKv]; omega) (fun _ _ z => z) (fun h' u tk k => ?_) (by decide +kernel)
    · simp only [List.append_nil, List.mem_cons, List.not_mem_nil, or_false] at hm
      rw [← hm] at lo
      simp at lo
    · exact ⟨.str "{}", H, I.kept (t' := tk) k, ⟨_, rfl⟩, q⟩
theorem d_repr : CallD T (rRepr T.K) oRepr := by
  intro G H vs ds rv Q sub pk ho q
  unfold oRepr at ho
  split at ho
  · rename_i d
    simp only [Option.map_eq_some_iff] at ho
    obtain ⟨l, hl, rfl⟩ := ho
    obtain ⟨v, r, rfl, p1, rfl⟩ := pk
    unfold shown at hl
    split at hl
    · cases hl
      refine .inr ?_
      rcases p1 with p1 | ⟨p, rfl, kvs, h1, h2, h3⟩
      · simp only [Rp] at p1
        obtain ⟨a, kvs, rfl, h1, h2, h3⟩ := p1
        have : kvs = [] := List.map_eq_nil_iff.mp h2.symm
        subst this
        exact ⟨a, rfl, .inl (sub _ _ h1), q _ str_val⟩
      · have : kvs = [] := List.map_eq_nil_iff.mp h2.symm
        subst this
        exact ⟨p, rfl, .inl h1, q _ str_val⟩
    · split at hl
      · rename_i p hp
        split at hl
        · rename_i hc
          cases hl
          refine .inl ⟨v, p, rfl, pk_dp sub hp p1, hc.1, hc.2.1, hc.2.2, q _ ?_⟩
          simp only [Rp, S, Array.toArray_toList]
        · cases hl
      · cases hl
  · cases ho
/-! ### isinstance -/
inductive Ty where | str | list | tuple | int | bool | dict
def Ty.nm : Ty → String
  | .str => "str" | .list => "list" | .tuple => "tuple" | .int => "int" | .bool => "bool" | .dict => "dict"
@[simp] def isD : Ty → D → Option Bool
  | t, .str _ => some (match t with | .str => true | _ => false)
  | t, .lst _ => some (match t with | .list => true | _ => false)
  | t, .tup _ => some (match t with | .tuple => true | _ => false)
  | t, .int _ => some (match t with | .int => true | _ => false)
  | t, .bl _ => some (match t with | .int => true | .bool => true | _ => false)
  | t, .dic _ _ => some (match t with | .dict => true | _ => false)
  | t, .non => some false
  | _, _ => none
def tyD : D → Option String
  | .str _ => some "str" | .lst _ => some "list" | .tup _ => some "tuple" | .int _ => some "int" | .bl _ => some "bool" | .dic _ _ => some "dict" | .non => some "NoneType"
  | _ => none
theorem kit_is {K : PySem.W.Frag} {t : Ty} {d : D} {n : String} {b : Bool} (h : isD t d = some b) (hn : tyD d = some n) : PySem.W.kitOne K (.type n) (.type t.nm) = some b := by
  refine kit_ty ?_
  cases d <;> simp only [tyD] at hn <;> cases hn <;> simp only [isD, Option.some.injEq] at h <;> subst h <;> cases t <;> decide +kernel
theorem ty_of {K : PySem.W.Frag} {v : V} {d : D} {n : String} (sub : Sub G H) (h : Pk T G H v d) (hn : tyD d = some n) : TyX K H v (.type n) := by
  cases d with
  | str l => cases hn; rw [pk_str h]; exact .base (.str _)
  | int i => cases hn; rw [pk_int h]; exact .base (.int _)
  | bl b => cases hn; rw [pk_bl h]; exact .base (.bl _)
  | non =>
    cases hn
    rcases h with h | ⟨p, _, h⟩
    · simp only [Rp] at h; subst h; exact .base .non
    · exact h.elim
  | lst l => cases hn; obtain ⟨a, xs, rfl, h1, _⟩ := pk_lst sub h; exact .base (.lst h1)
  | tup l => cases hn; obtain ⟨a, xs, rfl, h1, _⟩ := pk_tup sub h; exact .base (.tup h1)
  | dic ks vs =>
    cases hn
    rcases h with h | ⟨p, rfl, kvs, h, _⟩
    · simp only [Rp] at h
      obtain ⟨q, kvs, rfl, h2, _⟩ := h
      exact .base (.dK (sub _ _ h2))
    · exact .base (.dK h)
  | obj c vs => cases hn
  | fro l => cases hn
def fIs (t : Ty) (fa : FE) : FE := fun e => do
  let (p, e1) ← fa e
  let d ← R.of (look e1 p)
  let b ← R.of (isD t d)
  .ok (.d (.bl b), e1)
theorem tyD_of {t : Ty} {d : D} {b : Bool} (h : isD t d = some b) : ∃ n, tyD d = some n := by
  cases d with
  | obj c vs => cases h
  | fro l => cases h
  | _ => exact ⟨_, rfl⟩
theorem se_is {x : Expr} {a : Expr} {ta : TE} {fa : FE} {t : Ty} (hx : ∀ te, PE X a te → PE X x (tCB (rIsi T.K) (tCons te (tCons (tC (.ty t.nm)) tNil)))) (ha : SE T W X a ta fa) : SE T W X x (tCB (rIsi T.K) (tCons ta (tCons (tC (.ty t.nm)) tNil))) (fIs t fa) := by
  refine ⟨hx _ ha.1, fun Pr A G H σ e Q s h => ?_⟩
  refine ha.2 Pr A G H σ e _ s (h.first fun p1 e1 v1 G1 H1 x1 s1 q1 h1 => ?_)
  obtain ⟨d, l1, h2⟩ := of_ok h1
  obtain ⟨b, l2, h3⟩ := of_ok h2
  obtain ⟨n, hn⟩ := tyD_of l2
  have rb : rPV ⟨T, Pr, A⟩ σ G1 H1 e1 (.d (.bl b)) (.bl b) := by show Rp _ _ _ _; simp only [Rp]
  exact (show rIsi T.K [v1, .ty t.nm] H1 Q from ⟨v1, .ty t.nm, _, _, b, rfl, .ty _, ty_of s1.sub (look_ok s1 q1 l1) hn, kit_is l2 hn, h3 (.bl b) G1 H1 Ext.refl s1 rb⟩)
/-! ### names of the module -/
theorem se_gl {x : Str} {v : V} {d : D} {u : Value} {pos : Pos} (hg : Gl X x) (hm : X.mg x = some u) (r : RelV v u) (hv : ∀ G, Rp T G d v) (hd : (x == ("__debug__" : Str)) = false := by decide) : SE T W X (.Name x pos) (tC v) (fC d) :=
  ⟨pe_glob hg hm r hd, fun Pr A G H σ e Q s h => h v G H Ext.refl s (hv G)⟩
/-- {} -/
def fDic0 : FE := fun e => .ok (.nw (.dic [] []), e)
theorem se_dic0 {pos : Pos} : SE T W X (.Dict [] [] pos) tDNewK fDic0 := ⟨pe_dnewK, fun Pr A G H σ e Q s h => fun p hp => by
  obtain ⟨f1, f2, f3⟩ := s.fresh hp
  exact h (.ref p) G _ Ext.refl (s.grow (Sub.new hp)) ⟨p, rfl, f1, f2, f3, [], upd_same, rfl, RpL.nil⟩⟩
/-! ### a, b = e, constant -/
def fParC (i j : Nat) (fa : FE) (d : D) : FS := fun e => toS (fa e) fun (p, e1) => match put e1 i p with
  | some e2 => match put e2 j (.d d) with
    | some e3 => .nx e3
    | none => .no
  | none => .no
theorem ss_parC {x : Stmt} {a b : Expr} {ta : TE} {fa : FE} {i j : Nat} {v : V} {d : D} (hx : ∀ t, PA X [a, b] t → PS X x (tPar i j t)) (ha : SE T W X a ta fa) (hb : PE X b (tC v)) (hv : ∀ G, Rp T G d v)
    (hs1 : starEach [a, b] X.env = (false, eval a X.env) :: starEach [b] X.env := by rfl) (hs2 : starEach [b] X.env = (false, eval b X.env) :: starEach [] X.env := by rfl) :
    SS T W X x (tPar i j (tCons ta (tCons (tC v) tNil))) (fParC i j fa d) := by
  refine ⟨hx _ (pa_cons ha.1 (pa_cons hb pa_nil hs2) hs1), fun Pr A G H σ e D s h => ?_⟩
  refine ha.2 Pr A G H σ e _ s (h.first fun p1 e1 v1 G1 H1 x1 s1 q1 h1 => ?_)
  dsimp only at h1
  split at h1
  · rename_i e2 h2
    obtain ⟨G2, x2, s2⟩ := put_ok s1 q1 h2
    split at h1
    · rename_i e3 h3
      obtain ⟨G3, x3, s3⟩ := put_ok (pv := .d d) (v := v) s2 (hv _) h3
      exact ⟨v1, v, rfl, h1 _ G3 H1 (x2.trans x3) s3⟩
    · exact h1.elim
  · exact h1.elim
/-- a, b = x, y: both as data -/
def fPar (i j : Nat) (fa : FA) : FS := fun e => toS (fa e) fun (ps, e1) => toS (settleL e1 ps) fun (ds, e2) => match ds with
  | [a, b] => if free e2 i && free e2 j then .nx (st (st e2 i (.va a)) j (.va b)) else .no
  | _ => .no
theorem ss_par {x : Stmt} {es : List Expr} {ta : TA} {fa : FA} {i j : Nat} (hx : ∀ t, PA X es t → PS X x (tPar i j t)) (ha : SA T W X es ta fa) : SS T W X x (tPar i j ta) (fPar i j fa) := by
  refine ⟨hx _ ha.1, fun Pr A G H σ e D s h => ?_⟩
  refine ha.2 Pr A G H σ e _ s (h.first fun ps e1 vs G1 H1 x1 s1 q1 h1 => ?_)
  dsimp only at h1
  cases l1 : settleL e1 ps with
  | no => rw [l1] at h1; exact h1.elim
  | ex _ _ _ => exact absurd l1 settleL_nx
  | ok z =>
    obtain ⟨ds, e2⟩ := z
    rw [l1] at h1
    obtain ⟨G2, x2, s2, q2⟩ := settleL_ok s1 q1 l1
    simp only [toS_ok] at h1
    split at h1
    · rename_i a b
      split at h1
      · simp only [RpL] at q2
        obtain ⟨v, r, rfl, r1, w, r', rfl, r2, rfl⟩ := q2
        exact ⟨v, w, rfl, h1 _ G2 H1 x2 (set_va (set_va s2 r1) r2)⟩
      · exact h1.elim
    · exact h1.elim
end
end DL
set_option Elab.async false
set_option linter.all false
set_option maxRecDepth 100000
set_option maxHeartbeats 4000000
/-! rules in the text's form; the law's own def -/
namespace DL
open PySem PySem.Spec PyProof.Rows L2
section
variable {T : Tb} {W : WX} {X : Cx} {a b : Expr} {ta tb : TE} {fa fb : FE} {pos : Pos}
theorem units65 {k : Nat} {A : Around} (r : Room k A) : A.units + 65 < cLine := by have := r.un; omega
theorem se_op {op : Operator} {r : R2} {od : D → D → Option RV} (ho : OpR X (binaryOp op) r) (hd : OpD T r od) (ha : SE T W X a ta fa) (hb : SE T W X b tb fb) : SE T W X (.BinOp a op b pos) (tOp r ta tb) (fBin od fa fb) :=
  se_bin (fun _ _ h1 h2 => pe_op ho h1 h2) hd ha hb
theorem se_cmp {op : CmpOp} {r : R2} {od : D → D → Option RV} (ho : OpR X (compareOp op) r) (hd : OpD T r od) (ha : SE T W X a ta fa) (hb : SE T W X b tb fb) (hm : behindInMarks op b = false := by first | exact nobehind _ (by decide) (by decide) | rfl) :
    SE T W X (.Compare a [op] [b] pos) (tOp r ta tb) (fBin od fa fb) := se_bin (fun _ _ h1 h2 => pe_cmpR ho h1 h2 hm) hd ha hb
theorem st_cmp {op : CmpOp} {r : R2} {od : D → D → Option RV} (ho : OpR X (compareOp op) r) (hd : OpD T r od) (ha : SE T W X a ta fa) (hb : SE T W X b tb fb) (hm : behindInMarks op b = false := by first | exact nobehind _ (by decide) (by decide) | rfl) :
    ST T W X (.Compare a [op] [b] pos) (tB (tOp r ta tb)) (fTst (fBin od fa fb)) := by
  have S := se_cmp (pos := pos) ho hd ha hb hm
  refine ⟨pt_cmpR ho ha.1 hb.1 hm, fun Pr A G H σ e Q s h => ?_⟩
  refine S.2 Pr A G H σ e _ s (h.first fun p1 e1 v1 G1 H1 x1 s1 q1 h1 => ?_)
  dsimp only at h1
  split at h1
  · rename_i k hk
    exact ⟨k, bl_of s1 q1 hk, h1 k G1 H1 Ext.refl s1 rfl⟩
  · exact h1.elim
theorem se_un1 {op : UnaryOp} {r : V → Hp → VK → Prop} {od : D → Option RV} (ho : UnR X (unaryOp op) r) (hd : UnD T r od) (ha : SE T W X a ta fa) : SE T W X (.UnaryOp op a pos) (tUn r ta) (fUn od fa) :=
  se_un (fun _ h => pe_un ho h) hd ha
theorem se_ix (hK : X.K = T.K) (ha : SE T W X a ta fa) (hb : SE T W X b tb fb) (hs : PlainIx b := by intro _ _; rfl) : SE T W X (.Subscript a b pos) (tOp (rIx T.K) ta tb) (fBin oIx fa fb) :=
  se_bin (fun _ _ h1 h2 => pe_ix (hK ▸ ix_seq) h1 h2 hs) d_ix ha hb
theorem se_sl (hK : X.K = T.K) {lo hi : Option Expr} {tl th : TO} {fl fh} {p2 : Pos} (ha : SE T W X a ta fa) (hl : SO T W X lo tl fl) (hh : SO T W X hi th fh) : SE T W X (.Subscript a (.Slice lo hi none p2) pos) (tSl (rSlA' T.K) ta tl th) (fSl oSl fa fl fh) :=
  se_slice (hK ▸ sl_A) d_sl ha hl hh
/-- built-ins by name -/
theorem se_blt {id : String} {x : Str} {p : Pos} {es : List Expr} {r : List V → Hp → VK → Prop} {op : List D → Option RV} {te : TA} {fs : FA} (hc : CallR X (.builtin id) r) (hd : CallD T r op) (hg : Gl X x) (hm : X.mg x = none) (hv : bootBuiltins x = some (.builtin id)) (ha : SA T W X (a :: es) te fs) (hn : x ≠ "__name__" := by decide) (hdb : (x == ("__debug__" : Str)) = false := by decide)
    (he : starEach (a :: es) X.env = (false, eval a X.env) :: starEach es X.env := by rfl) (hpl : (backTo pos (starEach es X.env)).any (·.1) = false := by rfl) : SE T W X (.Call (.Name x p) (a :: es) [] pos) (tCB r te) (fCB op fs) :=
  se_cb (fun _ h => pe_callB hc hg hm hv h hn hdb he hpl) hd ha
theorem se_typ {id : String} {x : Str} {p : Pos} {es : List Expr} {r : List V → Hp → VK → Prop} {op : List D → Option RV} {te : TA} {fs : FA} (hc : CallR X (.type id) r) (hd : CallD T r op) (hg : Gl X x) (hm : X.mg x = none) (hv : bootBuiltins x = some (.type id)) (ha : SA T W X (a :: es) te fs) (hn : x ≠ "__name__" := by decide) (hdb : (x == ("__debug__" : Str)) = false := by decide)
    (he : starEach (a :: es) X.env = (false, eval a X.env) :: starEach es X.env := by rfl) (hpl : (backTo pos (starEach es X.env)).any (·.1) = false := by rfl) : SE T W X (.Call (.Name x p) (a :: es) [] pos) (tCB r te) (fCB op fs) :=
  se_cb (fun _ h => pe_callTy hc hg hm hv h hn hdb he hpl) hd ha
theorem se_isn {t : Ty} {p q : Pos} {y : Str} (hK : X.K = T.K) (hg : Gl X "isinstance") (hm : X.mg "isinstance" = none) (hg2 : Gl X y) (hm2 : X.mg y = none) (hv : bootBuiltins y = some (.type t.nm)) (ha : SE T W X a ta fa) (hn : y ≠ "__name__" := by decide) (hdb : (y == ("__debug__" : Str)) = false := by decide)
    (he : starEach (a :: [.Name y q]) X.env = (false, eval a X.env) :: starEach [.Name y q] X.env := by rfl) (he2 : starEach (.Name y q :: []) X.env = (false, eval (.Name y q) X.env) :: starEach [] X.env := by rfl) (hpl : (backTo pos (starEach [.Name y q] X.env)).any (·.1) = false := by rfl) :
    SE T W X (.Call (.Name "isinstance" p) [a, .Name y q] [] pos) (tCB (rIsi T.K) (tCons ta (tCons (tC (.ty t.nm)) tNil))) (fIs t fa) :=
  se_is (fun te h => pe_callB (hK ▸ call_isi) hg hm PyProof.Rows.Boot.«isinstance» (pa_cons h (pa_cons (pe_bltn hg2 hm2 hv rfl hn hdb) pa_nil he2) he) (by decide) (by decide) he hpl) ha
/-- a target -/
def fTgt (g : D → Env → Option Env) (fe : FE) : FS := fun e => toS (fe e) fun (p, e1) => toS (settle e1 p) fun (d, e2) => match g d e2 with
  | some e3 => .nx e3
  | none => .no
theorem ss_tgt {tg y : Expr} {te : TE} {fe : FE} {g : TG} {is : List Nat} {gm} (hg : STg T X tg g is gm) (he : SE T W X y te fe) (hs : swapsWithSole [tg] y pos.line X.env = pure false := by rfl) (hw : swappedStores [tg] y X.env = pure none := by rfl)
    (h1 : (assignEach [tg] X.env).map (·.2) = [assign tg X.env] := by rfl) : SS T W X (.Assign [tg] y pos) (tAsg te g) (fTgt gm fe) := by
  refine ⟨ps_asg he.1 hg.1 hs hw h1, fun Pr A G H σ e D s h => ?_⟩
  refine he.2 Pr A G H σ e _ s (h.first fun p1 e1 v1 G1 H1 x1 s1 q1 h1 => ?_)
  dsimp only at h1
  cases l1 : settle e1 p1 with
  | no => rw [l1] at h1; exact h1.elim
  | ex _ _ _ => exact absurd l1 settle_nx
  | ok z =>
    obtain ⟨d, e2⟩ := z
    rw [l1] at h1
    obtain ⟨G2, x2, s2, r2⟩ := settle_ok s1 q1 l1
    simp only [toS_ok] at h1
    split at h1
    · rename_i e3 h3
      exact hg.2 Pr A G2 H1 σ e2 e3 d v1 _ s2 r2 h3 fun σ' s' _ _ => h1 σ' G2 H1 x2 s'
    · exact h1.elim
/-- o[k] = e, o a name's own list -/
theorem ss_stl {i : Nat} {k y : Expr} {tk te : TE} {fk fe : FE} {n : Str} {p p2 : Pos} (ho : PE X (.Name n p) (tVar i)) (hk : SE T W X k tk fk) (he : SE T W X y te fe)
    (hs : swapsWithSole [.Subscript (.Name n p) k p2] y pos.line X.env = pure false := by rfl) (hw : swappedStores [.Subscript (.Name n p) k p2] y X.env = pure none := by rfl) (h1 : (assignEach [.Subscript (.Name n p) k p2] X.env).map (·.2) = [assign (.Subscript (.Name n p) k p2) X.env] := by rfl)
    (h2 : ∀ v, assign (.Subscript (.Name n p) k p2) X.env v = (do
      let ov ← holding [v] (eval (.Name n p) X.env)
      let iv ← holding [v, ov] (eval k X.env)
      standAt p2
      holding [v, ov, iv] (setItem ov iv v)
      release [v, ov, iv] []) := by intro _; rfl) : SS T W X (.Assign [.Subscript (.Name n p) k p2] y pos) (tAsg te (gSub (tVar i) tk rSetL)) (fSti i oSetL fk fe) :=
  ss_sti (fun t u h h' => ps_asg h (pg_sub ho h' set_list h2) hs hw h1) d_setL hk he
/-! ### what is walked: a list or a text -/
def fItA (fe : FE) : Env → R (List D × Env) := fun e => match fe e with
  | .ok (p, e1) => match look e1 p with
    | some (.str _) => fItS fe e
    | _ => fItL fe e
  | .ex c d e1 => .ex c d e1
  | .no => .no
theorem si_seq {tg x : Expr} {te : TE} {fe : FE} (hK : X.K = T.K) (he : SE T W X x te fe) : SI T W X tg x (fun σ H R => iList T.K te σ H R ∨ iStr te σ H R) (fItA fe) := by
  obtain ⟨p1, r1⟩ := si_list (tg := tg) hK he
  obtain ⟨p2, r2⟩ := si_str (tg := tg) he
  refine ⟨⟨fun pins s σ H Q I h => ?_⟩, fun Pr A G H σ e Q s h => ?_⟩
  · rcases h with h | h
    · exact p1.run pins s σ H Q I h
    · exact p2.run pins s σ H Q I h
  · unfold fItA at h
    cases q0 : fe e with
    | no => rw [q0] at h; exact h.elim
    | ex c d e1 =>
      rw [q0] at h
      refine .inl (r1 Pr A G H σ e Q s ?_)
      unfold fItL
      rw [q0]
      exact h
    | ok a =>
      obtain ⟨p, e1⟩ := a
      rw [q0] at h
      dsimp only at h
      split at h
      · exact .inr (r2 Pr A G H σ e Q s h)
      · exact .inl (r1 Pr A G H σ e Q s h)
end
/-! ### arguments by name -/
@[simp] def permL {α : Type} (p : List Nat) (l : List α) : List α := p.filterMap fun j => l[j]?
theorem vals_perm {xs : List V} {us : List Value} (r : Vals xs us) : ∀ p : List Nat, Vals (permL p xs) (permL p us)
  | [] => .nil
  | j :: p => by
    have ih := vals_perm r p
    unfold permL at ih ⊢
    rw [List.filterMap_cons, List.filterMap_cons]
    cases e : xs[j]? with
    | none =>
      have : us[j]? = none := by rw [List.getElem?_eq_none_iff] at e ⊢; rw [← r.length]; exact e
      rw [this]; exact ih
    | some x =>
      obtain ⟨u, hu, ru⟩ := r.get e
      rw [hu]
      exact .cons ru ih
theorem rpl_perm {T : Tb} {G : Hp} {ds : List D} {xs : List V} (r : RpL T G ds xs) : ∀ p : List Nat, (∀ j ∈ p, j < ds.length) → RpL T G (permL p ds) (permL p xs) ∧ (permL p ds).length = p.length
  | [], _ => ⟨RpL.nil, rfl⟩
  | j :: p, h => by
    obtain ⟨ih, il⟩ := rpl_perm r p fun i hi => h i (List.mem_cons_of_mem _ hi)
    have hj := h j List.mem_cons_self
    have e : ds[j]? = some ds[j] := List.getElem?_eq_getElem hj
    obtain ⟨x, hx, rx⟩ := r.get e
    unfold permL at ih il ⊢
    rw [List.filterMap_cons, List.filterMap_cons, e, hx]
    exact ⟨RpL.cons rx ih, by rw [List.length_cons, il]; rfl⟩
theorem Bd.kw {K : PySem.W.Frag} {x qual : Str} {sd : Stmt} {f : Addr} {fd : FuncData} (F : Fun K x qual sd f fd) {ps ks : List Str} {p : List Nat}
    (h : ∀ (kV doc pm : Value) (an : Option Addr) (cdv ct : Value) (ws : List Value), ws.length = ks.length → bindArgs (PySem.W.fnOf x qual (defArgs sd) (defBody sd) (defScope sd) .none kV doc pm an cdv ct) ⟨[], ks.zip ws⟩ = pure (ps.zip (permL p ws))) : Bd K fd ps ks 0 (permL p) (permL p) where
  to := fun sh us ws _ l1 l2 => by
    obtain ⟨oc, od, kV, doc, pm, an, cdv, ct, osl, rfl, lk, hcode⟩ := F.ex
    have : us = [] := List.length_eq_zero_iff.mp l1
    subst this
    exact .of_eq (h kV doc pm an cdv ct ws l2)
  rel := fun r => vals_perm r p
/-! ### the law -/
/-- what the law's def is to do: true at every script -/
def spLaw (n : Nat) (K : PySem.W.Frag) : Sp := fun vs H Q _ => ∃ (a : Addr) (ns : List Int), vs = [.ref a] ∧ SqL K H a (ns.map V.int) ∧ ns.length ≤ n ∧ ∀ H', Q (.bl true) H'
def LawOk (n : Nat) (m : FM) : Prop := ∀ ns : List Int, ns.length ≤ n → ∃ s', m [.va (.fro (ns.map D.int))] = .ok (.d (.bl true), s')
theorem ints_rp {T : Tb} {G : Hp} : ∀ ns : List Int, RpL T G (ns.map D.int) (ns.map V.int)
  | [] => RpL.nil
  | n :: ns => RpL.cons int_val (ints_rp ns)
theorem law_fng {P : Program} {w : World} {K : PySem.W.Frag} {mg : Str → Option Value} {base : Heap} {k n : Nat} {f : Addr} {fd : FuncData} {x : Str} {T : Tb} {m : FM} (F : FnG P w K mg base k f fd [x] (spD T 1 m)) (hK : T.K = K) (h : LawOk n m) :
    FnG P w K mg base k f fd [x] (spLaw n K) := by
  refine ⟨fun xs H Q E z => ?_, fun A below sh H as us xs Q E room gd e0 bound vals want => F.go A below sh H as us xs Q E room gd e0 bound vals ?_⟩
  · obtain ⟨a, ns, rfl, _⟩ := z; rfl
  · obtain ⟨a, ns, rfl, hs, hl, q⟩ := want
    obtain ⟨s', hm⟩ := h ns hl
    have r : Rp T H (.fro (ns.map D.int)) (.ref a) := by
      simp only [Rp]
      exact ⟨a, ns.map V.int, rfl, by rw [hK]; exact hs, ints_rp ns⟩
    refine ⟨rfl, H, [.va (.fro (ns.map D.int))], Sub.refl, rfl, ⟨fun i d z => ?_, fun i b d z => ?_, fun i j b d b2 d2 p z _ _ _ => ?_⟩, ?_⟩
    · cases i with
      | zero => cases z; exact ⟨.ref a, rfl, r⟩
      | succ i => cases i <;> cases z
    · cases i with
      | zero => cases z
      | succ i => cases i <;> cases z
    · cases i with
      | zero => cases z
      | succ i => cases i <;> cases z
    · rw [hm]
      intro v G' H' _ hv
      simp only [PVC, Rp] at hv
      subst hv
      exact q H'
end DL
set_option Elab.async false
set_option linter.all false
set_option maxRecDepth 100000
/-! the mirrors at an environment -/
namespace DL
open PySem PySem.Spec PyProof.Rows L2
@[simp] theorem fV_ev (i : Nat) (e : Env) : fV i e = (match gt e i with
  | .va d => .ok (.d d, e)
  | .ce _ _ => .ok (.sl i, e)
  | .un => .no) := rfl
@[simp] theorem fC_ev (d : D) (e : Env) : fC d e = (.ok (.d d, e)) := rfl
@[simp] theorem fBin_ev (op : D → D → Option RV) (fa fb : FE) (e : Env) : fBin op fa fb e = (do
  let (pa, e1) ← fa e
  let (pb, e2) ← fb e1
  let da ← R.of (look e2 (hold pa))
  let db ← R.of (look e2 pb)
  let rv ← R.of (op da db)
  .ok (rv.pv, e2)) := rfl
@[simp] theorem fUn_ev (op : D → Option RV) (fa : FE) (e : Env) : fUn op fa e = (do
  let (pa, e1) ← fa e
  let da ← R.of (look e1 pa)
  let rv ← R.of (op da)
  .ok (rv.pv, e1)) := rfl
@[simp] theorem fCB_ev (op : List D → Option RV) (fa : FA) (e : Env) : fCB op fa e = (do
  let (ps, e1) ← fa e
  let ds ← R.of (lookL e1 ps)
  let rv ← R.of (op ds)
  .ok (rv.pv, e1)) := rfl
@[simp] theorem fNil_ev  (e : Env) : fNil  e = (.ok ([], e)) := rfl
@[simp] theorem fCons_ev (fa : FE) (fr : FA) (e : Env) : fCons fa fr e = (do
  let (p, e1) ← fa e
  let (ps, e2) ← fr e1
  .ok (hold p :: ps, e2)) := rfl
@[simp] theorem fLst_ev (fa : FA) (e : Env) : fLst fa e = (do
  let (ps, e1) ← fa e
  let (ds, e2) ← settleL e1 ps
  if ds.length ≤ LIM then .ok (.nw (.lst ds), e2) else .no) := rfl
@[simp] theorem fTup_ev (fa : FA) (e : Env) : fTup fa e = (do
  let (ps, e1) ← fa e
  let (ds, e2) ← settleL e1 ps
  if ds.length ≤ LIM then .ok (.d (.tup ds), e2) else .no) := rfl
@[simp] theorem fTst_ev (fa : FE) (e : Env) : fTst fa e = (do
  let (p, e1) ← fa e
  match look e1 p with
  | some (.bl b) => .ok (b, e1)
  | _ => .no) := rfl
@[simp] theorem fAnd_ev (fa fb : FT) (e : Env) : fAnd fa fb e = (do
  let (b, e1) ← fa e
  if b = true then fb e1 else .ok (false, e1)) := rfl
@[simp] theorem fOr_ev (fa fb : FT) (e : Env) : fOr fa fb e = (do
  let (b, e1) ← fa e
  if b = true then .ok (true, e1) else fb e1) := rfl
@[simp] theorem fNot_ev (fa : FT) (e : Env) : fNot fa e = (do
  let (b, e1) ← fa e
  .ok (!b, e1)) := rfl
@[simp] theorem fAndV_ev (fa fb : FE) (e : Env) : fAndV fa fb e = (do
  let (p, e1) ← fa e
  match look e1 p with
  | some (.bl b) => if b = true then fb e1 else .ok (.d (.bl false), e1)
  | _ => .no) := rfl
@[simp] theorem fOrV_ev (fa fb : FE) (e : Env) : fOrV fa fb e = (do
  let (p, e1) ← fa e
  match look e1 p with
  | some (.bl b) => if b = true then .ok (.d (.bl true), e1) else fb e1
  | _ => .no) := rfl
@[simp] theorem fNotV_ev (fa : FE) (e : Env) : fNotV fa e = (do
  let (p, e1) ← fa e
  match look e1 p with
  | some (.bl b) => .ok (.d (.bl (!b)), e1)
  | _ => .no) := rfl
@[simp] theorem fIfE_ev (ft : FT) (fa fb : FE) (e : Env) : fIfE ft fa fb e = (do
  let (b, e1) ← ft e
  if b = true then fa e1 else fb e1) := rfl
@[simp] theorem fNoPart_ev  (e : Env) : fNoPart  e = (.ok (none, e)) := rfl
@[simp] theorem fPart_ev (fa : FE) (e : Env) : fPart fa e = (do
  let (p, e1) ← fa e
  match look e1 p with
  | some (.int i) => .ok (some i, e1)
  | _ => .no) := rfl
@[simp] theorem fSl_ev (op : D → Option Int → Option Int → Option RV) (fa : FE) (fl fh : Env → R (Option Int × Env)) (e : Env) : fSl op fa fl fh e = (do
  let (pa, e1) ← fa e
  let (lo, e2) ← fl e1
  let (hi, e3) ← fh e2
  let da ← R.of (look e3 (hold pa))
  let rv ← R.of (op da lo hi)
  .ok (rv.pv, e3)) := rfl
@[simp] theorem fMt0_ev (ty : String) (op : D → List D → Option RV) (fa : FE) (e : Env) : fMt0 ty op fa e = (do
  let (pa, e1) ← fa e
  let da ← R.of (look e1 pa)
  let _ ← R.of (if isTy ty da then some () else none)
  let rv ← R.of (op da [])
  .ok (rv.pv, e1)) := rfl
@[simp] theorem fMt_ev (ty : String) (op : D → List D → Option RV) (fa : FE) (fs : FA) (e : Env) : fMt ty op fa fs e = (do
  let (pa, e1) ← fa e
  let d0 ← R.of (look e1 (hold pa))
  let _ ← R.of (if isTy ty d0 then some () else none)
  let (ps, e2) ← fs e1
  let da ← R.of (look e2 (hold pa))
  let ds ← R.of (lookL e2 ps)
  let rv ← R.of (op da ds)
  .ok (rv.pv, e2)) := rfl
@[simp] theorem fSkip_ev  (e : Env) : fSkip  e = (.nx e) := rfl
@[simp] theorem fSeq_ev (f g : FS) (e : Env) : fSeq f g e = (match f e with
  | .nx e1 => g e1
  | .bk e1 => .bk e1
  | .ct e1 => .ct e1
  | .rt p e1 => .rt p e1
  | .ex c d e1 => .ex c d e1
  | .no => .no) := rfl
@[simp] theorem fBrk_ev  (e : Env) : fBrk  e = (.bk e) := rfl
@[simp] theorem fCnt_ev  (e : Env) : fCnt  e = (.ct e) := rfl
@[simp] theorem fPass_ev  (e : Env) : fPass  e = (.nx e) := rfl
@[simp] theorem fNever_ev  (e : Env) : fNever  e = (.no) := rfl
@[simp] theorem fDrop_ev (fe : FE) (e : Env) : fDrop fe e = (toS (fe e) fun (_, e1) => .nx e1) := rfl
@[simp] theorem fIf_ev (ft : FT) (fa fb : FS) (e : Env) : fIf ft fa fb e = (toS (ft e) fun (b, e1) => if b = true then fa e1 else fb e1) := rfl
@[simp] theorem fRet_ev (fe : FE) (e : Env) : fRet fe e = (toS (fe e) fun (p, e1) => retP e1 p) := rfl
@[simp] theorem fRetN_ev  (e : Env) : fRetN  e = (.rt (.d .non) e) := rfl
@[simp] theorem fSet_ev (i : Nat) (fe : FE) (e : Env) : fSet i fe e = (toS (fe e) fun (p, e1) => putO e1 i p) := rfl
@[simp] theorem fAug_ev (i : Nat) (op : D → D → Option RV) (fe : FE) (e : Env) : fAug i op fe e = (match gt e i with
  | .va d0 => toS (fe e) fun (p, e1) => match look e1 p with
    | some d1 => match op d0 d1 with
      | some rv => putO e1 i rv.pv
      | none => .no
    | none => .no
  | _ => .no) := rfl
@[simp] theorem fMu_ev (i : Nat) (ty : String) (op : D → List D → Option (RV × D)) (fs : FA) (e : Env) : fMu i ty op fs e = (match gt e i with
  | .ce _ d0 => if isTy ty d0 = true then (do
      let (ps, e1) ← fs e
      let (ds, e2) ← settleL e1 ps
      match gt e2 i with
      | .ce b d => match op d ds with
        | some (rv, d') => .ok (rv.pv, st e2 i (.ce b d'))
        | none => .no
      | _ => .no) else .no
  | _ => .no) := rfl
@[simp] theorem fMu0_ev (i : Nat) (ty : String) (op : D → List D → Option (RV × D)) (e : Env) : fMu0 i ty op e = (match gt e i with
  | .ce b d => if isTy ty d = true then (match op d [] with
      | some (rv, d') => .ok (rv.pv, st e i (.ce b d'))
      | none => .no) else .no
  | _ => .no) := rfl
@[simp] theorem fSti_ev (i : Nat) (op : D → D → D → Option D) (fk fe : FE) (e : Env) : fSti i op fk fe e = (toS (fe e) fun (p, e1) => toS (settle e1 p) fun (dv, e2) => match gt e2 i with
  | .ce _ _ => toS (fk e2) fun (pk, e3) => toS (settle e3 pk) fun (dk, e4) => match gt e4 i with
    | .ce b d => match op d dk dv with
      | some d' => .nx (st e4 i (.ce b d'))
      | none => .no
    | _ => .no
  | _ => .no) := rfl
@[simp] theorem fItL_ev (fe : FE) (e : Env) : fItL fe e = (do
  let (p, e1) ← fe e
  let (d, e2) ← settle e1 p
  match d with
  | .lst l => .ok (l, e2)
  | .fro l => .ok (l, e2)
  | _ => .no) := rfl
@[simp] theorem fItS_ev (fe : FE) (e : Env) : fItS fe e = (do
  let (p, e1) ← fe e
  match look e1 p with
  | some (.str l) => .ok (chrs l, e1)
  | _ => .no) := rfl
@[simp] theorem fRg1_ev (fa : FA) (e : Env) : fRg1 fa e = (do
  let (ps, e1) ← fa e
  match lookL e1 ps with
  | some [.int j] => if RB j then .ok (rngs 0 j.toNat, e1) else .no
  | _ => .no) := rfl
@[simp] theorem fRg2_ev (fa : FA) (e : Env) : fRg2 fa e = (do
  let (ps, e1) ← fa e
  match lookL e1 ps with
  | some [.int i, .int j] => if RB i && RB j then .ok (rngs i (j - i).toNat, e1) else .no
  | _ => .no) := rfl
@[simp] theorem fFor_ev (g : D → Env → Option Env) (fi : Env → R (List D × Env)) (b : FS) (e : Env) : fFor g fi b e = (toS (fi e) fun (items, e1) => loop g b items e1) := rfl
@[simp] theorem fYes_ev  (e : Env) : fYes  e = (.ok (true, e)) := rfl
@[simp] theorem fLc_ev (vs : List Nat) (g : D → Env → Option Env) (fi : Env → R (List D × Env)) (ft : FT) (fe : FE) (e : Env) : fLc vs g fi ft fe e = (do
  let (items, e1) ← fi e
  let (acc, e2) ← cloop vs g ft fe items [] e1
  .ok (.nw (.lst acc), back e1 vs e2)) := rfl
@[simp] theorem fCall_ev (m : FM) (ms : List Bool) (dfl : List D) (fa : FA) (e : Env) : fCall m ms dfl fa e = (do
  let (ps, e1) ← fa e
  let (ps', e2) ← pass1 e1 ms ps
  let sls ← R.of (if nodupB (refs ps') then toSl e2 ps' else none)
  match m (sls ++ dfl.map Sl.va) with
  | .ok (p, s') => .ok (p, upds e2 ps' s')
  | .ex c d s' => .ex c d (upds e2 ps' s')
  | .no => .no) := rfl
@[simp] theorem fCallK_ev (m : FM) (perm : List D → List D) (fa : FA) (e : Env) : fCallK m perm fa e = (do
  let (ps, e1) ← fa e
  let (ds, e2) ← settleL e1 ps
  match m ((perm ds).map Sl.va) with
  | .ok (p, _) => .ok (p, e2)
  | .ex c d _ => .ex c d e2
  | .no => .no) := rfl
@[simp] theorem fIs_ev (t : Ty) (fa : FE) (e : Env) : fIs t fa e = (do
  let (p, e1) ← fa e
  let d ← R.of (look e1 p)
  let b ← R.of (isD t d)
  .ok (.d (.bl b), e1)) := rfl
@[simp] theorem fDic0_ev  (e : Env) : fDic0  e = (.ok (.nw (.dic [] []), e)) := rfl
@[simp] theorem fParC_ev (i j : Nat) (fa : FE) (d : D) (e : Env) : fParC i j fa d e = (toS (fa e) fun (p, e1) => match put e1 i p with
  | some e2 => match put e2 j (.d d) with
    | some e3 => .nx e3
    | none => .no
  | none => .no) := rfl
@[simp] theorem fPar_ev (i j : Nat) (fa : FA) (e : Env) : fPar i j fa e = (toS (fa e) fun (ps, e1) => toS (settleL e1 ps) fun (ds, e2) => match ds with
  | [a, b] => if free e2 i && free e2 j then .nx (st (st e2 i (.va a)) j (.va b)) else .no
  | _ => .no) := rfl
@[simp] theorem fTgt_ev (g : D → Env → Option Env) (fe : FE) (e : Env) : fTgt g fe e = (toS (fe e) fun (p, e1) => toS (settle e1 p) fun (d, e2) => match g d e2 with
  | some e3 => .nx e3
  | none => .no) := rfl
@[simp] theorem fItA_ev (fe : FE) (e : Env) : fItA fe e = (match fe e with
  | .ok (p, e1) => match look e1 p with
    | some (.str _) => fItS fe e
    | _ => fItL fe e
  | .ex c d e1 => .ex c d e1
  | .no => .no) := rfl
@[simp] theorem fRaise_ev (c : Nat) (fe : FE) (e : Env) : fRaise c fe e = (toS (fe e) fun (p, e1) => toS (settle e1 p) fun (d, e2) => .ex c d e2) := rfl
@[simp] theorem fTry_ev (fb : FS) (hs : List HM) (e : Env) : fTry fb hs e = (match fb e with
  | .ex c d e1 => fHds hs c d e1
  | o => o) := rfl
@[simp] theorem loop_nil (g b e) : loop g b [] e = .nx e := rfl
end DL
set_option Elab.async false
set_option linter.all false
set_option maxRecDepth 100000
set_option maxHeartbeats 4000000
/-! plain facts on the mirrors -/
namespace DL
open PySem PySem.Spec PyProof.Rows L2
theorem LIM_eq : LIM = 1000000 := rfl
theorem cloop_pure {v : Nat} {g : D → Env → Option Env} {fe : FE} {w : Env} {f : D → D} : ∀ (items acc : List D) (e : Env), (∀ d ∈ items, ∃ e2, g d w = some e2 ∧ ∃ p e3 e4, fe e2 = .ok (p, e3) ∧ settle e3 p = .ok (f d, e4) ∧ st e4 v .un = w) → st e v .un = w → acc.length + items.length ≤ LIM →
    ∃ e', cloop [v] g fYes fe items acc e = .ok (acc ++ items.map f, e') ∧ st e' v .un = w
  | [], acc, e, _, hw, _ => ⟨e, by simp [cloop], hw⟩
  | d :: r, acc, e, h, hw, hl => by
    obtain ⟨e2, h1, p, e3, e4, h2, h3, h4⟩ := h d List.mem_cons_self
    rw [List.length_cons] at hl
    obtain ⟨e', k1, k2⟩ := cloop_pure (v := v) (g := g) (fe := fe) (w := w) (f := f) r (acc ++ [f d]) e4 (fun d hd => h d (List.mem_cons_of_mem _ hd)) h4 (by simp; omega)
    refine ⟨e', ?_, k2⟩
    have hlt : acc.length < LIM := by omega
    show (do
      let e1 ← R.of (g d (st e v .un))
      let (b, e2) ← noex (fYes e1)
      if b = true then do
        let (p, e3) ← noex (fe e2)
        let (y, e4) ← settle e3 p
        if acc.length < LIM then cloop [v] g fYes fe r (acc ++ [y]) e4 else .no
      else cloop [v] g fYes fe r acc e2) = _
    rw [hw, h1]
    simp only [R.of, R.bind_ok, fYes_ev, noex_ok, h2, h3, if_pos hlt, if_true]
    rw [k1]
    simp
theorem lc_pure {v : Nat} {g : D → Env → Option Env} {fi : Env → R (List D × Env)} {fe : FE} {e e1 w : Env} {items : List D} {f : D → D} (hi : fi e = .ok (items, e1)) (hw : st e1 v .un = w) (hl : items.length ≤ LIM)
    (step : ∀ d ∈ items, ∃ e2, g d w = some e2 ∧ ∃ p e3 e4, fe e2 = .ok (p, e3) ∧ settle e3 p = .ok (f d, e4) ∧ st e4 v .un = w) :
    fLc [v] g fi fYes fe e = .ok (.nw (.lst (items.map f)), st w v (match gt e1 v with | .va d => .va d | _ => .un)) := by
  obtain ⟨e', h1, h2⟩ := cloop_pure (v := v) (g := g) (fe := fe) (w := w) (f := f) items [] e1 step hw (by simpa using hl)
  have e3 : ∀ x, st e' v x = st w v x := fun x => by rw [← h2, st_st]
  have e4 : back e1 [v] e' = st w v (match gt e1 v with | .va d => .va d | _ => .un) := by
    cases q : gt e1 v <;> simp only [back, q, e3]
  rw [fLc_ev, hi]
  simp only [R.bind_ok, h1, List.nil_append, e4]
theorem bls_map {l : List Nat} {f : Nat → Bool} : bls ((l.map fun c => D.str [c]).map fun d => match d with | .str [c] => .bl (f c) | _ => .non) = some (l.map f) := by
  induction l with
  | nil => rfl
  | cons c l ih => simp only [List.map_cons, bls, ih, Option.map_some]
theorem bls_bl {α : Type} (l : List α) (f : α → Bool) : bls (l.map fun c => D.bl (f c)) = some (l.map f) := by
  induction l with
  | nil => rfl
  | cons c l ih => simp only [List.map_cons, bls, ih, Option.map_some]
/-- a list of what is told of each sign of a text -/
theorem lc_signs {v : Nat} {g : D → Env → Option Env} {fi : Env → R (List D × Env)} {fe : FE} {e e1 w : Env} {l : List Nat} {f : Nat → D} (hi : fi e = .ok (chrs l, e1)) (hw : st e1 v .un = w) (hl : l.length ≤ LIM)
    (step : ∀ c ∈ l, ∃ e2, g (.str [c]) w = some e2 ∧ ∃ p e3 e4, fe e2 = .ok (p, e3) ∧ settle e3 p = .ok (f c, e4) ∧ st e4 v .un = w) :
    fLc [v] g fi fYes fe e = .ok (.nw (.lst (l.map f)), st w v (match gt e1 v with | .va d => .va d | _ => .un)) := by
  have h := lc_pure (f := fun d => match d with | .str [c] => f c | _ => .non) hi hw (by simpa using hl) fun d hd => by
    obtain ⟨c, hc, rfl⟩ := List.mem_map.mp hd
    exact step c hc
  rw [h]
  simp [List.map_map, Function.comp_def]
theorem chrs_len (l : List Nat) : (chrs l).length = l.length := by
  induction l with
  | nil => rfl
  | cons c l ih => simp [chrs] at ih ⊢
theorem fIf_ok {ft : FT} {fa fb : FS} {e e1 : Env} {b : Bool} (h : ft e = .ok (b, e1)) : fIf ft fa fb e = if b = true then fa e1 else fb e1 := by rw [fIf_ev, h]; rfl
theorem fSeq_nx {f g : FS} {e e1 : Env} (h : f e = .nx e1) : fSeq f g e = g e1 := by rw [fSeq_ev, h]
theorem fSeq_rt {f g : FS} {e e1 : Env} {p : PV} (h : f e = .rt p e1) : fSeq f g e = .rt p e1 := by rw [fSeq_ev, h]
theorem fSeq_ex {f g : FS} {e e1 : Env} {c : Nat} {d : D} (h : f e = .ex c d e1) : fSeq f g e = .ex c d e1 := by rw [fSeq_ev, h]
theorem fSet_ok {i : Nat} {fe : FE} {e e1 e2 : Env} {p : PV} (h : fe e = .ok (p, e1)) (h2 : put e1 i p = some e2) : fSet i fe e = .nx e2 := by rw [fSet_ev, h]; simp only [toS_ok, putO, h2]
theorem fFor_ok {g : D → Env → Option Env} {fi : Env → R (List D × Env)} {b : FS} {e e1 : Env} {items : List D} (h : fi e = .ok (items, e1)) : fFor g fi b e = loop g b items e1 := by rw [fFor_ev, h]; rfl
theorem loop_nx {g : D → Env → Option Env} {b : FS} {d : D} {r : List D} {e e1 e2 : Env} (h1 : g d e = some e1) (h2 : b e1 = .nx e2) : loop g b (d :: r) e = loop g b r e2 := by rw [loop, h1]; simp only [h2]
theorem loop_rt {g : D → Env → Option Env} {b : FS} {d : D} {r : List D} {e e1 e2 : Env} {p : PV} (h1 : g d e = some e1) (h2 : b e1 = .rt p e2) : loop g b (d :: r) e = .rt p e2 := by rw [loop, h1]; simp only [h2]
theorem fCB_ok {op : List D → Option RV} {fa : FA} {e e1 : Env} {ps : List PV} {ds : List D} {rv : RV} (h : fa e = .ok (ps, e1)) (h2 : lookL e1 ps = some ds) (h3 : op ds = some rv) : fCB op fa e = .ok (rv.pv, e1) := by
  rw [fCB_ev, h]; simp only [R.bind_ok, h2, h3, R.of]
theorem fBin_ok {op : D → D → Option RV} {fa fb : FE} {e e1 e2 : Env} {pa pb : PV} {da db : D} {rv : RV} (h : fa e = .ok (pa, e1)) (h2 : fb e1 = .ok (pb, e2)) (h3 : look e2 (hold pa) = some da) (h4 : look e2 pb = some db) (h5 : op da db = some rv) : fBin op fa fb e = .ok (rv.pv, e2) := by
  rw [fBin_ev, h]; simp only [R.bind_ok, h2, h3, h4, h5, R.of]
theorem fTst_ok {fa : FE} {e e1 : Env} {b : Bool} (h : fa e = .ok (.d (.bl b), e1)) : fTst fa e = .ok (b, e1) := by rw [fTst_ev, h]; rfl
theorem fRet_d {fa : FE} {e e1 : Env} {d : D} (h : fa e = .ok (.d d, e1)) : fRet fa e = .rt (.d d) e1 := by rw [fRet_ev, h]; rfl
theorem fRet_nw {fa : FE} {e e1 : Env} {d : D} (h : fa e = .ok (.nw d, e1)) : fRet fa e = .rt (.nw d) e1 := by rw [fRet_ev, h]; rfl
theorem mDef_d {n : Nat} {fb : FS} {sls s' : List Sl} {d : D} {e : Env} (h : fb (sls ++ List.replicate (n - sls.length) .un) = .rt (.d d) e) (hf : fin sls e = some s') : mDef n fb sls = .ok (.d d, s') := by
  unfold mDef; rw [h]; simp only [hf]
theorem mDef_nw {n : Nat} {fb : FS} {sls s' : List Sl} {d : D} {e : Env} (h : fb (sls ++ List.replicate (n - sls.length) .un) = .rt (.nw d) e) (hf : fin sls e = some s') : mDef n fb sls = .ok (.nw d, s') := by
  unfold mDef; rw [h]; simp only [hf]
theorem mDef_nx {n : Nat} {fb : FS} {sls s' : List Sl} {e : Env} (h : fb (sls ++ List.replicate (n - sls.length) .un) = .nx e) (hf : fin sls e = some s') : mDef n fb sls = .ok (.d .non, s') := by
  unfold mDef; rw [h]; simp only [hf]
theorem mDef_ex {n c : Nat} {fb : FS} {sls s' : List Sl} {d : D} {e : Env} (h : fb (sls ++ List.replicate (n - sls.length) .un) = .ex c d e) (hf : fin sls e = some s') : mDef n fb sls = .ex c d s' := by
  unfold mDef; rw [h]; simp only [hf]
end DL
set_option Elab.async false
set_option linter.all false
set_option maxRecDepth 100000
set_option maxHeartbeats 4000000
namespace K17
open PySem PySem.Spec PyProof.Rows L2 DL
def topS (i : Nat) : Stmt := PySem.Challenge.pw_leakyqueue_k17_best_results.main.body.getD i (.Pass ⟨0, 0, 0, 0⟩)
def clsB : Stmt → List Stmt
  | .ClassDef _ _ _ b _ _ _ _ _ _ _ => b
  | _ => []
abbrev s_is_word : Stmt := topS 8
abbrev s_require_word : Stmt := topS 9
abbrev s_is_program : Stmt := topS 12
abbrev s_require_program : Stmt := topS 13
abbrev s_best : Stmt := topS 15
abbrev s_limited : Stmt := topS 16
abbrev s_best_result : Stmt := topS 17
abbrev s_law_pool : Stmt := topS 19
abbrev s_law_draw : Stmt := topS 20
abbrev s_law_letters : Stmt := topS 21
abbrev s_law_items : Stmt := topS 22
abbrev s_law_best : Stmt := topS 23
abbrev s_law_told : Stmt := topS 24
abbrev s_law_due : Stmt := topS 25
abbrev s_law_long : Stmt := topS 26
abbrev s_law : Stmt := topS 27
abbrev s_InvalidWord_init : Stmt := (clsB (topS 2)).getD 0 (.Pass ⟨0, 0, 0, 0⟩)
abbrev s_InvalidProgram_init : Stmt := (clsB (topS 3)).getD 0 (.Pass ⟨0, 0, 0, 0⟩)
abbrev s_LimitExceeded_init : Stmt := (clsB (topS 4)).getD 0 (.Pass ⟨0, 0, 0, 0⟩)
theorem sc_is_word : FnScope ["value", "item"] ["value"] (defScope s_is_word) := ⟨rfl, rfl, rfl, by decide +kernel, rfl, by decide +kernel, by decide +kernel⟩
theorem sc_require_word : FnScope ["value"] ["value"] (defScope s_require_word) := ⟨rfl, rfl, rfl, by decide +kernel, rfl, by decide +kernel, by decide +kernel⟩
theorem sc_is_program : FnScope ["value", "step"] ["value"] (defScope s_is_program) := ⟨rfl, rfl, rfl, by decide +kernel, rfl, by decide +kernel, by decide +kernel⟩
theorem sc_require_program : FnScope ["value"] ["value"] (defScope s_require_program) := ⟨rfl, rfl, rfl, by decide +kernel, rfl, by decide +kernel, by decide +kernel⟩
theorem sc_best : FnScope ["program", "items", "step", "place"] ["program", "items"] (defScope s_best) := ⟨rfl, rfl, rfl, by decide +kernel, rfl, by decide +kernel, by decide +kernel⟩
theorem sc_limited : FnScope ["result"] ["result"] (defScope s_limited) := ⟨rfl, rfl, rfl, by decide +kernel, rfl, by decide +kernel, by decide +kernel⟩
theorem sc_best_result : FnScope ["program", "queue"] ["program", "queue"] (defScope s_best_result) := ⟨rfl, rfl, rfl, by decide +kernel, rfl, by decide +kernel, by decide +kernel⟩
theorem sc_law_pool : FnScope ["_law_script", "_law_index", "_law_cell", "_law_number", "_law_seed"] ["_law_script", "_law_index"] (defScope s_law_pool) := ⟨rfl, rfl, rfl, by decide +kernel, rfl, by decide +kernel, by decide +kernel⟩
theorem sc_law_draw : FnScope ["_law_pool_here", "_law_bound", "_law_digit"] ["_law_pool_here", "_law_bound"] (defScope s_law_draw) := ⟨rfl, rfl, rfl, by decide +kernel, rfl, by decide +kernel, by decide +kernel⟩
theorem sc_law_letters : FnScope ["_law_pool_here", "_law_turn", "_law_left", "_law_found"] ["_law_pool_here"] (defScope s_law_letters) := ⟨rfl, rfl, rfl, by decide +kernel, rfl, by decide +kernel, by decide +kernel⟩
theorem sc_law_items : FnScope ["_law_pool_here", "_law_letters_here", "_law_most", "_law_at"] ["_law_pool_here", "_law_letters_here", "_law_most"] (defScope s_law_items) := ⟨rfl, rfl, rfl, by decide +kernel, rfl, by decide +kernel, by decide +kernel⟩
theorem sc_law_best : FnScope ["_law_code", "_law_items_here", "_law_sign", "_law_place"] ["_law_code", "_law_items_here"] (defScope s_law_best) := ⟨rfl, rfl, rfl, by decide +kernel, rfl, by decide +kernel, by decide +kernel⟩
theorem sc_law_told : FnScope ["_law_code", "_law_items_here", "e"] ["_law_code", "_law_items_here"] (defScope s_law_told) := ⟨rfl, rfl, rfl, by decide +kernel, rfl, by decide +kernel, by decide +kernel⟩
theorem sc_law_due : FnScope ["_law_code", "_law_items_here", "_law_found"] ["_law_code", "_law_items_here"] (defScope s_law_due) := ⟨rfl, rfl, rfl, by decide +kernel, rfl, by decide +kernel, by decide +kernel⟩
theorem sc_law_long : FnScope ["_law_pool_here", "_law_letter", "_law_other", "_law_items_here", "_law_many", "_law_code", "_law_text"] ["_law_pool_here", "_law_letter", "_law_other"] (defScope s_law_long) := ⟨rfl, rfl, rfl, by decide +kernel, rfl, by decide +kernel, by decide +kernel⟩
theorem sc_law : FnScope ["_law_script", "_law_value", "_law_index", "_law_pool_here", "_law_letters_here", "_law_turn", "_law_items_here", "_law_code"] ["_law_script"] (defScope s_law) := ⟨rfl, rfl, rfl, by decide +kernel, rfl, by decide +kernel, by decide +kernel⟩
theorem sci_InvalidWord : FnScope ["self", "value"] ["self", "value"] (defScope s_InvalidWord_init) := ⟨rfl, rfl, rfl, by decide +kernel, rfl, by decide +kernel, by decide +kernel⟩
theorem sci_InvalidProgram : FnScope ["self", "value"] ["self", "value"] (defScope s_InvalidProgram_init) := ⟨rfl, rfl, rfl, by decide +kernel, rfl, by decide +kernel, by decide +kernel⟩
theorem sci_LimitExceeded : FnScope ["self", "limit"] ["self", "limit"] (defScope s_LimitExceeded_init) := ⟨rfl, rfl, rfl, by decide +kernel, rfl, by decide +kernel, by decide +kernel⟩
structure Txt (K : PySem.W.Frag) (mg : Str → Option Value) where
  z_OverflowError : mg "OverflowError" = none
  z_all : mg "all" = none
  z_int : mg "int" = none
  z_isinstance : mg "isinstance" = none
  z_len : mg "len" = none
  z_list : mg "list" = none
  z_max : mg "max" = none
  z_min : mg "min" = none
  z_range : mg "range" = none
  z_repr : mg "repr" = none
  z_str : mg "str" = none
  tk_ITEMS : Tok
  g_ITEMS : mg "ITEMS" = some (.str "abcdefgh" tk_ITEMS)
  tk_MAX_ITEMS : Tok
  g_MAX_ITEMS : mg "MAX_ITEMS" = some (.int 400 tk_MAX_ITEMS)
  tk_MAX_STEPS : Tok
  g_MAX_STEPS : mg "MAX_STEPS" = some (.int 400 tk_MAX_STEPS)
  a_LeakError : Addr
  g_LeakError : mg "LeakError" = some (.ref a_LeakError)
  a_InvalidWord : Addr
  g_InvalidWord : mg "InvalidWord" = some (.ref a_InvalidWord)
  a_InvalidProgram : Addr
  g_InvalidProgram : mg "InvalidProgram" = some (.ref a_InvalidProgram)
  a_LimitExceeded : Addr
  g_LimitExceeded : mg "LimitExceeded" = some (.ref a_LimitExceeded)
  x_InvalidWord : XCls K a_InvalidWord "ValueError" "ValueError.__new__" "ValueError.__init__" tl_value
  no_InvalidWord : PySem.W.findIn K (.ref a_InvalidWord) "value" = some none
  ai_InvalidWord : Addr
  fi_InvalidWord : FuncData
  i_InvalidWord : PySem.W.findIn K (.ref a_InvalidWord) "__init__" = some (some (.ref ai_InvalidWord))
  j_InvalidWord : PySem.W.typeIn K (.ref ai_InvalidWord) = some (.type "function")
  F_InvalidWord : Fun K "__init__" "InvalidWord.__init__" s_InvalidWord_init ai_InvalidWord fi_InvalidWord
  xf_InvalidWord : XfC K a_InvalidWord
  xi_InvalidWord : XIs K a_InvalidWord
  how_InvalidWord : PySem.W.specialIn K (.ref a_LeakError) "__getattribute__" = some (some (.builtin "type.__getattribute__")) ∧ PySem.W.readsIn K a_LeakError (.type "type") = true ∧ PySem.W.findCls K (.ref a_LeakError) (.type "type") "__init__" = some (.val (.builtin "ValueError.__init__"))
  x_InvalidProgram : XCls K a_InvalidProgram "ValueError" "ValueError.__new__" "ValueError.__init__" tl_value
  no_InvalidProgram : PySem.W.findIn K (.ref a_InvalidProgram) "value" = some none
  ai_InvalidProgram : Addr
  fi_InvalidProgram : FuncData
  i_InvalidProgram : PySem.W.findIn K (.ref a_InvalidProgram) "__init__" = some (some (.ref ai_InvalidProgram))
  j_InvalidProgram : PySem.W.typeIn K (.ref ai_InvalidProgram) = some (.type "function")
  F_InvalidProgram : Fun K "__init__" "InvalidProgram.__init__" s_InvalidProgram_init ai_InvalidProgram fi_InvalidProgram
  xf_InvalidProgram : XfC K a_InvalidProgram
  xi_InvalidProgram : XIs K a_InvalidProgram
  how_InvalidProgram : PySem.W.specialIn K (.ref a_LeakError) "__getattribute__" = some (some (.builtin "type.__getattribute__")) ∧ PySem.W.readsIn K a_LeakError (.type "type") = true ∧ PySem.W.findCls K (.ref a_LeakError) (.type "type") "__init__" = some (.val (.builtin "ValueError.__init__"))
  x_LimitExceeded : XCls K a_LimitExceeded "OverflowError" "OverflowError.__new__" "OverflowError.__init__" tl_overflow
  no_LimitExceeded : PySem.W.findIn K (.ref a_LimitExceeded) "limit" = some none
  ai_LimitExceeded : Addr
  fi_LimitExceeded : FuncData
  i_LimitExceeded : PySem.W.findIn K (.ref a_LimitExceeded) "__init__" = some (some (.ref ai_LimitExceeded))
  j_LimitExceeded : PySem.W.typeIn K (.ref ai_LimitExceeded) = some (.type "function")
  F_LimitExceeded : Fun K "__init__" "LimitExceeded.__init__" s_LimitExceeded_init ai_LimitExceeded fi_LimitExceeded
  xf_LimitExceeded : XfC K a_LimitExceeded
  xi_LimitExceeded : XIs K a_LimitExceeded
  how_LimitExceeded : PySem.W.findCls K (.type "OverflowError") (.type "type") "__init__" = some (.val (.builtin "OverflowError.__init__"))
  e_0_1 : PySem.W.exmOne K (.ref a_LeakError) (.ref a_InvalidWord) = some false
  e_1_1 : PySem.W.exmOne K (.ref a_InvalidWord) (.ref a_InvalidWord) = some true
  e_2_1 : PySem.W.exmOne K (.ref a_InvalidProgram) (.ref a_InvalidWord) = some false
  e_3_1 : PySem.W.exmOne K (.ref a_LimitExceeded) (.ref a_InvalidWord) = some false
  e_0_2 : PySem.W.exmOne K (.ref a_LeakError) (.ref a_InvalidProgram) = some false
  e_1_2 : PySem.W.exmOne K (.ref a_InvalidWord) (.ref a_InvalidProgram) = some false
  e_2_2 : PySem.W.exmOne K (.ref a_InvalidProgram) (.ref a_InvalidProgram) = some true
  e_3_2 : PySem.W.exmOne K (.ref a_LimitExceeded) (.ref a_InvalidProgram) = some false
  e_0_3 : PySem.W.exmOne K (.ref a_LeakError) (.ref a_LimitExceeded) = some false
  e_1_3 : PySem.W.exmOne K (.ref a_InvalidWord) (.ref a_LimitExceeded) = some false
  e_2_3 : PySem.W.exmOne K (.ref a_InvalidProgram) (.ref a_LimitExceeded) = some false
  e_3_3 : PySem.W.exmOne K (.ref a_LimitExceeded) (.ref a_LimitExceeded) = some true
  kit_LimitExceeded_OverflowError : PySem.W.kitOne K (.ref a_LimitExceeded) (.type "OverflowError") = some true
  a_is_word : Addr
  fd_is_word : FuncData
  g_is_word : mg "is_word" = some (.ref a_is_word)
  k_is_word : PySem.W.keepIn K (.ref a_is_word) = true
  F_is_word : Fun K "is_word" "is_word" s_is_word a_is_word fd_is_word
  a_require_word : Addr
  fd_require_word : FuncData
  g_require_word : mg "require_word" = some (.ref a_require_word)
  k_require_word : PySem.W.keepIn K (.ref a_require_word) = true
  F_require_word : Fun K "require_word" "require_word" s_require_word a_require_word fd_require_word
  a_is_program : Addr
  fd_is_program : FuncData
  g_is_program : mg "is_program" = some (.ref a_is_program)
  k_is_program : PySem.W.keepIn K (.ref a_is_program) = true
  F_is_program : Fun K "is_program" "is_program" s_is_program a_is_program fd_is_program
  a_require_program : Addr
  fd_require_program : FuncData
  g_require_program : mg "require_program" = some (.ref a_require_program)
  k_require_program : PySem.W.keepIn K (.ref a_require_program) = true
  F_require_program : Fun K "require_program" "require_program" s_require_program a_require_program fd_require_program
  a_best : Addr
  fd_best : FuncData
  g_best : mg "best" = some (.ref a_best)
  k_best : PySem.W.keepIn K (.ref a_best) = true
  F_best : Fun K "best" "best" s_best a_best fd_best
  a_limited : Addr
  fd_limited : FuncData
  g_limited : mg "limited" = some (.ref a_limited)
  k_limited : PySem.W.keepIn K (.ref a_limited) = true
  F_limited : Fun K "limited" "limited" s_limited a_limited fd_limited
  a_best_result : Addr
  fd_best_result : FuncData
  g_best_result : mg "best_result" = some (.ref a_best_result)
  k_best_result : PySem.W.keepIn K (.ref a_best_result) = true
  F_best_result : Fun K "best_result" "best_result" s_best_result a_best_result fd_best_result
  a_law_pool : Addr
  fd_law_pool : FuncData
  g_law_pool : mg "_law_pool" = some (.ref a_law_pool)
  k_law_pool : PySem.W.keepIn K (.ref a_law_pool) = true
  F_law_pool : Fun K "_law_pool" "_law_pool" s_law_pool a_law_pool fd_law_pool
  a_law_draw : Addr
  fd_law_draw : FuncData
  g_law_draw : mg "_law_draw" = some (.ref a_law_draw)
  k_law_draw : PySem.W.keepIn K (.ref a_law_draw) = true
  F_law_draw : Fun K "_law_draw" "_law_draw" s_law_draw a_law_draw fd_law_draw
  a_law_letters : Addr
  fd_law_letters : FuncData
  g_law_letters : mg "_law_letters" = some (.ref a_law_letters)
  k_law_letters : PySem.W.keepIn K (.ref a_law_letters) = true
  F_law_letters : Fun K "_law_letters" "_law_letters" s_law_letters a_law_letters fd_law_letters
  a_law_items : Addr
  fd_law_items : FuncData
  g_law_items : mg "_law_items" = some (.ref a_law_items)
  k_law_items : PySem.W.keepIn K (.ref a_law_items) = true
  F_law_items : Fun K "_law_items" "_law_items" s_law_items a_law_items fd_law_items
  a_law_best : Addr
  fd_law_best : FuncData
  g_law_best : mg "_law_best" = some (.ref a_law_best)
  k_law_best : PySem.W.keepIn K (.ref a_law_best) = true
  F_law_best : Fun K "_law_best" "_law_best" s_law_best a_law_best fd_law_best
  a_law_told : Addr
  fd_law_told : FuncData
  g_law_told : mg "_law_told" = some (.ref a_law_told)
  k_law_told : PySem.W.keepIn K (.ref a_law_told) = true
  F_law_told : Fun K "_law_told" "_law_told" s_law_told a_law_told fd_law_told
  a_law_due : Addr
  fd_law_due : FuncData
  g_law_due : mg "_law_due" = some (.ref a_law_due)
  k_law_due : PySem.W.keepIn K (.ref a_law_due) = true
  F_law_due : Fun K "_law_due" "_law_due" s_law_due a_law_due fd_law_due
  a_law_long : Addr
  fd_law_long : FuncData
  g_law_long : mg "_law_long" = some (.ref a_law_long)
  k_law_long : PySem.W.keepIn K (.ref a_law_long) = true
  F_law_long : Fun K "_law_long" "_law_long" s_law_long a_law_long fd_law_long
  a_law : Addr
  fd_law : FuncData
  g_law : mg "law" = some (.ref a_law)
  k_law : PySem.W.keepIn K (.ref a_law) = true
  F_law : Fun K "law" "law" s_law a_law fd_law
section
variable {P : Program} {w : World} {K : PySem.W.Frag} {mg : Str → Option Value} {base : Heap}
/-- the classes -/
abbrev Txt.tb (t : Txt K mg) : Tb := ⟨K, fun c => match c with | 0 => (t.a_LeakError, []) | 1 => (t.a_InvalidWord, ["value"]) | 2 => (t.a_InvalidProgram, ["value"]) | 3 => (t.a_LimitExceeded, ["limit"]) | _ => (0, [])⟩
theorem init_InvalidWord (t : Txt K mg) : FnOk P w K mg base (L2.CX P w) 1 t.ai_InvalidWord t.fi_InvalidWord ["self", "value"] (spX t.a_InvalidWord "value") :=
  x_def t.F_InvalidWord sci_InvalidWord fun cdv A outer s H E => pss_cons (ps_expr (pe_xinit t.x_InvalidWord rfl (.own t.a_LeakError t.g_LeakError t.how_InvalidWord.1 t.how_InvalidWord.2.1 t.how_InvalidWord.2.2 (by decide +kernel)) (pa_cons (pv 0) (pa_cons pe_str pa_nil)))) (pss_one (ps_xstore t.x_InvalidWord t.no_InvalidWord (pv 0) (pv 1)))
theorem ib_InvalidWord (t : Txt K mg) : Binds K t.fi_InvalidWord ["self", "value"] [] := t.F_InvalidWord.binds (ps := ["self", "value"]) fun _ _ _ _ _ _ us hl => match us, hl with | [_, _], _ => rfl
theorem init_InvalidProgram (t : Txt K mg) : FnOk P w K mg base (L2.CX P w) 1 t.ai_InvalidProgram t.fi_InvalidProgram ["self", "value"] (spX t.a_InvalidProgram "value") :=
  x_def t.F_InvalidProgram sci_InvalidProgram fun cdv A outer s H E => pss_cons (ps_expr (pe_xinit t.x_InvalidProgram rfl (.own t.a_LeakError t.g_LeakError t.how_InvalidProgram.1 t.how_InvalidProgram.2.1 t.how_InvalidProgram.2.2 (by decide +kernel)) (pa_cons (pv 0) (pa_cons pe_str pa_nil)))) (pss_one (ps_xstore t.x_InvalidProgram t.no_InvalidProgram (pv 0) (pv 1)))
theorem ib_InvalidProgram (t : Txt K mg) : Binds K t.fi_InvalidProgram ["self", "value"] [] := t.F_InvalidProgram.binds (ps := ["self", "value"]) fun _ _ _ _ _ _ us hl => match us, hl with | [_, _], _ => rfl
theorem init_LimitExceeded (t : Txt K mg) : FnOk P w K mg base (L2.CX P w) 1 t.ai_LimitExceeded t.fi_LimitExceeded ["self", "limit"] (spX t.a_LimitExceeded "limit") :=
  x_def t.F_LimitExceeded sci_LimitExceeded fun cdv A outer s H E => pss_cons (ps_expr (pe_xinit t.x_LimitExceeded rfl (.blt "OverflowError" t.z_OverflowError PyProof.Rows.Boot.«OverflowError» (by decide) (by decide +kernel) (by kernel_rfl) t.how_LimitExceeded (by decide +kernel)) (pa_cons (pv 0) (pa_cons pe_str pa_nil)))) (pss_one (ps_xstore t.x_LimitExceeded t.no_LimitExceeded (pv 0) (pv 1)))
theorem ib_LimitExceeded (t : Txt K mg) : Binds K t.fi_LimitExceeded ["self", "limit"] [] := t.F_LimitExceeded.binds (ps := ["self", "limit"]) fun _ _ _ _ _ _ us hl => match us, hl with | [_, _], _ => rfl
def b_is_word : FS := (fRet (fAndV (fIs .str (fV 0)) (fAndV (fBin oLe (fCB oLen (fCons (fV 0) fNil)) (fC (.int 400))) (fCB oAll (fCons (fLc [1] (gN 1) (fItA (fV 0)) fYes (fBin (oIn id) (fV 1) (fC (.str [97, 98, 99, 100, 101, 102, 103, 104])))) fNil)))))
def m_is_word : FM := mDef 2 b_is_word
theorem bd_is_word (t : Txt K mg) : Bd K t.fd_is_word ["value"] [] 1 (· ++ []) (· ++ []) := Bd.dfl rfl (t.F_is_word.binds (ps := ["value"]) fun _ _ _ _ _ _ us hl => match us, hl with | [_], _ => rfl) .nil
theorem ok_is_word (t : Txt K mg) : FnG P w K mg base 2 t.a_is_word t.fd_is_word ["value"] (spD t.tb 1 m_is_word) := by
  refine fn_ok t.F_is_word sc_is_word fun cdv A outer s H E hr gd => ?_
  have hu := hr.units
  have hu5 := units65 hr
  have hp := passes_of (X := cxOf (L2.CX P w) P w K mg base ["value", "item"] "is_word" (defScope s_is_word) t.a_is_word cdv A outer s H E) rfl
  have tk := takes_of (X := cxOf (L2.CX P w) P w K mg base ["value", "item"] "is_word" (defScope s_is_word) t.a_is_word cdv A outer s H E) (E := E) rfl rfl rfl rfl
  delta b_is_word
  exact ⟨_, (ss_one (ss_ret (se_and (se_isn (t := .str) rfl rfl t.z_isinstance rfl t.z_str PyProof.Rows.Boot.«str» (se_v (pv 0))) (se_and (se_cmp op_le d_B0 (se_blt call_len d_len rfl t.z_len PyProof.Rows.Boot.«len» (sa_cons (se_v (pv 0)) sa_nil)) (se_gl (v := .int 400) (d := .int 400) rfl t.g_MAX_ITEMS ⟨_, rfl⟩ (by intro _; simp only [Rp]))) (se_one (se_blt (cr_all rfl) d_all rfl t.z_all PyProof.Rows.Boot.«all» (sa_cons (se_lc (own := [("item", 1)]) rfl sc_is_word.nd (si_seq rfl (se_v (pv 0))) (blkOk_by (by kernel_rfl)) (fun s H C cl fp => (tg_n (pg_name (i := 1) sc_is_word.nd rfl (by first | exact .inl rfl | exact .inr rfl)))) (fun s H C cl fp => sts_nil) (fun s H C cl fp => (se_cmp (op_inA hu5) (d_in id) (se_v (pv 1)) (se_gl (v := .str "abcdefgh") (d := .str [97, 98, 99, 100, 101, 102, 103, 104]) rfl t.g_ITEMS ⟨_, rfl⟩ (by intro _; simp only [Rp]; rfl))))) sa_nil)))))))⟩
def b_require_word : FS := (fIf (fNot (fTst (fCall m_is_word [false] [] (fCons (fV 0) fNil)))) (fRaise 1 (fV 0)) fSkip)
def m_require_word : FM := mDef 1 b_require_word
theorem bd_require_word (t : Txt K mg) : Bd K t.fd_require_word ["value"] [] 1 (· ++ []) (· ++ []) := Bd.dfl rfl (t.F_require_word.binds (ps := ["value"]) fun _ _ _ _ _ _ us hl => match us, hl with | [_], _ => rfl) .nil
theorem ok_require_word (t : Txt K mg) : FnG P w K mg base 4 t.a_require_word t.fd_require_word ["value"] (spD t.tb 1 m_require_word) := by
  refine fn_ok t.F_require_word sc_require_word fun cdv A outer s H E hr gd => ?_
  have hu := hr.units
  have hu5 := units65 hr
  have hp := passes_of (X := cxOf (L2.CX P w) P w K mg base ["value"] "require_word" (defScope s_require_word) t.a_require_word cdv A outer s H E) rfl
  have tk := takes_of (X := cxOf (L2.CX P w) P w K mg base ["value"] "require_word" (defScope s_require_word) t.a_require_word cdv A outer s H E) (E := E) rfl rfl rfl rfl
  delta b_require_word
  exact ⟨_, (ss_one (ss_if (st_not (st_val (se_call (ms := [false]) (dfl := []) (dvs := []) (ok_is_word t) tk (hr.mono (by decide)) gd rfl t.g_is_word t.k_is_word (bd_is_word t) (fun _ => RpL.nil) (sa_cons (se_v (pv 0)) sa_nil) (ar_cons ar_nil)))) (ss_one (ss_raise rfl tk (fun u h => pmk_x t.x_InvalidWord t.i_InvalidWord t.j_InvalidWord (init_InvalidWord t) (hr.mono (by decide)) (ib_InvalidWord t) rfl t.g_InvalidWord h) (se_v (pv 0)) rfl)) ss_nil))⟩
def b_is_program : FS := (fSeq (fIf (fOr (fNot (fTst (fIs .str (fV 0)))) (fTst (fBin oGt (fCB oLen (fCons (fV 0) fNil)) (fC (.int 400))))) (fRet (fC (.bl false))) fSkip)
    (fRet (fCB oAll (fCons (fLc [1] (gN 1) (fItA (fV 0)) fYes (fBin (oIn id) (fV 1) (fBin oAdd (fC (.str [97, 98, 99, 100, 101, 102, 103, 104])) (fMt0 "str" oUpper (fC (.str [97, 98, 99, 100, 101, 102, 103, 104])))))) fNil))))
def m_is_program : FM := mDef 2 b_is_program
theorem bd_is_program (t : Txt K mg) : Bd K t.fd_is_program ["value"] [] 1 (· ++ []) (· ++ []) := Bd.dfl rfl (t.F_is_program.binds (ps := ["value"]) fun _ _ _ _ _ _ us hl => match us, hl with | [_], _ => rfl) .nil
theorem ok_is_program (t : Txt K mg) : FnG P w K mg base 2 t.a_is_program t.fd_is_program ["value"] (spD t.tb 1 m_is_program) := by
  refine fn_ok t.F_is_program sc_is_program fun cdv A outer s H E hr gd => ?_
  have hu := hr.units
  have hu5 := units65 hr
  have hp := passes_of (X := cxOf (L2.CX P w) P w K mg base ["value", "step"] "is_program" (defScope s_is_program) t.a_is_program cdv A outer s H E) rfl
  have tk := takes_of (X := cxOf (L2.CX P w) P w K mg base ["value", "step"] "is_program" (defScope s_is_program) t.a_is_program cdv A outer s H E) (E := E) rfl rfl rfl rfl
  delta b_is_program
  exact ⟨_, (ss_cons (ss_if (st_w (sw_or (st_not (st_val (se_isn (t := .str) rfl rfl t.z_isinstance rfl t.z_str PyProof.Rows.Boot.«str» (se_v (pv 0))))) (sw_or1 (st_cmp op_gt d_B0 (se_blt call_len d_len rfl t.z_len PyProof.Rows.Boot.«len» (sa_cons (se_v (pv 0)) sa_nil)) (se_gl (v := .int 400) (d := .int 400) rfl t.g_MAX_STEPS ⟨_, rfl⟩ (by intro _; simp only [Rp])))))) (ss_one (ss_ret se_bl)) ss_nil)
    (ss_one (ss_ret (se_blt (cr_all rfl) d_all rfl t.z_all PyProof.Rows.Boot.«all» (sa_cons (se_lc (own := [("step", 1)]) rfl sc_is_program.nd (si_seq rfl (se_v (pv 0))) (blkOk_by (by kernel_rfl)) (fun s H C cl fp => (tg_n (pg_name (i := 1) sc_is_program.nd rfl (by first | exact .inl rfl | exact .inr rfl)))) (fun s H C cl fp => sts_nil) (fun s H C cl fp => (se_cmp (op_inA hu5) (d_in id) (se_v (pv 1)) (se_op op_addA d_add (se_gl (v := .str "abcdefgh") (d := .str [97, 98, 99, 100, 101, 102, 103, 104]) rfl t.g_ITEMS ⟨_, rfl⟩ (by intro _; simp only [Rp]; rfl)) (se_mt0 (fun u h => pe_bm0 PySem.F.plainAttrs_str PySem.F.slot_str_upper PySem.F.type_str_upper mt_upper h) d_upper (se_gl (v := .str "abcdefgh") (d := .str [97, 98, 99, 100, 101, 102, 103, 104]) rfl t.g_ITEMS ⟨_, rfl⟩ (by intro _; simp only [Rp]; rfl))))))) sa_nil)))))⟩
def b_require_program : FS := (fIf (fNot (fTst (fCall m_is_program [false] [] (fCons (fV 0) fNil)))) (fRaise 2 (fV 0)) fSkip)
def m_require_program : FM := mDef 1 b_require_program
theorem bd_require_program (t : Txt K mg) : Bd K t.fd_require_program ["value"] [] 1 (· ++ []) (· ++ []) := Bd.dfl rfl (t.F_require_program.binds (ps := ["value"]) fun _ _ _ _ _ _ us hl => match us, hl with | [_], _ => rfl) .nil
theorem ok_require_program (t : Txt K mg) : FnG P w K mg base 4 t.a_require_program t.fd_require_program ["value"] (spD t.tb 1 m_require_program) := by
  refine fn_ok t.F_require_program sc_require_program fun cdv A outer s H E hr gd => ?_
  have hu := hr.units
  have hu5 := units65 hr
  have hp := passes_of (X := cxOf (L2.CX P w) P w K mg base ["value"] "require_program" (defScope s_require_program) t.a_require_program cdv A outer s H E) rfl
  have tk := takes_of (X := cxOf (L2.CX P w) P w K mg base ["value"] "require_program" (defScope s_require_program) t.a_require_program cdv A outer s H E) (E := E) rfl rfl rfl rfl
  delta b_require_program
  exact ⟨_, (ss_one (ss_if (st_not (st_val (se_call (ms := [false]) (dfl := []) (dvs := []) (ok_is_program t) tk (hr.mono (by decide)) gd rfl t.g_is_program t.k_is_program (bd_is_program t) (fun _ => RpL.nil) (sa_cons (se_v (pv 0)) sa_nil) (ar_cons ar_nil)))) (ss_one (ss_raise rfl tk (fun u h => pmk_x t.x_InvalidProgram t.i_InvalidProgram t.j_InvalidProgram (init_InvalidProgram t) (hr.mono (by decide)) (ib_InvalidProgram t) rfl t.g_InvalidProgram h) (se_v (pv 0)) rfl)) ss_nil))⟩
def b_best : FS := (fSeq (fFor (gN 2) (fItA (fV 0)) (fIf (fTst (fBin (oIn id) (fV 2) (fC (.str [97, 98, 99, 100, 101, 102, 103, 104])))) (fSet 1 (fBin oAdd (fV 1) (fV 2))) (fSeq (fSet 3 (fMt "str" oFind (fV 1) (fCons (fMt0 "str" oLower (fV 2)) fNil)))
    (fSeq (fIf (fTst (fBin oLt (fV 3) (fC (.int 0)))) (fRet (fC .non)) fSkip)
    (fSet 1 (fSl oSl (fV 1) (fPart (fBin oAdd (fV 3) (fC (.int 1)))) fNoPart))))))
    (fRet (fV 1)))
def m_best : FM := mDef 4 b_best
theorem bd_best (t : Txt K mg) : Bd K t.fd_best ["program", "items"] [] 2 (· ++ []) (· ++ []) := Bd.dfl rfl (t.F_best.binds (ps := ["program", "items"]) fun _ _ _ _ _ _ us hl => match us, hl with | [_, _], _ => rfl) .nil
theorem ok_best (t : Txt K mg) : FnG P w K mg base 2 t.a_best t.fd_best ["program", "items"] (spD t.tb 2 m_best) := by
  refine fn_ok t.F_best sc_best fun cdv A outer s H E hr gd => ?_
  have hu := hr.units
  have hu5 := units65 hr
  have hp := passes_of (X := cxOf (L2.CX P w) P w K mg base ["program", "items", "step", "place"] "best" (defScope s_best) t.a_best cdv A outer s H E) rfl
  have tk := takes_of (X := cxOf (L2.CX P w) P w K mg base ["program", "items", "step", "place"] "best" (defScope s_best) t.a_best cdv A outer s H E) (E := E) rfl rfl rfl rfl
  delta b_best
  exact ⟨_, (ss_cons (ss_for hp rfl (si_seq rfl (se_v (pv 0))) (tg_n (pg_name (i := 2) sc_best.nd rfl (by first | exact .inl rfl | exact .inr rfl))) (ss_one (ss_if (st_cmp (op_inA hu5) (d_in id) (se_v (pv 2)) (se_gl (v := .str "abcdefgh") (d := .str [97, 98, 99, 100, 101, 102, 103, 104]) rfl t.g_ITEMS ⟨_, rfl⟩ (by intro _; simp only [Rp]; rfl))) (ss_one (ss_set (i := 1) sc_best.nd rfl (by first | exact .inl rfl | exact .inr rfl) (se_op op_addA d_add (se_v (pv 1)) (se_v (pv 2))))) (ss_cons (ss_set (i := 3) sc_best.nd rfl (by first | exact .inl rfl | exact .inr rfl) (se_mt (fun u v h k => pe_bm PySem.F.plainAttrs_str PySem.F.slot_str_find PySem.F.type_str_find mt_find h k) d_find (se_v (pv 1)) (sa_cons (se_mt0 (fun u h => pe_bm0 PySem.F.plainAttrs_str PySem.F.slot_str_lower PySem.F.type_str_lower mt_lower h) d_lower (se_v (pv 2))) sa_nil)))
    (ss_cons (ss_if (st_cmp op_lt d_B0 (se_v (pv 3)) se_int) (ss_one (ss_ret se_non)) ss_nil)
    (ss_one (ss_set (i := 1) sc_best.nd rfl (by first | exact .inl rfl | exact .inr rfl) (se_sl rfl (se_v (pv 1)) (so_some (se_op op_addA d_add (se_v (pv 3)) se_int)) so_none))))))))
    (ss_one (ss_ret (se_v (pv 1)))))⟩
def b_limited : FS := (fSeq (fIf (fAnd (fTst (fBin (oIsN not) (fV 0) (fC .non))) (fTst (fBin oGt (fCB oLen (fCons (fV 0) fNil)) (fC (.int 400))))) (fRaise 3 (fC (.int 400))) fSkip)
    (fRet (fV 0)))
def m_limited : FM := mDef 1 b_limited
theorem bd_limited (t : Txt K mg) : Bd K t.fd_limited ["result"] [] 1 (· ++ []) (· ++ []) := Bd.dfl rfl (t.F_limited.binds (ps := ["result"]) fun _ _ _ _ _ _ us hl => match us, hl with | [_], _ => rfl) .nil
theorem ok_limited (t : Txt K mg) : FnG P w K mg base 4 t.a_limited t.fd_limited ["result"] (spD t.tb 1 m_limited) := by
  refine fn_ok t.F_limited sc_limited fun cdv A outer s H E hr gd => ?_
  have hu := hr.units
  have hu5 := units65 hr
  have hp := passes_of (X := cxOf (L2.CX P w) P w K mg base ["result"] "limited" (defScope s_limited) t.a_limited cdv A outer s H E) rfl
  have tk := takes_of (X := cxOf (L2.CX P w) P w K mg base ["result"] "limited" (defScope s_limited) t.a_limited cdv A outer s H E) (E := E) rfl rfl rfl rfl
  delta b_limited
  exact ⟨_, (ss_cons (ss_if (st_w (sw_and (st_cmp op_notN' (d_isN not) (se_v (pv 0)) se_non) (sw_and1 (st_cmp op_gt d_B0 (se_blt call_len d_len rfl t.z_len PyProof.Rows.Boot.«len» (sa_cons (se_v (pv 0)) sa_nil)) (se_gl (v := .int 400) (d := .int 400) rfl t.g_MAX_ITEMS ⟨_, rfl⟩ (by intro _; simp only [Rp])))))) (ss_one (ss_raise rfl tk (fun u h => pmk_x t.x_LimitExceeded t.i_LimitExceeded t.j_LimitExceeded (init_LimitExceeded t) (hr.mono (by decide)) (ib_LimitExceeded t) rfl t.g_LimitExceeded h) (se_gl (v := .int 400) (d := .int 400) rfl t.g_MAX_ITEMS ⟨_, rfl⟩ (by intro _; simp only [Rp])) rfl)) ss_nil)
    (ss_one (ss_ret (se_v (pv 0)))))⟩
def b_best_result : FS := (fSeq (fDrop (fCall m_require_program [false] [] (fCons (fV 0) fNil)))
    (fSeq (fDrop (fCall m_require_word [false] [] (fCons (fV 1) fNil)))
    (fRet (fCall m_limited [false] [] (fCons (fCall m_best [false, false] [] (fCons (fV 0) (fCons (fV 1) fNil))) fNil)))))
def m_best_result : FM := mDef 2 b_best_result
theorem bd_best_result (t : Txt K mg) : Bd K t.fd_best_result ["program", "queue"] [] 2 (· ++ []) (· ++ []) := Bd.dfl rfl (t.F_best_result.binds (ps := ["program", "queue"]) fun _ _ _ _ _ _ us hl => match us, hl with | [_, _], _ => rfl) .nil
theorem ok_best_result (t : Txt K mg) : FnG P w K mg base 5 t.a_best_result t.fd_best_result ["program", "queue"] (spD t.tb 2 m_best_result) := by
  refine fn_ok t.F_best_result sc_best_result fun cdv A outer s H E hr gd => ?_
  have hu := hr.units
  have hu5 := units65 hr
  have hp := passes_of (X := cxOf (L2.CX P w) P w K mg base ["program", "queue"] "best_result" (defScope s_best_result) t.a_best_result cdv A outer s H E) rfl
  have tk := takes_of (X := cxOf (L2.CX P w) P w K mg base ["program", "queue"] "best_result" (defScope s_best_result) t.a_best_result cdv A outer s H E) (E := E) rfl rfl rfl rfl
  delta b_best_result
  exact ⟨_, (ss_cons (ss_expr (se_call (ms := [false]) (dfl := []) (dvs := []) (ok_require_program t) tk (hr.mono (by decide)) gd rfl t.g_require_program t.k_require_program (bd_require_program t) (fun _ => RpL.nil) (sa_cons (se_v (pv 0)) sa_nil) (ar_cons ar_nil)))
    (ss_cons (ss_expr (se_call (ms := [false]) (dfl := []) (dvs := []) (ok_require_word t) tk (hr.mono (by decide)) gd rfl t.g_require_word t.k_require_word (bd_require_word t) (fun _ => RpL.nil) (sa_cons (se_v (pv 1)) sa_nil) (ar_cons ar_nil)))
    (ss_one (ss_ret (se_call (ms := [false]) (dfl := []) (dvs := []) (ok_limited t) tk (hr.mono (by decide)) gd rfl t.g_limited t.k_limited (bd_limited t) (fun _ => RpL.nil) (sa_cons (se_call (ms := [false, false]) (dfl := []) (dvs := []) (ok_best t) tk (hr.mono (by decide)) gd rfl t.g_best t.k_best (bd_best t) (fun _ => RpL.nil) (sa_cons (se_v (pv 0)) (sa_cons (se_v (pv 1)) sa_nil)) (ar_cons (ar_cons ar_nil))) sa_nil) (ar_cons ar_nil))))))⟩
def b_law_pool : FS := (fSeq (fSet 2 (fBin oIx (fBin oAdd (fSl oSl (fV 0) (fPart (fV 1)) (fPart (fBin oAdd (fV 1) (fC (.int 1))))) (fLst (fCons (fC (.int 0)) fNil))) (fC (.int 0))))
    (fSeq (fSet 3 (fCB oMax2 (fCons (fV 2) (fCons (fBin oSub (fUn oNeg (fC (.int 1))) (fV 2)) fNil))))
    (fSeq (fSet 4 (fBin oMod (fBin oMul (fBin oAdd (fBin oAdd (fBin oAdd (fBin oMod (fV 3) (fC (.int 2147483629))) (fBin oMul (fBin oMul (fC (.int 7919)) (fV 1)) (fV 1))) (fBin oMul (fC (.int 31)) (fV 1))) (fC (.int 17))) (fC (.int 48271))) (fC (.int 2147483647))))
    (fRet (fLst (fCons (fBin oMul (fV 3) (fCB oInt (fCons (fBin oGe (fV 3) (fBin oPow (fC (.int 10)) (fC (.int 18)))) fNil))) (fCons (fBin oMod (fBin oMul (fV 4) (fV 4)) (fC (.int 2147483629))) fNil)))))))
def m_law_pool : FM := mDef 5 b_law_pool
theorem bd_law_pool (t : Txt K mg) : Bd K t.fd_law_pool ["_law_script", "_law_index"] [] 2 (· ++ []) (· ++ []) := Bd.dfl rfl (t.F_law_pool.binds (ps := ["_law_script", "_law_index"]) fun _ _ _ _ _ _ us hl => match us, hl with | [_, _], _ => rfl) .nil
theorem ok_law_pool (t : Txt K mg) : FnG P w K mg base 2 t.a_law_pool t.fd_law_pool ["_law_script", "_law_index"] (spD t.tb 2 m_law_pool) := by
  refine fn_ok t.F_law_pool sc_law_pool fun cdv A outer s H E hr gd => ?_
  have hu := hr.units
  have hu5 := units65 hr
  have hp := passes_of (X := cxOf (L2.CX P w) P w K mg base ["_law_script", "_law_index", "_law_cell", "_law_number", "_law_seed"] "_law_pool" (defScope s_law_pool) t.a_law_pool cdv A outer s H E) rfl
  have tk := takes_of (X := cxOf (L2.CX P w) P w K mg base ["_law_script", "_law_index", "_law_cell", "_law_number", "_law_seed"] "_law_pool" (defScope s_law_pool) t.a_law_pool cdv A outer s H E) (E := E) rfl rfl rfl rfl
  delta b_law_pool
  exact ⟨_, (ss_cons (ss_set (i := 2) sc_law_pool.nd rfl (by first | exact .inl rfl | exact .inr rfl) (se_ix rfl (se_op op_addA d_add (se_sl rfl (se_v (pv 0)) (so_some (se_v (pv 1))) (so_some (se_op op_addA d_add (se_v (pv 1)) se_int))) (se_lst (sa_cons se_int sa_nil))) se_int))
    (ss_cons (ss_set (i := 3) sc_law_pool.nd rfl (by first | exact .inl rfl | exact .inr rfl) (se_blt (call_max2 rfl) d_max2 rfl t.z_max PyProof.Rows.Boot.«max» (sa_cons (se_v (pv 2)) (sa_cons (se_op op_sub d_I0 (se_un1 un_neg d_neg se_int) (se_v (pv 2))) sa_nil))))
    (ss_cons (ss_set (i := 4) sc_law_pool.nd rfl (by first | exact .inl rfl | exact .inr rfl) (se_op op_mod d_mod (se_op op_mulA d_mul (se_op op_addA d_add (se_op op_addA d_add (se_op op_addA d_add (se_op op_mod d_mod (se_v (pv 3)) se_int) (se_op op_mulA d_mul (se_op op_mulA d_mul se_int (se_v (pv 1))) (se_v (pv 1)))) (se_op op_mulA d_mul se_int (se_v (pv 1)))) se_int) se_int) se_int))
    (ss_one (ss_ret (se_lst (sa_cons (se_op op_mulA d_mul (se_v (pv 3)) (se_typ call_int1 d_int rfl t.z_int PyProof.Rows.Boot.«int» (sa_cons (se_cmp op_ge d_B0 (se_v (pv 3)) (se_op op_pow d_pow se_int se_int)) sa_nil))) (sa_cons (se_op op_mod d_mod (se_op op_mulA d_mul (se_v (pv 4)) (se_v (pv 4))) se_int) sa_nil))))))))⟩
def b_law_draw : FS := (fSeq (fIf (fTst (fBin oGt (fBin oIx (fV 0) (fC (.int 0))) (fC (.int 0)))) (fSeq (fSet 2 (fBin oMod (fBin oIx (fV 0) (fC (.int 0))) (fV 1)))
    (fSeq (fSti 0 oSetL (fC (.int 0)) (fBin oDiv (fBin oIx (fV 0) (fC (.int 0))) (fV 1)))
    (fRet (fV 2)))) fSkip)
    (fSeq (fSti 0 oSetL (fC (.int 1)) (fBin oMod (fBin oAdd (fBin oMul (fBin oIx (fV 0) (fC (.int 1))) (fC (.int 48271))) (fC (.int 12345))) (fC (.int 2147483647))))
    (fRet (fBin oMod (fBin oDiv (fBin oMod (fBin oMul (fBin oIx (fV 0) (fC (.int 1))) (fBin oIx (fV 0) (fC (.int 1)))) (fC (.int 2147483629))) (fC (.int 64))) (fV 1)))))
def m_law_draw : FM := mDef 3 b_law_draw
theorem bd_law_draw (t : Txt K mg) : Bd K t.fd_law_draw ["_law_pool_here", "_law_bound"] [] 2 (· ++ []) (· ++ []) := Bd.dfl rfl (t.F_law_draw.binds (ps := ["_law_pool_here", "_law_bound"]) fun _ _ _ _ _ _ us hl => match us, hl with | [_, _], _ => rfl) .nil
theorem ok_law_draw (t : Txt K mg) : FnG P w K mg base 2 t.a_law_draw t.fd_law_draw ["_law_pool_here", "_law_bound"] (spD t.tb 2 m_law_draw) := by
  refine fn_ok t.F_law_draw sc_law_draw fun cdv A outer s H E hr gd => ?_
  have hu := hr.units
  have hu5 := units65 hr
  have hp := passes_of (X := cxOf (L2.CX P w) P w K mg base ["_law_pool_here", "_law_bound", "_law_digit"] "_law_draw" (defScope s_law_draw) t.a_law_draw cdv A outer s H E) rfl
  have tk := takes_of (X := cxOf (L2.CX P w) P w K mg base ["_law_pool_here", "_law_bound", "_law_digit"] "_law_draw" (defScope s_law_draw) t.a_law_draw cdv A outer s H E) (E := E) rfl rfl rfl rfl
  delta b_law_draw
  exact ⟨_, (ss_cons (ss_if (st_cmp op_gt d_B0 (se_ix rfl (se_v (pv 0)) se_int) se_int) (ss_cons (ss_set (i := 2) sc_law_draw.nd rfl (by first | exact .inl rfl | exact .inr rfl) (se_op op_mod d_mod (se_ix rfl (se_v (pv 0)) se_int) (se_v (pv 1))))
    (ss_cons (ss_stl (i := 0) (pv 0) se_int (se_op op_fdiv d_div (se_ix rfl (se_v (pv 0)) se_int) (se_v (pv 1))))
    (ss_one (ss_ret (se_v (pv 2)))))) ss_nil)
    (ss_cons (ss_stl (i := 0) (pv 0) se_int (se_op op_mod d_mod (se_op op_addA d_add (se_op op_mulA d_mul (se_ix rfl (se_v (pv 0)) se_int) se_int) se_int) se_int))
    (ss_one (ss_ret (se_op op_mod d_mod (se_op op_fdiv d_div (se_op op_mod d_mod (se_op op_mulA d_mul (se_ix rfl (se_v (pv 0)) se_int) (se_ix rfl (se_v (pv 0)) se_int)) se_int) se_int) (se_v (pv 1)))))))⟩
def b_law_letters : FS := (fSeq (fParC 2 3 (fCB oList (fCons (fC (.str [97, 98, 99, 100, 101, 102, 103, 104])) fNil)) (.str []))
    (fSeq (fFor (gN 1) (fRg1 (fCons (fBin oAdd (fC (.int 1)) (fCall m_law_draw [true, false] [] (fCons (fV 0) (fCons (fC (.int 4)) fNil)))) fNil)) (fSet 3 (fBin oAdd (fV 3) (fMu 2 "list" oPopAt (fCons (fCall m_law_draw [true, false] [] (fCons (fV 0) (fCons (fCB oLen (fCons (fV 2) fNil)) fNil))) fNil)))))
    (fRet (fV 3))))
def m_law_letters : FM := mDef 4 b_law_letters
theorem bd_law_letters (t : Txt K mg) : Bd K t.fd_law_letters ["_law_pool_here"] [] 1 (· ++ []) (· ++ []) := Bd.dfl rfl (t.F_law_letters.binds (ps := ["_law_pool_here"]) fun _ _ _ _ _ _ us hl => match us, hl with | [_], _ => rfl) .nil
theorem ok_law_letters (t : Txt K mg) : FnG P w K mg base 3 t.a_law_letters t.fd_law_letters ["_law_pool_here"] (spD t.tb 1 m_law_letters) := by
  refine fn_ok t.F_law_letters sc_law_letters fun cdv A outer s H E hr gd => ?_
  have hu := hr.units
  have hu5 := units65 hr
  have hp := passes_of (X := cxOf (L2.CX P w) P w K mg base ["_law_pool_here", "_law_turn", "_law_left", "_law_found"] "_law_letters" (defScope s_law_letters) t.a_law_letters cdv A outer s H E) rfl
  have tk := takes_of (X := cxOf (L2.CX P w) P w K mg base ["_law_pool_here", "_law_turn", "_law_left", "_law_found"] "_law_letters" (defScope s_law_letters) t.a_law_letters cdv A outer s H E) (E := E) rfl rfl rfl rfl
  delta b_law_letters
  exact ⟨_, (ss_cons (ss_parC (d := .str []) (fun u h => ps_par rfl sc_law_letters.nd (i := 2) (j := 3) rfl rfl (by decide) rfl rfl h (by rfl)) (se_typ (CallR.or call_list_of (call_list_chars rfl)) (d_list rfl) rfl t.z_list PyProof.Rows.Boot.«list» (sa_cons (se_str (l := [97, 98, 99, 100, 101, 102, 103, 104]) rfl) sa_nil)) pe_str (by intro _; simp only [Rp]; rfl))
    (ss_cons (ss_for hp rfl (si_rg1 rfl t.z_range (sa_cons (se_op op_addA d_add se_int (se_call (ms := [true, false]) (dfl := []) (dvs := []) (ok_law_draw t) tk (hr.mono (by decide)) gd rfl t.g_law_draw t.k_law_draw (bd_law_draw t) (fun _ => RpL.nil) (sa_cons (se_v (pv 0)) (sa_cons se_int sa_nil)) (ar_cons (ar_cons ar_nil)))) sa_nil)) (tg_n (pg_name (i := 1) sc_law_letters.nd rfl (by first | exact .inl rfl | exact .inr rfl))) (ss_one (ss_set (i := 3) sc_law_letters.nd rfl (by first | exact .inl rfl | exact .inr rfl) (se_op op_addA d_add (se_v (pv 3)) (se_mu (fun u k => pe_bm PySem.F.plainAttrs_list PySem.F.slot_list_pop PySem.F.type_list_pop mt_popAt (pv 2) k) d_popAt (sa_cons (se_call (ms := [true, false]) (dfl := []) (dvs := []) (ok_law_draw t) tk (hr.mono (by decide)) gd rfl t.g_law_draw t.k_law_draw (bd_law_draw t) (fun _ => RpL.nil) (sa_cons (se_v (pv 0)) (sa_cons (se_blt call_len d_len rfl t.z_len PyProof.Rows.Boot.«len» (sa_cons (se_v (pv 2)) sa_nil)) sa_nil)) (ar_cons (ar_cons ar_nil))) sa_nil))))))
    (ss_one (ss_ret (se_v (pv 3))))))⟩
def b_law_items : FS := (fRet (fMt "str" oJoin (fC (.str [])) (fCons (fLc [3] (gN 3) (fRg1 (fCons (fCall m_law_draw [true, false] [] (fCons (fV 0) (fCons (fBin oAdd (fV 2) (fC (.int 1))) fNil))) fNil)) fYes (fBin oIx (fV 1) (fCall m_law_draw [true, false] [] (fCons (fV 0) (fCons (fCB oLen (fCons (fV 1) fNil)) fNil))))) fNil)))
def m_law_items : FM := mDef 4 b_law_items
theorem bd_law_items (t : Txt K mg) : Bd K t.fd_law_items ["_law_pool_here", "_law_letters_here", "_law_most"] [] 3 (· ++ []) (· ++ []) := Bd.dfl rfl (t.F_law_items.binds (ps := ["_law_pool_here", "_law_letters_here", "_law_most"]) fun _ _ _ _ _ _ us hl => match us, hl with | [_, _, _], _ => rfl) .nil
theorem ok_law_items (t : Txt K mg) : FnG P w K mg base 3 t.a_law_items t.fd_law_items ["_law_pool_here", "_law_letters_here", "_law_most"] (spD t.tb 3 m_law_items) := by
  refine fn_ok t.F_law_items sc_law_items fun cdv A outer s H E hr gd => ?_
  have hu := hr.units
  have hu5 := units65 hr
  have hp := passes_of (X := cxOf (L2.CX P w) P w K mg base ["_law_pool_here", "_law_letters_here", "_law_most", "_law_at"] "_law_items" (defScope s_law_items) t.a_law_items cdv A outer s H E) rfl
  have tk := takes_of (X := cxOf (L2.CX P w) P w K mg base ["_law_pool_here", "_law_letters_here", "_law_most", "_law_at"] "_law_items" (defScope s_law_items) t.a_law_items cdv A outer s H E) (E := E) rfl rfl rfl rfl
  delta b_law_items
  exact ⟨_, (ss_one (ss_ret (se_mt (fun u v h k => pe_bm PySem.F.plainAttrs_str PySem.F.slot_str_join PySem.F.type_str_join mt_join h k) d_join (se_str (l := []) rfl) (sa_cons (se_lc (own := [("_law_at", 3)]) rfl sc_law_items.nd (si_rg1 rfl t.z_range (sa_cons (se_call (ms := [true, false]) (dfl := []) (dvs := []) (ok_law_draw t) tk (hr.mono (by decide)) gd rfl t.g_law_draw t.k_law_draw (bd_law_draw t) (fun _ => RpL.nil) (sa_cons (se_v (pv 0)) (sa_cons (se_op op_addA d_add (se_v (pv 2)) se_int) sa_nil)) (ar_cons (ar_cons ar_nil))) sa_nil)) (blkOk_by (by kernel_rfl)) (fun s H C cl fp => (tg_n (pg_name (i := 3) sc_law_items.nd rfl (by first | exact .inl rfl | exact .inr rfl)))) (fun s H C cl fp => sts_nil) (fun s H C cl fp => (se_ix rfl (se_v (pv 1)) (se_call (ms := [true, false]) (dfl := []) (dvs := []) (ok_law_draw t) takes0 (hr.mono (by decide)) gd rfl t.g_law_draw t.k_law_draw (bd_law_draw t) (fun _ => RpL.nil) (sa_cons (se_v (pv 0)) (sa_cons (se_blt call_len d_len rfl t.z_len PyProof.Rows.Boot.«len» (sa_cons (se_v (pv 1)) sa_nil)) sa_nil)) (ar_cons (ar_cons ar_nil)))))) sa_nil))))⟩
def b_law_best : FS := (fSeq (fFor (gN 2) (fItA (fV 0)) (fSeq (fSet 3 (fMt "str" oFind (fV 1) (fCons (fMt0 "str" oLower (fV 2)) fNil)))
    (fIf (fTst (fBin (oIn id) (fV 2) (fC (.str [97, 98, 99, 100, 101, 102, 103, 104])))) (fSet 1 (fBin oAdd (fV 1) (fV 2))) (fIf (fTst (fBin oLt (fV 3) (fC (.int 0)))) (fRet (fC .non)) (fSet 1 (fSl oSl (fV 1) (fPart (fBin oAdd (fV 3) (fC (.int 1)))) fNoPart))))))
    (fRet (fV 1)))
def m_law_best : FM := mDef 4 b_law_best
theorem bd_law_best (t : Txt K mg) : Bd K t.fd_law_best ["_law_code", "_law_items_here"] [] 2 (· ++ []) (· ++ []) := Bd.dfl rfl (t.F_law_best.binds (ps := ["_law_code", "_law_items_here"]) fun _ _ _ _ _ _ us hl => match us, hl with | [_, _], _ => rfl) .nil
theorem ok_law_best (t : Txt K mg) : FnG P w K mg base 2 t.a_law_best t.fd_law_best ["_law_code", "_law_items_here"] (spD t.tb 2 m_law_best) := by
  refine fn_ok t.F_law_best sc_law_best fun cdv A outer s H E hr gd => ?_
  have hu := hr.units
  have hu5 := units65 hr
  have hp := passes_of (X := cxOf (L2.CX P w) P w K mg base ["_law_code", "_law_items_here", "_law_sign", "_law_place"] "_law_best" (defScope s_law_best) t.a_law_best cdv A outer s H E) rfl
  have tk := takes_of (X := cxOf (L2.CX P w) P w K mg base ["_law_code", "_law_items_here", "_law_sign", "_law_place"] "_law_best" (defScope s_law_best) t.a_law_best cdv A outer s H E) (E := E) rfl rfl rfl rfl
  delta b_law_best
  exact ⟨_, (ss_cons (ss_for hp rfl (si_seq rfl (se_v (pv 0))) (tg_n (pg_name (i := 2) sc_law_best.nd rfl (by first | exact .inl rfl | exact .inr rfl))) (ss_cons (ss_set (i := 3) sc_law_best.nd rfl (by first | exact .inl rfl | exact .inr rfl) (se_mt (fun u v h k => pe_bm PySem.F.plainAttrs_str PySem.F.slot_str_find PySem.F.type_str_find mt_find h k) d_find (se_v (pv 1)) (sa_cons (se_mt0 (fun u h => pe_bm0 PySem.F.plainAttrs_str PySem.F.slot_str_lower PySem.F.type_str_lower mt_lower h) d_lower (se_v (pv 2))) sa_nil)))
    (ss_one (ss_if (st_cmp (op_inA hu5) (d_in id) (se_v (pv 2)) (se_str (l := [97, 98, 99, 100, 101, 102, 103, 104]) rfl)) (ss_one (ss_set (i := 1) sc_law_best.nd rfl (by first | exact .inl rfl | exact .inr rfl) (se_op op_addA d_add (se_v (pv 1)) (se_v (pv 2))))) (ss_one (ss_if (st_cmp op_lt d_B0 (se_v (pv 3)) se_int) (ss_one (ss_ret se_non)) (ss_one (ss_set (i := 1) sc_law_best.nd rfl (by first | exact .inl rfl | exact .inr rfl) (se_sl rfl (se_v (pv 1)) (so_some (se_op op_addA d_add (se_v (pv 3)) se_int)) so_none)))))))))
    (ss_one (ss_ret (se_v (pv 1)))))⟩
def b_law_told : FS := (fTry (fRet (fCall m_best_result [false, false] [] (fCons (fV 0) (fCons (fV 1) fNil)))) (((fun c => [false, false, false, true][c]?), kRet 2 (xLst (xCons (xC (.str [108, 105, 109, 105, 116])) (xCons xF (xCons (xB true) xNil))))) :: (((fun c => [false, false, true, false][c]?), kRet 2 (xLst (xCons (xC (.str [112, 114, 111, 103, 114, 97, 109])) (xCons (xCall oRepr (xCons xF xNil)) xNil)))) :: (((fun c => [false, true, false, false][c]?), kRet 2 (xLst (xCons (xC (.str [119, 111, 114, 100])) (xCons (xCall oRepr (xCons xF xNil)) xNil)))) :: []))))
def m_law_told : FM := mDef 3 b_law_told
theorem bd_law_told (t : Txt K mg) : Bd K t.fd_law_told ["_law_code", "_law_items_here"] [] 2 (· ++ []) (· ++ []) := Bd.dfl rfl (t.F_law_told.binds (ps := ["_law_code", "_law_items_here"]) fun _ _ _ _ _ _ us hl => match us, hl with | [_, _], _ => rfl) .nil
theorem ok_law_told (t : Txt K mg) : FnG P w K mg base 6 t.a_law_told t.fd_law_told ["_law_code", "_law_items_here"] (spD t.tb 2 m_law_told) := by
  refine fn_ok t.F_law_told sc_law_told fun cdv A outer s H E hr gd => ?_
  have hu := hr.units
  have hu5 := units65 hr
  have hp := passes_of (X := cxOf (L2.CX P w) P w K mg base ["_law_code", "_law_items_here", "e"] "_law_told" (defScope s_law_told) t.a_law_told cdv A outer s H E) rfl
  have tk := takes_of (X := cxOf (L2.CX P w) P w K mg base ["_law_code", "_law_items_here", "e"] "_law_told" (defScope s_law_told) t.a_law_told cdv A outer s H E) (E := E) rfl rfl rfl rfl
  delta b_law_told
  exact ⟨_, (ss_one (ss_try2 rfl rfl sc_law_told.nd tk rfl (fun W pn xe tk hp => (ss_one (ss_ret (se_call (ms := [false, false]) (dfl := []) (dvs := []) (ok_best_result t) tk (hr.mono (by decide)) gd rfl t.g_best_result t.k_best_result (bd_best_result t) (fun _ => RpL.nil) (sa_cons (se_v (pv 0)) (sa_cons (se_v (pv 1)) sa_nil)) (ar_cons (ar_cons ar_nil))))))
      (try_named (mt := (fun c => [false, false, false, true][c]?)) (i := 2) (c0 := 3) rfl rfl ⟨rfl, by decide, .inl t.g_LimitExceeded⟩ (fun c b h => match c, h with | 0, h => (by cases h; exact t.e_0_3) | 1, h => (by cases h; exact t.e_1_3) | 2, h => (by cases h; exact t.e_2_3) | 3, h => (by cases h; exact t.e_3_3) | n + 4, h => (by cases h)) (fun c h => match c, h with | 0, h => (by first | rfl | cases h) | 1, h => (by first | rfl | cases h) | 2, h => (by first | rfl | cases h) | 3, h => (by first | rfl | cases h) | n + 4, h => (by cases h)) (fun a cls d => (ax_lst (axs_cons (ax_c (v := .str "limit") (d0 := .str [108, 105, 109, 105, 116]) (fun _ => pe_str) (by intro _; simp only [Rp]; rfl)) (axs_cons (ax_f t.xf_LimitExceeded t.no_LimitExceeded rfl (fun _ _ => pv 2)) (axs_cons (ax_is (k := .ty "OverflowError") (b := true) t.xi_LimitExceeded rfl (fun u h => h) t.kit_LimitExceeded_OverflowError (fun oe pn r h => pe_callB h rfl t.z_isinstance PyProof.Rows.Boot.«isinstance» (pa_cons (pv 2) (pa_cons (pe_bltn rfl t.z_OverflowError PyProof.Rows.Boot.«OverflowError» rfl) pa_nil)))) axs_nil)))))
      (try_named (mt := (fun c => [false, false, true, false][c]?)) (i := 2) (c0 := 2) rfl rfl ⟨rfl, by decide, .inl t.g_InvalidProgram⟩ (fun c b h => match c, h with | 0, h => (by cases h; exact t.e_0_2) | 1, h => (by cases h; exact t.e_1_2) | 2, h => (by cases h; exact t.e_2_2) | 3, h => (by cases h; exact t.e_3_2) | n + 4, h => (by cases h)) (fun c h => match c, h with | 0, h => (by first | rfl | cases h) | 1, h => (by first | rfl | cases h) | 2, h => (by first | rfl | cases h) | 3, h => (by first | rfl | cases h) | n + 4, h => (by cases h)) (fun a cls d => (ax_lst (axs_cons (ax_c (v := .str "program") (d0 := .str [112, 114, 111, 103, 114, 97, 109]) (fun _ => pe_str) (by intro _; simp only [Rp]; rfl)) (axs_cons (ax_call (fun oe pn u h => pe_callB (call_repr gd hu) rfl t.z_repr PyProof.Rows.Boot.«repr» h) d_repr (axs_cons (ax_f t.xf_InvalidProgram t.no_InvalidProgram rfl (fun _ _ => pv 2)) axs_nil)) axs_nil))))
      (try_named (mt := (fun c => [false, true, false, false][c]?)) (i := 2) (c0 := 1) rfl rfl ⟨rfl, by decide, .inl t.g_InvalidWord⟩ (fun c b h => match c, h with | 0, h => (by cases h; exact t.e_0_1) | 1, h => (by cases h; exact t.e_1_1) | 2, h => (by cases h; exact t.e_2_1) | 3, h => (by cases h; exact t.e_3_1) | n + 4, h => (by cases h)) (fun c h => match c, h with | 0, h => (by first | rfl | cases h) | 1, h => (by first | rfl | cases h) | 2, h => (by first | rfl | cases h) | 3, h => (by first | rfl | cases h) | n + 4, h => (by cases h)) (fun a cls d => (ax_lst (axs_cons (ax_c (v := .str "word") (d0 := .str [119, 111, 114, 100]) (fun _ => pe_str) (by intro _; simp only [Rp]; rfl)) (axs_cons (ax_call (fun oe pn u h => pe_callB (call_repr gd hu) rfl t.z_repr PyProof.Rows.Boot.«repr» h) d_repr (axs_cons (ax_f t.xf_InvalidWord t.no_InvalidWord rfl (fun _ _ => pv 2)) axs_nil)) axs_nil))))
      try_nil)))))⟩
def b_law_due : FS := (fSeq (fSet 2 (fCall m_law_best [false, false] [] (fCons (fV 0) (fCons (fV 1) fNil))))
    (fSeq (fIf (fAnd (fTst (fBin (oIsN not) (fV 2) (fC .non))) (fTst (fBin oGt (fCB oLen (fCons (fV 2) fNil)) (fC (.int 400))))) (fRet (fLst (fCons (fC (.str [108, 105, 109, 105, 116])) (fCons (fC (.int 400)) (fCons (fC (.bl true)) fNil))))) fSkip)
    (fRet (fV 2))))
def m_law_due : FM := mDef 3 b_law_due
theorem bd_law_due (t : Txt K mg) : Bd K t.fd_law_due ["_law_code", "_law_items_here"] [] 2 (· ++ []) (· ++ []) := Bd.dfl rfl (t.F_law_due.binds (ps := ["_law_code", "_law_items_here"]) fun _ _ _ _ _ _ us hl => match us, hl with | [_, _], _ => rfl) .nil
theorem ok_law_due (t : Txt K mg) : FnG P w K mg base 3 t.a_law_due t.fd_law_due ["_law_code", "_law_items_here"] (spD t.tb 2 m_law_due) := by
  refine fn_ok t.F_law_due sc_law_due fun cdv A outer s H E hr gd => ?_
  have hu := hr.units
  have hu5 := units65 hr
  have hp := passes_of (X := cxOf (L2.CX P w) P w K mg base ["_law_code", "_law_items_here", "_law_found"] "_law_due" (defScope s_law_due) t.a_law_due cdv A outer s H E) rfl
  have tk := takes_of (X := cxOf (L2.CX P w) P w K mg base ["_law_code", "_law_items_here", "_law_found"] "_law_due" (defScope s_law_due) t.a_law_due cdv A outer s H E) (E := E) rfl rfl rfl rfl
  delta b_law_due
  exact ⟨_, (ss_cons (ss_set (i := 2) sc_law_due.nd rfl (by first | exact .inl rfl | exact .inr rfl) (se_call (ms := [false, false]) (dfl := []) (dvs := []) (ok_law_best t) tk (hr.mono (by decide)) gd rfl t.g_law_best t.k_law_best (bd_law_best t) (fun _ => RpL.nil) (sa_cons (se_v (pv 0)) (sa_cons (se_v (pv 1)) sa_nil)) (ar_cons (ar_cons ar_nil))))
    (ss_cons (ss_if (st_w (sw_and (st_cmp op_notN' (d_isN not) (se_v (pv 2)) se_non) (sw_and1 (st_cmp op_gt d_B0 (se_blt call_len d_len rfl t.z_len PyProof.Rows.Boot.«len» (sa_cons (se_v (pv 2)) sa_nil)) se_int)))) (ss_one (ss_ret (se_lst (sa_cons (se_str (l := [108, 105, 109, 105, 116]) rfl) (sa_cons se_int (sa_cons se_bl sa_nil)))))) ss_nil)
    (ss_one (ss_ret (se_v (pv 2))))))⟩
def b_law_long : FS := (fSeq (fSet 3 (fBin oAdd (fBin oMul (fV 2) (fCall m_law_draw [true, false] [] (fCons (fV 0) (fCons (fC (.int 3)) fNil)))) (fBin oMul (fV 1) (fBin oAdd (fC (.int 395)) (fCall m_law_draw [true, false] [] (fCons (fV 0) (fCons (fC (.int 3)) fNil)))))))
    (fSeq (fSet 4 (fCall m_law_draw [true, false] [] (fCons (fV 0) (fCons (fC (.int 9)) fNil))))
    (fSeq (fSet 5 (fLst (fCons (fBin oAdd (fBin oMul (fV 1) (fV 4)) (fBin oMul (fMt0 "str" oUpper (fV 1)) (fCall m_law_draw [true, false] [] (fCons (fV 0) (fCons (fC (.int 5)) fNil))))) (fCons (fBin oAdd (fBin oMul (fV 1) (fC (.int 200))) (fBin oMul (fMt0 "str" oUpper (fV 1)) (fC (.int 200)))) fNil))))
    (fSeq (fDrop (fMu 5 "list" oApp (fCons (fBin oAdd (fBin oAdd (fBin oMul (fV 1) (fC (.int 199))) (fMt0 "str" oUpper (fV 1))) (fBin oMul (fV 1) (fCall m_law_draw [true, false] [] (fCons (fV 0) (fCons (fC (.int 201)) fNil))))) fNil)))
    (fSeq (fFor (gN 6) (fItA (fV 5)) (fIf (fTst (fBin (oEq not) (fCall m_law_told [false, false] [] (fCons (fV 6) (fCons (fV 3) fNil))) (fCall m_law_due [false, false] [] (fCons (fV 6) (fCons (fV 3) fNil))))) (fRet (fC (.bl false))) fSkip))
    (fSeq (fSet 6 (fBin oAdd (fBin oMul (fV 1) (fC (.int 392))) (fBin oMul (fMt0 "str" oUpper (fV 1)) (fV 4))))
    (fRet (fAndV (fBin (oEq id) (fCall m_law_told [false, false] [] (fCons (fV 6) (fCons (fV 3) fNil))) (fCall m_law_due [false, false] [] (fCons (fV 6) (fCons (fV 3) fNil)))) (fBin (oEq id) (fCall m_law_told [false, false] [] (fCons (fV 6) (fCons (fV 1) fNil))) (fCall m_law_due [false, false] [] (fCons (fV 6) (fCons (fV 1) fNil))))))))))))
def m_law_long : FM := mDef 7 b_law_long
theorem bd_law_long (t : Txt K mg) : Bd K t.fd_law_long ["_law_pool_here", "_law_letter", "_law_other"] [] 3 (· ++ []) (· ++ []) := Bd.dfl rfl (t.F_law_long.binds (ps := ["_law_pool_here", "_law_letter", "_law_other"]) fun _ _ _ _ _ _ us hl => match us, hl with | [_, _, _], _ => rfl) .nil
theorem ok_law_long (t : Txt K mg) : FnG P w K mg base 7 t.a_law_long t.fd_law_long ["_law_pool_here", "_law_letter", "_law_other"] (spD t.tb 3 m_law_long) := by
  refine fn_ok t.F_law_long sc_law_long fun cdv A outer s H E hr gd => ?_
  have hu := hr.units
  have hu5 := units65 hr
  have hp := passes_of (X := cxOf (L2.CX P w) P w K mg base ["_law_pool_here", "_law_letter", "_law_other", "_law_items_here", "_law_many", "_law_code", "_law_text"] "_law_long" (defScope s_law_long) t.a_law_long cdv A outer s H E) rfl
  have tk := takes_of (X := cxOf (L2.CX P w) P w K mg base ["_law_pool_here", "_law_letter", "_law_other", "_law_items_here", "_law_many", "_law_code", "_law_text"] "_law_long" (defScope s_law_long) t.a_law_long cdv A outer s H E) (E := E) rfl rfl rfl rfl
  delta b_law_long
  exact ⟨_, (ss_cons (ss_set (i := 3) sc_law_long.nd rfl (by first | exact .inl rfl | exact .inr rfl) (se_op op_addA d_add (se_op op_mulA d_mul (se_v (pv 2)) (se_call (ms := [true, false]) (dfl := []) (dvs := []) (ok_law_draw t) tk (hr.mono (by decide)) gd rfl t.g_law_draw t.k_law_draw (bd_law_draw t) (fun _ => RpL.nil) (sa_cons (se_v (pv 0)) (sa_cons se_int sa_nil)) (ar_cons (ar_cons ar_nil)))) (se_op op_mulA d_mul (se_v (pv 1)) (se_op op_addA d_add se_int (se_call (ms := [true, false]) (dfl := []) (dvs := []) (ok_law_draw t) tk (hr.mono (by decide)) gd rfl t.g_law_draw t.k_law_draw (bd_law_draw t) (fun _ => RpL.nil) (sa_cons (se_v (pv 0)) (sa_cons se_int sa_nil)) (ar_cons (ar_cons ar_nil)))))))
    (ss_cons (ss_set (i := 4) sc_law_long.nd rfl (by first | exact .inl rfl | exact .inr rfl) (se_call (ms := [true, false]) (dfl := []) (dvs := []) (ok_law_draw t) tk (hr.mono (by decide)) gd rfl t.g_law_draw t.k_law_draw (bd_law_draw t) (fun _ => RpL.nil) (sa_cons (se_v (pv 0)) (sa_cons se_int sa_nil)) (ar_cons (ar_cons ar_nil))))
    (ss_cons (ss_set (i := 5) sc_law_long.nd rfl (by first | exact .inl rfl | exact .inr rfl) (se_lst (sa_cons (se_op op_addA d_add (se_op op_mulA d_mul (se_v (pv 1)) (se_v (pv 4))) (se_op op_mulA d_mul (se_mt0 (fun u h => pe_bm0 PySem.F.plainAttrs_str PySem.F.slot_str_upper PySem.F.type_str_upper mt_upper h) d_upper (se_v (pv 1))) (se_call (ms := [true, false]) (dfl := []) (dvs := []) (ok_law_draw t) tk (hr.mono (by decide)) gd rfl t.g_law_draw t.k_law_draw (bd_law_draw t) (fun _ => RpL.nil) (sa_cons (se_v (pv 0)) (sa_cons se_int sa_nil)) (ar_cons (ar_cons ar_nil))))) (sa_cons (se_op op_addA d_add (se_op op_mulA d_mul (se_v (pv 1)) se_int) (se_op op_mulA d_mul (se_mt0 (fun u h => pe_bm0 PySem.F.plainAttrs_str PySem.F.slot_str_upper PySem.F.type_str_upper mt_upper h) d_upper (se_v (pv 1))) se_int)) sa_nil))))
    (ss_cons (ss_expr (se_mu (fun u k => pe_bm PySem.F.plainAttrs_list PySem.F.slot_list_append PySem.F.type_list_append mt_append (pv 5) k) d_app (sa_cons (se_op op_addA d_add (se_op op_addA d_add (se_op op_mulA d_mul (se_v (pv 1)) se_int) (se_mt0 (fun u h => pe_bm0 PySem.F.plainAttrs_str PySem.F.slot_str_upper PySem.F.type_str_upper mt_upper h) d_upper (se_v (pv 1)))) (se_op op_mulA d_mul (se_v (pv 1)) (se_call (ms := [true, false]) (dfl := []) (dvs := []) (ok_law_draw t) tk (hr.mono (by decide)) gd rfl t.g_law_draw t.k_law_draw (bd_law_draw t) (fun _ => RpL.nil) (sa_cons (se_v (pv 0)) (sa_cons se_int sa_nil)) (ar_cons (ar_cons ar_nil))))) sa_nil)))
    (ss_cons (ss_for hp rfl (si_seq rfl (se_v (pv 5))) (tg_n (pg_name (i := 6) sc_law_long.nd rfl (by first | exact .inl rfl | exact .inr rfl))) (ss_one (ss_if (st_cmp (op_neA hu) d_neA (se_call (ms := [false, false]) (dfl := []) (dvs := []) (ok_law_told t) tk (hr.mono (by decide)) gd rfl t.g_law_told t.k_law_told (bd_law_told t) (fun _ => RpL.nil) (sa_cons (se_v (pv 6)) (sa_cons (se_v (pv 3)) sa_nil)) (ar_cons (ar_cons ar_nil))) (se_call (ms := [false, false]) (dfl := []) (dvs := []) (ok_law_due t) tk (hr.mono (by decide)) gd rfl t.g_law_due t.k_law_due (bd_law_due t) (fun _ => RpL.nil) (sa_cons (se_v (pv 6)) (sa_cons (se_v (pv 3)) sa_nil)) (ar_cons (ar_cons ar_nil)))) (ss_one (ss_ret se_bl)) ss_nil)))
    (ss_cons (ss_set (i := 6) sc_law_long.nd rfl (by first | exact .inl rfl | exact .inr rfl) (se_op op_addA d_add (se_op op_mulA d_mul (se_v (pv 1)) se_int) (se_op op_mulA d_mul (se_mt0 (fun u h => pe_bm0 PySem.F.plainAttrs_str PySem.F.slot_str_upper PySem.F.type_str_upper mt_upper h) d_upper (se_v (pv 1))) (se_v (pv 4)))))
    (ss_one (ss_ret (se_and (se_cmp (op_eqA hu) d_eqA (se_call (ms := [false, false]) (dfl := []) (dvs := []) (ok_law_told t) tk (hr.mono (by decide)) gd rfl t.g_law_told t.k_law_told (bd_law_told t) (fun _ => RpL.nil) (sa_cons (se_v (pv 6)) (sa_cons (se_v (pv 3)) sa_nil)) (ar_cons (ar_cons ar_nil))) (se_call (ms := [false, false]) (dfl := []) (dvs := []) (ok_law_due t) tk (hr.mono (by decide)) gd rfl t.g_law_due t.k_law_due (bd_law_due t) (fun _ => RpL.nil) (sa_cons (se_v (pv 6)) (sa_cons (se_v (pv 3)) sa_nil)) (ar_cons (ar_cons ar_nil)))) (se_one (se_cmp (op_eqA hu) d_eqA (se_call (ms := [false, false]) (dfl := []) (dvs := []) (ok_law_told t) tk (hr.mono (by decide)) gd rfl t.g_law_told t.k_law_told (bd_law_told t) (fun _ => RpL.nil) (sa_cons (se_v (pv 6)) (sa_cons (se_v (pv 1)) sa_nil)) (ar_cons (ar_cons ar_nil))) (se_call (ms := [false, false]) (dfl := []) (dvs := []) (ok_law_due t) tk (hr.mono (by decide)) gd rfl t.g_law_due t.k_law_due (bd_law_due t) (fun _ => RpL.nil) (sa_cons (se_v (pv 6)) (sa_cons (se_v (pv 1)) sa_nil)) (ar_cons (ar_cons ar_nil))))))))))))))⟩
def b_law : FS := (fSeq (fFor (gN 1) (fItA (fLst (fCons (fC .non) (fCons (fC (.int 5)) (fCons (fC (.str [105])) (fCons (fC (.str [97, 32, 98])) (fCons (fBin oMul (fC (.str [97])) (fC (.int 401))) (fCons (fLst (fCons (fC (.str [97])) fNil)) (fCons (fTup (fCons (fC (.str [97])) fNil)) (fCons (fC (.bl true)) (fCons fDic0 (fCons (fLst (fCons (fC (.int 0)) fNil)) (fCons (fTup (fCons (fC (.int 0)) (fCons (fLst fNil) fNil))) fNil))))))))))))) (fIf (fOr (fTst (fBin (oEq not) (fCall m_law_told [false, false] [] (fCons (fV 1) (fCons (fC .non) fNil))) (fLst (fCons (fC (.str [112, 114, 111, 103, 114, 97, 109])) (fCons (fCB oRepr (fCons (fV 1) fNil)) fNil))))) (fTst (fBin (oEq not) (fCall m_law_told [false, false] [] (fCons (fC (.str [65, 97])) (fCons (fV 1) fNil))) (fLst (fCons (fC (.str [119, 111, 114, 100])) (fCons (fCB oRepr (fCons (fV 1) fNil)) fNil)))))) (fRet (fC (.bl false))) fSkip))
    (fSeq (fIf (fTst (fBin (oEq not) (fCall m_law_told [false, false] [] (fCons (fC (.str [97, 65])) (fCons (fC (.str [65])) fNil))) (fLst (fCons (fC (.str [119, 111, 114, 100])) (fCons (fC (.str [39, 65, 39])) fNil))))) (fRet (fC (.bl false))) fSkip)
    (fSeq (fFor (gN 2) (fRg1 (fCons (fCB oMax2 (fCons (fC (.int 1)) (fCons (fCB oMin2 (fCons (fC (.int 6)) (fCons (fCB oLen (fCons (fV 0) fNil)) fNil))) fNil))) fNil)) (fSeq (fSet 3 (fCall m_law_pool [false, false] [] (fCons (fV 0) (fCons (fV 2) fNil))))
    (fSeq (fSet 4 (fCall m_law_letters [true] [] (fCons (fV 3) fNil)))
    (fSeq (fIf (fNot (fTst (fCall m_law_long [true, false, false] [] (fCons (fV 3) (fCons (fBin oIx (fV 4) (fC (.int 0))) (fCons (fBin oIx (fC (.str [97, 98, 99, 100, 101, 102, 103, 104])) (fBin oMod (fBin oAdd (fMt "str" oIndex (fC (.str [97, 98, 99, 100, 101, 102, 103, 104])) (fCons (fBin oIx (fV 4) (fC (.int 0))) fNil)) (fC (.int 1))) (fC (.int 8)))) fNil)))))) (fRet (fC (.bl false))) fSkip)
    (fFor (gN 5) (fRg1 (fCons (fC (.int 8)) fNil)) (fSeq (fSet 6 (fCall m_law_items [true, false, false] [] (fCons (fV 3) (fCons (fV 4) (fCons (fC (.int 9)) fNil)))))
    (fSeq (fSet 7 (fCall m_law_items [true, false, false] [] (fCons (fV 3) (fCons (fBin oAdd (fV 4) (fMt0 "str" oUpper (fV 4))) (fCons (fC (.int 12)) fNil)))))
    (fIf (fTst (fBin (oEq not) (fCall m_law_told [false, false] [] (fCons (fV 7) (fCons (fV 6) fNil))) (fCall m_law_due [false, false] [] (fCons (fV 7) (fCons (fV 6) fNil))))) (fRet (fC (.bl false))) fSkip))))))))
    (fSeq (fIf (fOr (fTst (fBin (oEq not) (fCall m_best_result [false, false] [] (fCons (fBin oMul (fC (.str [97])) (fC (.int 200))) (fCons (fBin oMul (fC (.str [98])) (fC (.int 200))) fNil))) (fBin oAdd (fBin oMul (fC (.str [98])) (fC (.int 200))) (fBin oMul (fC (.str [97])) (fC (.int 200)))))) (fTst (fBin (oEq not) (fCall m_best_result [false, false] [] (fCons (fC (.str [])) (fCons (fC (.str [])) fNil))) (fC (.str []))))) (fRet (fC (.bl false))) fSkip)
    (fRet (fBin (oEq id) (fCallK m_best_result (permL [1, 0]) (fCons (fC (.str [98, 97, 98])) (fCons (fC (.str [97, 66, 99])) fNil))) (fC (.str [97, 98, 97, 99]))))))))
def m_law : FM := mDef 8 b_law
theorem bd_law (t : Txt K mg) : Bd K t.fd_law ["_law_script"] [] 1 (· ++ []) (· ++ []) := Bd.dfl rfl (t.F_law.binds (ps := ["_law_script"]) fun _ _ _ _ _ _ us hl => match us, hl with | [_], _ => rfl) .nil
theorem ok_law (t : Txt K mg) : FnG P w K mg base 8 t.a_law t.fd_law ["_law_script"] (spD t.tb 1 m_law) := by
  refine fn_ok t.F_law sc_law fun cdv A outer s H E hr gd => ?_
  have hu := hr.units
  have hu5 := units65 hr
  have hp := passes_of (X := cxOf (L2.CX P w) P w K mg base ["_law_script", "_law_value", "_law_index", "_law_pool_here", "_law_letters_here", "_law_turn", "_law_items_here", "_law_code"] "law" (defScope s_law) t.a_law cdv A outer s H E) rfl
  have tk := takes_of (X := cxOf (L2.CX P w) P w K mg base ["_law_script", "_law_value", "_law_index", "_law_pool_here", "_law_letters_here", "_law_turn", "_law_items_here", "_law_code"] "law" (defScope s_law) t.a_law cdv A outer s H E) (E := E) rfl rfl rfl rfl
  delta b_law
  exact ⟨_, (ss_cons (ss_for hp rfl (si_seq rfl (se_lst (sa_cons se_non (sa_cons se_int (sa_cons (se_str (l := [105]) rfl) (sa_cons (se_str (l := [97, 32, 98]) rfl) (sa_cons (se_op op_mulA d_mul (se_str (l := [97]) rfl) se_int) (sa_cons (se_lst (sa_cons (se_str (l := [97]) rfl) sa_nil)) (sa_cons (se_tup (sa_cons (se_str (l := [97]) rfl) sa_nil)) (sa_cons se_bl (sa_cons se_dic0 (sa_cons (se_lst (sa_cons se_int sa_nil)) (sa_cons (se_tup (sa_cons se_int (sa_cons (se_lst sa_nil) sa_nil))) sa_nil))))))))))))) (tg_n (pg_name (i := 1) sc_law.nd rfl (by first | exact .inl rfl | exact .inr rfl))) (ss_one (ss_if (st_w (sw_or (st_cmp (op_neA hu) d_neA (se_call (ms := [false, false]) (dfl := []) (dvs := []) (ok_law_told t) tk (hr.mono (by decide)) gd rfl t.g_law_told t.k_law_told (bd_law_told t) (fun _ => RpL.nil) (sa_cons (se_v (pv 1)) (sa_cons se_non sa_nil)) (ar_cons (ar_cons ar_nil))) (se_lst (sa_cons (se_str (l := [112, 114, 111, 103, 114, 97, 109]) rfl) (sa_cons (se_blt (call_repr gd hu) d_repr rfl t.z_repr PyProof.Rows.Boot.«repr» (sa_cons (se_v (pv 1)) sa_nil)) sa_nil)))) (sw_or1 (st_cmp (op_neA hu) d_neA (se_call (ms := [false, false]) (dfl := []) (dvs := []) (ok_law_told t) tk (hr.mono (by decide)) gd rfl t.g_law_told t.k_law_told (bd_law_told t) (fun _ => RpL.nil) (sa_cons (se_str (l := [65, 97]) rfl) (sa_cons (se_v (pv 1)) sa_nil)) (ar_cons (ar_cons ar_nil))) (se_lst (sa_cons (se_str (l := [119, 111, 114, 100]) rfl) (sa_cons (se_blt (call_repr gd hu) d_repr rfl t.z_repr PyProof.Rows.Boot.«repr» (sa_cons (se_v (pv 1)) sa_nil)) sa_nil))))))) (ss_one (ss_ret se_bl)) ss_nil)))
    (ss_cons (ss_if (st_cmp (op_neA hu) d_neA (se_call (ms := [false, false]) (dfl := []) (dvs := []) (ok_law_told t) tk (hr.mono (by decide)) gd rfl t.g_law_told t.k_law_told (bd_law_told t) (fun _ => RpL.nil) (sa_cons (se_str (l := [97, 65]) rfl) (sa_cons (se_str (l := [65]) rfl) sa_nil)) (ar_cons (ar_cons ar_nil))) (se_lst (sa_cons (se_str (l := [119, 111, 114, 100]) rfl) (sa_cons (se_str (l := [39, 65, 39]) rfl) sa_nil)))) (ss_one (ss_ret se_bl)) ss_nil)
    (ss_cons (ss_for hp rfl (si_rg1 rfl t.z_range (sa_cons (se_blt (call_max2 rfl) d_max2 rfl t.z_max PyProof.Rows.Boot.«max» (sa_cons se_int (sa_cons (se_blt (call_min2 rfl) d_min2 rfl t.z_min PyProof.Rows.Boot.«min» (sa_cons se_int (sa_cons (se_blt call_len d_len rfl t.z_len PyProof.Rows.Boot.«len» (sa_cons (se_v (pv 0)) sa_nil)) sa_nil))) sa_nil))) sa_nil)) (tg_n (pg_name (i := 2) sc_law.nd rfl (by first | exact .inl rfl | exact .inr rfl))) (ss_cons (ss_set (i := 3) sc_law.nd rfl (by first | exact .inl rfl | exact .inr rfl) (se_call (ms := [false, false]) (dfl := []) (dvs := []) (ok_law_pool t) tk (hr.mono (by decide)) gd rfl t.g_law_pool t.k_law_pool (bd_law_pool t) (fun _ => RpL.nil) (sa_cons (se_v (pv 0)) (sa_cons (se_v (pv 2)) sa_nil)) (ar_cons (ar_cons ar_nil))))
    (ss_cons (ss_set (i := 4) sc_law.nd rfl (by first | exact .inl rfl | exact .inr rfl) (se_call (ms := [true]) (dfl := []) (dvs := []) (ok_law_letters t) tk (hr.mono (by decide)) gd rfl t.g_law_letters t.k_law_letters (bd_law_letters t) (fun _ => RpL.nil) (sa_cons (se_v (pv 3)) sa_nil) (ar_cons ar_nil)))
    (ss_cons (ss_if (st_not (st_val (se_call (ms := [true, false, false]) (dfl := []) (dvs := []) (ok_law_long t) tk (hr.mono (by decide)) gd rfl t.g_law_long t.k_law_long (bd_law_long t) (fun _ => RpL.nil) (sa_cons (se_v (pv 3)) (sa_cons (se_ix rfl (se_v (pv 4)) se_int) (sa_cons (se_ix rfl (se_str (l := [97, 98, 99, 100, 101, 102, 103, 104]) rfl) (se_op op_mod d_mod (se_op op_addA d_add (se_mt (fun u v h k => pe_bm PySem.F.plainAttrs_str PySem.F.slot_str_index PySem.F.type_str_index mt_sindex h k) d_index (se_str (l := [97, 98, 99, 100, 101, 102, 103, 104]) rfl) (sa_cons (se_ix rfl (se_v (pv 4)) se_int) sa_nil)) se_int) se_int)) sa_nil))) (ar_cons (ar_cons (ar_cons ar_nil)))))) (ss_one (ss_ret se_bl)) ss_nil)
    (ss_one (ss_for hp rfl (si_rg1 rfl t.z_range (sa_cons se_int sa_nil)) (tg_n (pg_name (i := 5) sc_law.nd rfl (by first | exact .inl rfl | exact .inr rfl))) (ss_cons (ss_set (i := 6) sc_law.nd rfl (by first | exact .inl rfl | exact .inr rfl) (se_call (ms := [true, false, false]) (dfl := []) (dvs := []) (ok_law_items t) tk (hr.mono (by decide)) gd rfl t.g_law_items t.k_law_items (bd_law_items t) (fun _ => RpL.nil) (sa_cons (se_v (pv 3)) (sa_cons (se_v (pv 4)) (sa_cons se_int sa_nil))) (ar_cons (ar_cons (ar_cons ar_nil)))))
    (ss_cons (ss_set (i := 7) sc_law.nd rfl (by first | exact .inl rfl | exact .inr rfl) (se_call (ms := [true, false, false]) (dfl := []) (dvs := []) (ok_law_items t) tk (hr.mono (by decide)) gd rfl t.g_law_items t.k_law_items (bd_law_items t) (fun _ => RpL.nil) (sa_cons (se_v (pv 3)) (sa_cons (se_op op_addA d_add (se_v (pv 4)) (se_mt0 (fun u h => pe_bm0 PySem.F.plainAttrs_str PySem.F.slot_str_upper PySem.F.type_str_upper mt_upper h) d_upper (se_v (pv 4)))) (sa_cons se_int sa_nil))) (ar_cons (ar_cons (ar_cons ar_nil)))))
    (ss_one (ss_if (st_cmp (op_neA hu) d_neA (se_call (ms := [false, false]) (dfl := []) (dvs := []) (ok_law_told t) tk (hr.mono (by decide)) gd rfl t.g_law_told t.k_law_told (bd_law_told t) (fun _ => RpL.nil) (sa_cons (se_v (pv 7)) (sa_cons (se_v (pv 6)) sa_nil)) (ar_cons (ar_cons ar_nil))) (se_call (ms := [false, false]) (dfl := []) (dvs := []) (ok_law_due t) tk (hr.mono (by decide)) gd rfl t.g_law_due t.k_law_due (bd_law_due t) (fun _ => RpL.nil) (sa_cons (se_v (pv 7)) (sa_cons (se_v (pv 6)) sa_nil)) (ar_cons (ar_cons ar_nil)))) (ss_one (ss_ret se_bl)) ss_nil))))))))))
    (ss_cons (ss_if (st_w (sw_or (st_cmp (op_neA hu) d_neA (se_call (ms := [false, false]) (dfl := []) (dvs := []) (ok_best_result t) tk (hr.mono (by decide)) gd rfl t.g_best_result t.k_best_result (bd_best_result t) (fun _ => RpL.nil) (sa_cons (se_op op_mulA d_mul (se_str (l := [97]) rfl) se_int) (sa_cons (se_op op_mulA d_mul (se_str (l := [98]) rfl) se_int) sa_nil)) (ar_cons (ar_cons ar_nil))) (se_op op_addA d_add (se_op op_mulA d_mul (se_str (l := [98]) rfl) se_int) (se_op op_mulA d_mul (se_str (l := [97]) rfl) se_int))) (sw_or1 (st_cmp (op_neA hu) d_neA (se_call (ms := [false, false]) (dfl := []) (dvs := []) (ok_best_result t) tk (hr.mono (by decide)) gd rfl t.g_best_result t.k_best_result (bd_best_result t) (fun _ => RpL.nil) (sa_cons (se_str (l := []) rfl) (sa_cons (se_str (l := []) rfl) sa_nil)) (ar_cons (ar_cons ar_nil))) (se_str (l := []) rfl))))) (ss_one (ss_ret se_bl)) ss_nil)
    (ss_one (ss_ret (se_cmp (op_eqA hu) d_eqA (se_callK0 (ks := ["queue", "program"]) (perm := permL [1, 0]) (g := permL [1, 0]) (gV := permL [1, 0]) (ok_best_result t) tk (hr.mono (by decide)) gd rfl t.g_best_result t.k_best_result (Bd.kw t.F_best_result fun _ _ _ _ _ _ ws hl => match ws, hl with | [_, _], _ => rfl) (fun G ds xs r l => rpl_perm r [1, 0] (by rw [l]; decide)) (sk_cons (se_str (l := [98, 97, 98]) rfl) (sk_cons (se_str (l := [97, 66, 99]) rfl) sk_nil)) (ar_cons (ar_cons ar_nil))) (se_str (l := [97, 98, 97, 99]) rfl))))))))⟩
end
theorem all_mk {l : PySem.W.OpenLaw} {w : World} {K : PySem.W.Frag} {h : Heap} {mg : Str → Option Value} {fa : Addr} (X : K.In h) (G : h.Ns mainGlobals mg) (hfa : mg "law" = some (.ref fa))
    {tk_ITEMS : Tok}
    {tk_MAX_ITEMS : Tok}
    {tk_MAX_STEPS : Tok}
    {a_LeakError : Addr}
    {a_InvalidWord : Addr}
    {a_InvalidProgram : Addr}
    {a_LimitExceeded : Addr}
    {nm_InvalidWord q_InvalidWord : Str} {N_InvalidWord : Addr} {bs_InvalidWord sub_InvalidWord bm_InvalidWord : List Value} {sn_InvalidWord : List Str} {ab_InvalidWord : Bool} {col_InvalidWord : Option Bool} {dd_InvalidWord : Option Addr} {m0_InvalidWord m1_InvalidWord m2_InvalidWord m3_InvalidWord m5_InvalidWord : Option Value}
    {ai_InvalidWord : Addr} {oi_InvalidWord vi_InvalidWord di_InvalidWord pi_InvalidWord ci_InvalidWord ti_InvalidWord : Value} {odi_InvalidWord ani_InvalidWord : Option Addr} {sli_InvalidWord : Array (Option Value)}
    {nm_InvalidProgram q_InvalidProgram : Str} {N_InvalidProgram : Addr} {bs_InvalidProgram sub_InvalidProgram bm_InvalidProgram : List Value} {sn_InvalidProgram : List Str} {ab_InvalidProgram : Bool} {col_InvalidProgram : Option Bool} {dd_InvalidProgram : Option Addr} {m0_InvalidProgram m1_InvalidProgram m2_InvalidProgram m3_InvalidProgram m5_InvalidProgram : Option Value}
    {ai_InvalidProgram : Addr} {oi_InvalidProgram vi_InvalidProgram di_InvalidProgram pi_InvalidProgram ci_InvalidProgram ti_InvalidProgram : Value} {odi_InvalidProgram ani_InvalidProgram : Option Addr} {sli_InvalidProgram : Array (Option Value)}
    {nm_LimitExceeded q_LimitExceeded : Str} {N_LimitExceeded : Addr} {bs_LimitExceeded sub_LimitExceeded bm_LimitExceeded : List Value} {sn_LimitExceeded : List Str} {ab_LimitExceeded : Bool} {col_LimitExceeded : Option Bool} {dd_LimitExceeded : Option Addr} {m0_LimitExceeded m1_LimitExceeded m2_LimitExceeded m3_LimitExceeded m5_LimitExceeded : Option Value}
    {ai_LimitExceeded : Addr} {oi_LimitExceeded vi_LimitExceeded di_LimitExceeded pi_LimitExceeded ci_LimitExceeded ti_LimitExceeded : Value} {odi_LimitExceeded ani_LimitExceeded : Option Addr} {sli_LimitExceeded : Array (Option Value)}
    {a_is_word : Addr} {o_is_word v_is_word d_is_word p_is_word c_is_word y_is_word : Value} {od_is_word an_is_word : Option Addr} {sl_is_word : Array (Option Value)}
    {a_require_word : Addr} {o_require_word v_require_word d_require_word p_require_word c_require_word y_require_word : Value} {od_require_word an_require_word : Option Addr} {sl_require_word : Array (Option Value)}
    {a_is_program : Addr} {o_is_program v_is_program d_is_program p_is_program c_is_program y_is_program : Value} {od_is_program an_is_program : Option Addr} {sl_is_program : Array (Option Value)}
    {a_require_program : Addr} {o_require_program v_require_program d_require_program p_require_program c_require_program y_require_program : Value} {od_require_program an_require_program : Option Addr} {sl_require_program : Array (Option Value)}
    {a_best : Addr} {o_best v_best d_best p_best c_best y_best : Value} {od_best an_best : Option Addr} {sl_best : Array (Option Value)}
    {a_limited : Addr} {o_limited v_limited d_limited p_limited c_limited y_limited : Value} {od_limited an_limited : Option Addr} {sl_limited : Array (Option Value)}
    {a_best_result : Addr} {o_best_result v_best_result d_best_result p_best_result c_best_result y_best_result : Value} {od_best_result an_best_result : Option Addr} {sl_best_result : Array (Option Value)}
    {a_law_pool : Addr} {o_law_pool v_law_pool d_law_pool p_law_pool c_law_pool y_law_pool : Value} {od_law_pool an_law_pool : Option Addr} {sl_law_pool : Array (Option Value)}
    {a_law_draw : Addr} {o_law_draw v_law_draw d_law_draw p_law_draw c_law_draw y_law_draw : Value} {od_law_draw an_law_draw : Option Addr} {sl_law_draw : Array (Option Value)}
    {a_law_letters : Addr} {o_law_letters v_law_letters d_law_letters p_law_letters c_law_letters y_law_letters : Value} {od_law_letters an_law_letters : Option Addr} {sl_law_letters : Array (Option Value)}
    {a_law_items : Addr} {o_law_items v_law_items d_law_items p_law_items c_law_items y_law_items : Value} {od_law_items an_law_items : Option Addr} {sl_law_items : Array (Option Value)}
    {a_law_best : Addr} {o_law_best v_law_best d_law_best p_law_best c_law_best y_law_best : Value} {od_law_best an_law_best : Option Addr} {sl_law_best : Array (Option Value)}
    {a_law_told : Addr} {o_law_told v_law_told d_law_told p_law_told c_law_told y_law_told : Value} {od_law_told an_law_told : Option Addr} {sl_law_told : Array (Option Value)}
    {a_law_due : Addr} {o_law_due v_law_due d_law_due p_law_due c_law_due y_law_due : Value} {od_law_due an_law_due : Option Addr} {sl_law_due : Array (Option Value)}
    {a_law_long : Addr} {o_law_long v_law_long d_law_long p_law_long c_law_long y_law_long : Value} {od_law_long an_law_long : Option Addr} {sl_law_long : Array (Option Value)}
    {a_law : Addr} {o_law v_law d_law p_law c_law y_law : Value} {od_law an_law : Option Addr} {sl_law : Array (Option Value)}
    (z_OverflowError : PySem.W.nsIn K mainGlobals "OverflowError" = some none)
    (z_all : PySem.W.nsIn K mainGlobals "all" = some none)
    (z_int : PySem.W.nsIn K mainGlobals "int" = some none)
    (z_isinstance : PySem.W.nsIn K mainGlobals "isinstance" = some none)
    (z_len : PySem.W.nsIn K mainGlobals "len" = some none)
    (z_list : PySem.W.nsIn K mainGlobals "list" = some none)
    (z_max : PySem.W.nsIn K mainGlobals "max" = some none)
    (z_min : PySem.W.nsIn K mainGlobals "min" = some none)
    (z_range : PySem.W.nsIn K mainGlobals "range" = some none)
    (z_repr : PySem.W.nsIn K mainGlobals "repr" = some none)
    (z_str : PySem.W.nsIn K mainGlobals "str" = some none)
    (g_ITEMS : PySem.W.nsIn K mainGlobals "ITEMS" = some (some (.str "abcdefgh" tk_ITEMS)))
    (g_MAX_ITEMS : PySem.W.nsIn K mainGlobals "MAX_ITEMS" = some (some (.int 400 tk_MAX_ITEMS)))
    (g_MAX_STEPS : PySem.W.nsIn K mainGlobals "MAX_STEPS" = some (some (.int 400 tk_MAX_STEPS)))
    (g_LeakError : PySem.W.nsIn K mainGlobals "LeakError" = some (some (.ref a_LeakError)))
    (g_InvalidWord : PySem.W.nsIn K mainGlobals "InvalidWord" = some (some (.ref a_InvalidWord)))
    (g_InvalidProgram : PySem.W.nsIn K mainGlobals "InvalidProgram" = some (some (.ref a_InvalidProgram)))
    (g_LimitExceeded : PySem.W.nsIn K mainGlobals "LimitExceeded" = some (some (.ref a_LimitExceeded)))
    (ex_LeakError : PySem.W.subIn K (.ref a_LeakError) (.type "BaseException") = some true)
    (ty_LeakError : PySem.W.typeIn K (.ref a_LeakError) = some (.type "type"))
    (hd_LeakError : PySem.W.hasDictIn K a_LeakError = true)
    (ex_InvalidWord : PySem.W.subIn K (.ref a_InvalidWord) (.type "BaseException") = some true)
    (ty_InvalidWord : PySem.W.typeIn K (.ref a_InvalidWord) = some (.type "type"))
    (hd_InvalidWord : PySem.W.hasDictIn K a_InvalidWord = true)
    (ex_InvalidProgram : PySem.W.subIn K (.ref a_InvalidProgram) (.type "BaseException") = some true)
    (ty_InvalidProgram : PySem.W.typeIn K (.ref a_InvalidProgram) = some (.type "type"))
    (hd_InvalidProgram : PySem.W.hasDictIn K a_InvalidProgram = true)
    (ex_LimitExceeded : PySem.W.subIn K (.ref a_LimitExceeded) (.type "BaseException") = some true)
    (ty_LimitExceeded : PySem.W.typeIn K (.ref a_LimitExceeded) = some (.type "type"))
    (hd_LimitExceeded : PySem.W.hasDictIn K a_LimitExceeded = true)
    (xL_InvalidWord : K.lookup a_InvalidWord = some (excClassObj nm_InvalidWord q_InvalidWord a_InvalidWord N_InvalidWord bs_InvalidWord bm_InvalidWord true sn_InvalidWord sub_InvalidWord ab_InvalidWord col_InvalidWord dd_InvalidWord m0_InvalidWord m1_InvalidWord m2_InvalidWord m3_InvalidWord m5_InvalidWord "ValueError.__new__"))
    (ln_InvalidWord : bm_InvalidWord = [a_LeakError].map Value.ref ++ tl_value)
    (sa_InvalidWord : PySem.W.findIn K (.ref a_InvalidWord) "__setattr__" = some (some (.builtin "object.__setattr__")))
    (kp_InvalidWord : PySem.W.keepIn K (.ref a_InvalidWord) = true)
    (no_InvalidWord : PySem.W.findIn K (.ref a_InvalidWord) "value" = some none)
    (i_InvalidWord : PySem.W.findIn K (.ref a_InvalidWord) "__init__" = some (some (.ref ai_InvalidWord)))
    (j_InvalidWord : PySem.W.typeIn K (.ref ai_InvalidWord) = some (.type "function"))
    (li_InvalidWord : K.lookup ai_InvalidWord = some ⟨oi_InvalidWord, odi_InvalidWord, .func (PySem.W.fnOf "__init__" "InvalidWord.__init__" (defArgs s_InvalidWord_init) (defBody s_InvalidWord_init) (defScope s_InvalidWord_init) .none vi_InvalidWord di_InvalidWord pi_InvalidWord ani_InvalidWord ci_InvalidWord ti_InvalidWord), sli_InvalidWord⟩)
    (cdi_InvalidWord : PySem.W.codeIn K ci_InvalidWord "InvalidWord.__init__" = true)
    (ki_InvalidWord : PySem.W.keepIn K (.ref ai_InvalidWord) = true)
    (ga_InvalidWord : PySem.W.findIn K (.ref a_InvalidWord) "__getattribute__" = some (some (.builtin "BaseException.__getattribute__")))
    (gg_InvalidWord : PySem.W.findIn K (.ref a_InvalidWord) "__getattr__" = some none)
    (kl_InvalidWord : PySem.W.findIn K (.ref a_InvalidWord) "__class__" = some (some (.builtin "object.__class__")))
    (gt_InvalidWord : PySem.W.specialIn K (.builtin "object.__class__") "__get__" = some (some (.builtin "getset_descriptor.__get__")))
    (tk_InvalidWord : PySem.W.takesIn K (.builtin "object.__class__") = some true)
    (ob_InvalidWord : PySem.W.mroIn K a_InvalidWord (.type "object") = some true)
    (h1_InvalidWord : PySem.W.specialIn K (.ref a_LeakError) "__getattribute__" = some (some (.builtin "type.__getattribute__")))
    (h2_InvalidWord : PySem.W.readsIn K a_LeakError (.type "type") = true)
    (h3_InvalidWord : PySem.W.findCls K (.ref a_LeakError) (.type "type") "__init__" = some (.val (.builtin "ValueError.__init__")))
    (xL_InvalidProgram : K.lookup a_InvalidProgram = some (excClassObj nm_InvalidProgram q_InvalidProgram a_InvalidProgram N_InvalidProgram bs_InvalidProgram bm_InvalidProgram true sn_InvalidProgram sub_InvalidProgram ab_InvalidProgram col_InvalidProgram dd_InvalidProgram m0_InvalidProgram m1_InvalidProgram m2_InvalidProgram m3_InvalidProgram m5_InvalidProgram "ValueError.__new__"))
    (ln_InvalidProgram : bm_InvalidProgram = [a_LeakError].map Value.ref ++ tl_value)
    (sa_InvalidProgram : PySem.W.findIn K (.ref a_InvalidProgram) "__setattr__" = some (some (.builtin "object.__setattr__")))
    (kp_InvalidProgram : PySem.W.keepIn K (.ref a_InvalidProgram) = true)
    (no_InvalidProgram : PySem.W.findIn K (.ref a_InvalidProgram) "value" = some none)
    (i_InvalidProgram : PySem.W.findIn K (.ref a_InvalidProgram) "__init__" = some (some (.ref ai_InvalidProgram)))
    (j_InvalidProgram : PySem.W.typeIn K (.ref ai_InvalidProgram) = some (.type "function"))
    (li_InvalidProgram : K.lookup ai_InvalidProgram = some ⟨oi_InvalidProgram, odi_InvalidProgram, .func (PySem.W.fnOf "__init__" "InvalidProgram.__init__" (defArgs s_InvalidProgram_init) (defBody s_InvalidProgram_init) (defScope s_InvalidProgram_init) .none vi_InvalidProgram di_InvalidProgram pi_InvalidProgram ani_InvalidProgram ci_InvalidProgram ti_InvalidProgram), sli_InvalidProgram⟩)
    (cdi_InvalidProgram : PySem.W.codeIn K ci_InvalidProgram "InvalidProgram.__init__" = true)
    (ki_InvalidProgram : PySem.W.keepIn K (.ref ai_InvalidProgram) = true)
    (ga_InvalidProgram : PySem.W.findIn K (.ref a_InvalidProgram) "__getattribute__" = some (some (.builtin "BaseException.__getattribute__")))
    (gg_InvalidProgram : PySem.W.findIn K (.ref a_InvalidProgram) "__getattr__" = some none)
    (kl_InvalidProgram : PySem.W.findIn K (.ref a_InvalidProgram) "__class__" = some (some (.builtin "object.__class__")))
    (gt_InvalidProgram : PySem.W.specialIn K (.builtin "object.__class__") "__get__" = some (some (.builtin "getset_descriptor.__get__")))
    (tk_InvalidProgram : PySem.W.takesIn K (.builtin "object.__class__") = some true)
    (ob_InvalidProgram : PySem.W.mroIn K a_InvalidProgram (.type "object") = some true)
    (h1_InvalidProgram : PySem.W.specialIn K (.ref a_LeakError) "__getattribute__" = some (some (.builtin "type.__getattribute__")))
    (h2_InvalidProgram : PySem.W.readsIn K a_LeakError (.type "type") = true)
    (h3_InvalidProgram : PySem.W.findCls K (.ref a_LeakError) (.type "type") "__init__" = some (.val (.builtin "ValueError.__init__")))
    (xL_LimitExceeded : K.lookup a_LimitExceeded = some (excClassObj nm_LimitExceeded q_LimitExceeded a_LimitExceeded N_LimitExceeded bs_LimitExceeded bm_LimitExceeded true sn_LimitExceeded sub_LimitExceeded ab_LimitExceeded col_LimitExceeded dd_LimitExceeded m0_LimitExceeded m1_LimitExceeded m2_LimitExceeded m3_LimitExceeded m5_LimitExceeded "OverflowError.__new__"))
    (ln_LimitExceeded : bm_LimitExceeded = [].map Value.ref ++ tl_overflow)
    (sa_LimitExceeded : PySem.W.findIn K (.ref a_LimitExceeded) "__setattr__" = some (some (.builtin "object.__setattr__")))
    (kp_LimitExceeded : PySem.W.keepIn K (.ref a_LimitExceeded) = true)
    (no_LimitExceeded : PySem.W.findIn K (.ref a_LimitExceeded) "limit" = some none)
    (i_LimitExceeded : PySem.W.findIn K (.ref a_LimitExceeded) "__init__" = some (some (.ref ai_LimitExceeded)))
    (j_LimitExceeded : PySem.W.typeIn K (.ref ai_LimitExceeded) = some (.type "function"))
    (li_LimitExceeded : K.lookup ai_LimitExceeded = some ⟨oi_LimitExceeded, odi_LimitExceeded, .func (PySem.W.fnOf "__init__" "LimitExceeded.__init__" (defArgs s_LimitExceeded_init) (defBody s_LimitExceeded_init) (defScope s_LimitExceeded_init) .none vi_LimitExceeded di_LimitExceeded pi_LimitExceeded ani_LimitExceeded ci_LimitExceeded ti_LimitExceeded), sli_LimitExceeded⟩)
    (cdi_LimitExceeded : PySem.W.codeIn K ci_LimitExceeded "LimitExceeded.__init__" = true)
    (ki_LimitExceeded : PySem.W.keepIn K (.ref ai_LimitExceeded) = true)
    (ga_LimitExceeded : PySem.W.findIn K (.ref a_LimitExceeded) "__getattribute__" = some (some (.builtin "BaseException.__getattribute__")))
    (gg_LimitExceeded : PySem.W.findIn K (.ref a_LimitExceeded) "__getattr__" = some none)
    (kl_LimitExceeded : PySem.W.findIn K (.ref a_LimitExceeded) "__class__" = some (some (.builtin "object.__class__")))
    (gt_LimitExceeded : PySem.W.specialIn K (.builtin "object.__class__") "__get__" = some (some (.builtin "getset_descriptor.__get__")))
    (tk_LimitExceeded : PySem.W.takesIn K (.builtin "object.__class__") = some true)
    (ob_LimitExceeded : PySem.W.mroIn K a_LimitExceeded (.type "object") = some true)
    (h3_LimitExceeded : PySem.W.findCls K (.type "OverflowError") (.type "type") "__init__" = some (.val (.builtin "OverflowError.__init__")))
    (e_0_1 : PySem.W.subIn K (.ref a_LeakError) (.ref a_InvalidWord) = some false)
    (e_1_1 : PySem.W.subIn K (.ref a_InvalidWord) (.ref a_InvalidWord) = some true)
    (e_2_1 : PySem.W.subIn K (.ref a_InvalidProgram) (.ref a_InvalidWord) = some false)
    (e_3_1 : PySem.W.subIn K (.ref a_LimitExceeded) (.ref a_InvalidWord) = some false)
    (e_0_2 : PySem.W.subIn K (.ref a_LeakError) (.ref a_InvalidProgram) = some false)
    (e_1_2 : PySem.W.subIn K (.ref a_InvalidWord) (.ref a_InvalidProgram) = some false)
    (e_2_2 : PySem.W.subIn K (.ref a_InvalidProgram) (.ref a_InvalidProgram) = some true)
    (e_3_2 : PySem.W.subIn K (.ref a_LimitExceeded) (.ref a_InvalidProgram) = some false)
    (e_0_3 : PySem.W.subIn K (.ref a_LeakError) (.ref a_LimitExceeded) = some false)
    (e_1_3 : PySem.W.subIn K (.ref a_InvalidWord) (.ref a_LimitExceeded) = some false)
    (e_2_3 : PySem.W.subIn K (.ref a_InvalidProgram) (.ref a_LimitExceeded) = some false)
    (e_3_3 : PySem.W.subIn K (.ref a_LimitExceeded) (.ref a_LimitExceeded) = some true)
    (kit_LimitExceeded_OverflowError : PySem.W.subIn K (.ref a_LimitExceeded) (.type "OverflowError") = some true)
    (g_is_word : PySem.W.nsIn K mainGlobals "is_word" = some (some (.ref a_is_word)))
    (l_is_word : K.lookup a_is_word = some ⟨o_is_word, od_is_word, .func (PySem.W.fnOf "is_word" "is_word" (defArgs s_is_word) (defBody s_is_word) (defScope s_is_word) .none v_is_word d_is_word p_is_word an_is_word c_is_word y_is_word), sl_is_word⟩)
    (cd_is_word : PySem.W.codeIn K c_is_word "is_word" = true)
    (k_is_word : PySem.W.keepIn K (.ref a_is_word) = true)
    (g_require_word : PySem.W.nsIn K mainGlobals "require_word" = some (some (.ref a_require_word)))
    (l_require_word : K.lookup a_require_word = some ⟨o_require_word, od_require_word, .func (PySem.W.fnOf "require_word" "require_word" (defArgs s_require_word) (defBody s_require_word) (defScope s_require_word) .none v_require_word d_require_word p_require_word an_require_word c_require_word y_require_word), sl_require_word⟩)
    (cd_require_word : PySem.W.codeIn K c_require_word "require_word" = true)
    (k_require_word : PySem.W.keepIn K (.ref a_require_word) = true)
    (g_is_program : PySem.W.nsIn K mainGlobals "is_program" = some (some (.ref a_is_program)))
    (l_is_program : K.lookup a_is_program = some ⟨o_is_program, od_is_program, .func (PySem.W.fnOf "is_program" "is_program" (defArgs s_is_program) (defBody s_is_program) (defScope s_is_program) .none v_is_program d_is_program p_is_program an_is_program c_is_program y_is_program), sl_is_program⟩)
    (cd_is_program : PySem.W.codeIn K c_is_program "is_program" = true)
    (k_is_program : PySem.W.keepIn K (.ref a_is_program) = true)
    (g_require_program : PySem.W.nsIn K mainGlobals "require_program" = some (some (.ref a_require_program)))
    (l_require_program : K.lookup a_require_program = some ⟨o_require_program, od_require_program, .func (PySem.W.fnOf "require_program" "require_program" (defArgs s_require_program) (defBody s_require_program) (defScope s_require_program) .none v_require_program d_require_program p_require_program an_require_program c_require_program y_require_program), sl_require_program⟩)
    (cd_require_program : PySem.W.codeIn K c_require_program "require_program" = true)
    (k_require_program : PySem.W.keepIn K (.ref a_require_program) = true)
    (g_best : PySem.W.nsIn K mainGlobals "best" = some (some (.ref a_best)))
    (l_best : K.lookup a_best = some ⟨o_best, od_best, .func (PySem.W.fnOf "best" "best" (defArgs s_best) (defBody s_best) (defScope s_best) .none v_best d_best p_best an_best c_best y_best), sl_best⟩)
    (cd_best : PySem.W.codeIn K c_best "best" = true)
    (k_best : PySem.W.keepIn K (.ref a_best) = true)
    (g_limited : PySem.W.nsIn K mainGlobals "limited" = some (some (.ref a_limited)))
    (l_limited : K.lookup a_limited = some ⟨o_limited, od_limited, .func (PySem.W.fnOf "limited" "limited" (defArgs s_limited) (defBody s_limited) (defScope s_limited) .none v_limited d_limited p_limited an_limited c_limited y_limited), sl_limited⟩)
    (cd_limited : PySem.W.codeIn K c_limited "limited" = true)
    (k_limited : PySem.W.keepIn K (.ref a_limited) = true)
    (g_best_result : PySem.W.nsIn K mainGlobals "best_result" = some (some (.ref a_best_result)))
    (l_best_result : K.lookup a_best_result = some ⟨o_best_result, od_best_result, .func (PySem.W.fnOf "best_result" "best_result" (defArgs s_best_result) (defBody s_best_result) (defScope s_best_result) .none v_best_result d_best_result p_best_result an_best_result c_best_result y_best_result), sl_best_result⟩)
    (cd_best_result : PySem.W.codeIn K c_best_result "best_result" = true)
    (k_best_result : PySem.W.keepIn K (.ref a_best_result) = true)
    (g_law_pool : PySem.W.nsIn K mainGlobals "_law_pool" = some (some (.ref a_law_pool)))
    (l_law_pool : K.lookup a_law_pool = some ⟨o_law_pool, od_law_pool, .func (PySem.W.fnOf "_law_pool" "_law_pool" (defArgs s_law_pool) (defBody s_law_pool) (defScope s_law_pool) .none v_law_pool d_law_pool p_law_pool an_law_pool c_law_pool y_law_pool), sl_law_pool⟩)
    (cd_law_pool : PySem.W.codeIn K c_law_pool "_law_pool" = true)
    (k_law_pool : PySem.W.keepIn K (.ref a_law_pool) = true)
    (g_law_draw : PySem.W.nsIn K mainGlobals "_law_draw" = some (some (.ref a_law_draw)))
    (l_law_draw : K.lookup a_law_draw = some ⟨o_law_draw, od_law_draw, .func (PySem.W.fnOf "_law_draw" "_law_draw" (defArgs s_law_draw) (defBody s_law_draw) (defScope s_law_draw) .none v_law_draw d_law_draw p_law_draw an_law_draw c_law_draw y_law_draw), sl_law_draw⟩)
    (cd_law_draw : PySem.W.codeIn K c_law_draw "_law_draw" = true)
    (k_law_draw : PySem.W.keepIn K (.ref a_law_draw) = true)
    (g_law_letters : PySem.W.nsIn K mainGlobals "_law_letters" = some (some (.ref a_law_letters)))
    (l_law_letters : K.lookup a_law_letters = some ⟨o_law_letters, od_law_letters, .func (PySem.W.fnOf "_law_letters" "_law_letters" (defArgs s_law_letters) (defBody s_law_letters) (defScope s_law_letters) .none v_law_letters d_law_letters p_law_letters an_law_letters c_law_letters y_law_letters), sl_law_letters⟩)
    (cd_law_letters : PySem.W.codeIn K c_law_letters "_law_letters" = true)
    (k_law_letters : PySem.W.keepIn K (.ref a_law_letters) = true)
    (g_law_items : PySem.W.nsIn K mainGlobals "_law_items" = some (some (.ref a_law_items)))
    (l_law_items : K.lookup a_law_items = some ⟨o_law_items, od_law_items, .func (PySem.W.fnOf "_law_items" "_law_items" (defArgs s_law_items) (defBody s_law_items) (defScope s_law_items) .none v_law_items d_law_items p_law_items an_law_items c_law_items y_law_items), sl_law_items⟩)
    (cd_law_items : PySem.W.codeIn K c_law_items "_law_items" = true)
    (k_law_items : PySem.W.keepIn K (.ref a_law_items) = true)
    (g_law_best : PySem.W.nsIn K mainGlobals "_law_best" = some (some (.ref a_law_best)))
    (l_law_best : K.lookup a_law_best = some ⟨o_law_best, od_law_best, .func (PySem.W.fnOf "_law_best" "_law_best" (defArgs s_law_best) (defBody s_law_best) (defScope s_law_best) .none v_law_best d_law_best p_law_best an_law_best c_law_best y_law_best), sl_law_best⟩)
    (cd_law_best : PySem.W.codeIn K c_law_best "_law_best" = true)
    (k_law_best : PySem.W.keepIn K (.ref a_law_best) = true)
    (g_law_told : PySem.W.nsIn K mainGlobals "_law_told" = some (some (.ref a_law_told)))
    (l_law_told : K.lookup a_law_told = some ⟨o_law_told, od_law_told, .func (PySem.W.fnOf "_law_told" "_law_told" (defArgs s_law_told) (defBody s_law_told) (defScope s_law_told) .none v_law_told d_law_told p_law_told an_law_told c_law_told y_law_told), sl_law_told⟩)
    (cd_law_told : PySem.W.codeIn K c_law_told "_law_told" = true)
    (k_law_told : PySem.W.keepIn K (.ref a_law_told) = true)
    (g_law_due : PySem.W.nsIn K mainGlobals "_law_due" = some (some (.ref a_law_due)))
    (l_law_due : K.lookup a_law_due = some ⟨o_law_due, od_law_due, .func (PySem.W.fnOf "_law_due" "_law_due" (defArgs s_law_due) (defBody s_law_due) (defScope s_law_due) .none v_law_due d_law_due p_law_due an_law_due c_law_due y_law_due), sl_law_due⟩)
    (cd_law_due : PySem.W.codeIn K c_law_due "_law_due" = true)
    (k_law_due : PySem.W.keepIn K (.ref a_law_due) = true)
    (g_law_long : PySem.W.nsIn K mainGlobals "_law_long" = some (some (.ref a_law_long)))
    (l_law_long : K.lookup a_law_long = some ⟨o_law_long, od_law_long, .func (PySem.W.fnOf "_law_long" "_law_long" (defArgs s_law_long) (defBody s_law_long) (defScope s_law_long) .none v_law_long d_law_long p_law_long an_law_long c_law_long y_law_long), sl_law_long⟩)
    (cd_law_long : PySem.W.codeIn K c_law_long "_law_long" = true)
    (k_law_long : PySem.W.keepIn K (.ref a_law_long) = true)
    (g_law : PySem.W.nsIn K mainGlobals "law" = some (some (.ref a_law)))
    (l_law : K.lookup a_law = some ⟨o_law, od_law, .func (PySem.W.fnOf "law" "law" (defArgs s_law) (defBody s_law) (defScope s_law) .none v_law d_law p_law an_law c_law y_law), sl_law⟩)
    (cd_law : PySem.W.codeIn K c_law "law" = true)
    (k_law : PySem.W.keepIn K (.ref a_law) = true)
    (law_ok : LawOk 63 m_law) : ∃ fd : FuncData, (∀ (s : Shared) (u : Value), BindsTo s fd ⟨[u], []⟩ [("_law_script", u)]) ∧ ∀ base : Heap, K.In base → base.Ns mainGlobals mg → FnG l.prog w K mg base 8 fa fd ["_law_script"] (spLaw 63 K) := by
  have same := hfa.symm.trans (PySem.W.mg_of X G g_law)
  cases same
  have t : ∃ t : Txt K mg, t.a_law = fa ∧ t.fd_law = PySem.W.fnOf "law" "law" (defArgs s_law) (defBody s_law) (defScope s_law) .none v_law d_law p_law an_law c_law y_law := ⟨{
    z_OverflowError := PySem.W.mg_none_of X G z_OverflowError
    z_all := PySem.W.mg_none_of X G z_all
    z_int := PySem.W.mg_none_of X G z_int
    z_isinstance := PySem.W.mg_none_of X G z_isinstance
    z_len := PySem.W.mg_none_of X G z_len
    z_list := PySem.W.mg_none_of X G z_list
    z_max := PySem.W.mg_none_of X G z_max
    z_min := PySem.W.mg_none_of X G z_min
    z_range := PySem.W.mg_none_of X G z_range
    z_repr := PySem.W.mg_none_of X G z_repr
    z_str := PySem.W.mg_none_of X G z_str
    tk_ITEMS := tk_ITEMS
    g_ITEMS := PySem.W.mg_of X G g_ITEMS
    tk_MAX_ITEMS := tk_MAX_ITEMS
    g_MAX_ITEMS := PySem.W.mg_of X G g_MAX_ITEMS
    tk_MAX_STEPS := tk_MAX_STEPS
    g_MAX_STEPS := PySem.W.mg_of X G g_MAX_STEPS
    a_LeakError := a_LeakError
    g_LeakError := PySem.W.mg_of X G g_LeakError
    a_InvalidWord := a_InvalidWord
    g_InvalidWord := PySem.W.mg_of X G g_InvalidWord
    a_InvalidProgram := a_InvalidProgram
    g_InvalidProgram := PySem.W.mg_of X G g_InvalidProgram
    a_LimitExceeded := a_LimitExceeded
    g_LimitExceeded := PySem.W.mg_of X G g_LimitExceeded
    x_InvalidWord := ⟨xb_value, ⟨_, _, _, _, bm_InvalidWord, _, _, _, _, _, _, _, _, _, _, xL_InvalidWord, [a_LeakError], ln_InvalidWord⟩, sa_InvalidWord, ex_InvalidWord, ty_InvalidWord, kp_InvalidWord⟩
    no_InvalidWord := no_InvalidWord
    ai_InvalidWord := ai_InvalidWord
    fi_InvalidWord := _
    i_InvalidWord := i_InvalidWord
    j_InvalidWord := j_InvalidWord
    F_InvalidWord := fun_mk (st := s_InvalidWord_init) li_InvalidWord cdi_InvalidWord ki_InvalidWord
    xf_InvalidWord := ⟨ga_InvalidWord, gg_InvalidWord, ex_InvalidWord, hd_InvalidWord⟩
    xi_InvalidWord := ⟨(by obtain ⟨cd, hc, _⟩ := PySem.W.any_some hd_InvalidWord; rw [hc]; rfl), ga_InvalidWord, gg_InvalidWord, ex_InvalidWord, kl_InvalidWord, gt_InvalidWord, tk_InvalidWord, ob_InvalidWord⟩
    how_InvalidWord := ⟨h1_InvalidWord, h2_InvalidWord, h3_InvalidWord⟩
    x_InvalidProgram := ⟨xb_value, ⟨_, _, _, _, bm_InvalidProgram, _, _, _, _, _, _, _, _, _, _, xL_InvalidProgram, [a_LeakError], ln_InvalidProgram⟩, sa_InvalidProgram, ex_InvalidProgram, ty_InvalidProgram, kp_InvalidProgram⟩
    no_InvalidProgram := no_InvalidProgram
    ai_InvalidProgram := ai_InvalidProgram
    fi_InvalidProgram := _
    i_InvalidProgram := i_InvalidProgram
    j_InvalidProgram := j_InvalidProgram
    F_InvalidProgram := fun_mk (st := s_InvalidProgram_init) li_InvalidProgram cdi_InvalidProgram ki_InvalidProgram
    xf_InvalidProgram := ⟨ga_InvalidProgram, gg_InvalidProgram, ex_InvalidProgram, hd_InvalidProgram⟩
    xi_InvalidProgram := ⟨(by obtain ⟨cd, hc, _⟩ := PySem.W.any_some hd_InvalidProgram; rw [hc]; rfl), ga_InvalidProgram, gg_InvalidProgram, ex_InvalidProgram, kl_InvalidProgram, gt_InvalidProgram, tk_InvalidProgram, ob_InvalidProgram⟩
    how_InvalidProgram := ⟨h1_InvalidProgram, h2_InvalidProgram, h3_InvalidProgram⟩
    x_LimitExceeded := ⟨xb_overflow, ⟨_, _, _, _, bm_LimitExceeded, _, _, _, _, _, _, _, _, _, _, xL_LimitExceeded, [], ln_LimitExceeded⟩, sa_LimitExceeded, ex_LimitExceeded, ty_LimitExceeded, kp_LimitExceeded⟩
    no_LimitExceeded := no_LimitExceeded
    ai_LimitExceeded := ai_LimitExceeded
    fi_LimitExceeded := _
    i_LimitExceeded := i_LimitExceeded
    j_LimitExceeded := j_LimitExceeded
    F_LimitExceeded := fun_mk (st := s_LimitExceeded_init) li_LimitExceeded cdi_LimitExceeded ki_LimitExceeded
    xf_LimitExceeded := ⟨ga_LimitExceeded, gg_LimitExceeded, ex_LimitExceeded, hd_LimitExceeded⟩
    xi_LimitExceeded := ⟨(by obtain ⟨cd, hc, _⟩ := PySem.W.any_some hd_LimitExceeded; rw [hc]; rfl), ga_LimitExceeded, gg_LimitExceeded, ex_LimitExceeded, kl_LimitExceeded, gt_LimitExceeded, tk_LimitExceeded, ob_LimitExceeded⟩
    how_LimitExceeded := h3_LimitExceeded
    e_0_1 := PySem.W.exm_ref ex_InvalidWord hd_InvalidWord ty_InvalidWord e_0_1
    e_1_1 := PySem.W.exm_ref ex_InvalidWord hd_InvalidWord ty_InvalidWord e_1_1
    e_2_1 := PySem.W.exm_ref ex_InvalidWord hd_InvalidWord ty_InvalidWord e_2_1
    e_3_1 := PySem.W.exm_ref ex_InvalidWord hd_InvalidWord ty_InvalidWord e_3_1
    e_0_2 := PySem.W.exm_ref ex_InvalidProgram hd_InvalidProgram ty_InvalidProgram e_0_2
    e_1_2 := PySem.W.exm_ref ex_InvalidProgram hd_InvalidProgram ty_InvalidProgram e_1_2
    e_2_2 := PySem.W.exm_ref ex_InvalidProgram hd_InvalidProgram ty_InvalidProgram e_2_2
    e_3_2 := PySem.W.exm_ref ex_InvalidProgram hd_InvalidProgram ty_InvalidProgram e_3_2
    e_0_3 := PySem.W.exm_ref ex_LimitExceeded hd_LimitExceeded ty_LimitExceeded e_0_3
    e_1_3 := PySem.W.exm_ref ex_LimitExceeded hd_LimitExceeded ty_LimitExceeded e_1_3
    e_2_3 := PySem.W.exm_ref ex_LimitExceeded hd_LimitExceeded ty_LimitExceeded e_2_3
    e_3_3 := PySem.W.exm_ref ex_LimitExceeded hd_LimitExceeded ty_LimitExceeded e_3_3
    kit_LimitExceeded_OverflowError := kit_blt kit_LimitExceeded_OverflowError
    a_is_word := a_is_word
    fd_is_word := _
    g_is_word := PySem.W.mg_of X G g_is_word
    k_is_word := k_is_word
    F_is_word := fun_mk (st := s_is_word) l_is_word cd_is_word k_is_word
    a_require_word := a_require_word
    fd_require_word := _
    g_require_word := PySem.W.mg_of X G g_require_word
    k_require_word := k_require_word
    F_require_word := fun_mk (st := s_require_word) l_require_word cd_require_word k_require_word
    a_is_program := a_is_program
    fd_is_program := _
    g_is_program := PySem.W.mg_of X G g_is_program
    k_is_program := k_is_program
    F_is_program := fun_mk (st := s_is_program) l_is_program cd_is_program k_is_program
    a_require_program := a_require_program
    fd_require_program := _
    g_require_program := PySem.W.mg_of X G g_require_program
    k_require_program := k_require_program
    F_require_program := fun_mk (st := s_require_program) l_require_program cd_require_program k_require_program
    a_best := a_best
    fd_best := _
    g_best := PySem.W.mg_of X G g_best
    k_best := k_best
    F_best := fun_mk (st := s_best) l_best cd_best k_best
    a_limited := a_limited
    fd_limited := _
    g_limited := PySem.W.mg_of X G g_limited
    k_limited := k_limited
    F_limited := fun_mk (st := s_limited) l_limited cd_limited k_limited
    a_best_result := a_best_result
    fd_best_result := _
    g_best_result := PySem.W.mg_of X G g_best_result
    k_best_result := k_best_result
    F_best_result := fun_mk (st := s_best_result) l_best_result cd_best_result k_best_result
    a_law_pool := a_law_pool
    fd_law_pool := _
    g_law_pool := PySem.W.mg_of X G g_law_pool
    k_law_pool := k_law_pool
    F_law_pool := fun_mk (st := s_law_pool) l_law_pool cd_law_pool k_law_pool
    a_law_draw := a_law_draw
    fd_law_draw := _
    g_law_draw := PySem.W.mg_of X G g_law_draw
    k_law_draw := k_law_draw
    F_law_draw := fun_mk (st := s_law_draw) l_law_draw cd_law_draw k_law_draw
    a_law_letters := a_law_letters
    fd_law_letters := _
    g_law_letters := PySem.W.mg_of X G g_law_letters
    k_law_letters := k_law_letters
    F_law_letters := fun_mk (st := s_law_letters) l_law_letters cd_law_letters k_law_letters
    a_law_items := a_law_items
    fd_law_items := _
    g_law_items := PySem.W.mg_of X G g_law_items
    k_law_items := k_law_items
    F_law_items := fun_mk (st := s_law_items) l_law_items cd_law_items k_law_items
    a_law_best := a_law_best
    fd_law_best := _
    g_law_best := PySem.W.mg_of X G g_law_best
    k_law_best := k_law_best
    F_law_best := fun_mk (st := s_law_best) l_law_best cd_law_best k_law_best
    a_law_told := a_law_told
    fd_law_told := _
    g_law_told := PySem.W.mg_of X G g_law_told
    k_law_told := k_law_told
    F_law_told := fun_mk (st := s_law_told) l_law_told cd_law_told k_law_told
    a_law_due := a_law_due
    fd_law_due := _
    g_law_due := PySem.W.mg_of X G g_law_due
    k_law_due := k_law_due
    F_law_due := fun_mk (st := s_law_due) l_law_due cd_law_due k_law_due
    a_law_long := a_law_long
    fd_law_long := _
    g_law_long := PySem.W.mg_of X G g_law_long
    k_law_long := k_law_long
    F_law_long := fun_mk (st := s_law_long) l_law_long cd_law_long k_law_long
    a_law := fa
    fd_law := _
    g_law := PySem.W.mg_of X G g_law
    k_law := k_law
    F_law := fun_mk (st := s_law) l_law cd_law k_law
    }, rfl, rfl⟩
  obtain ⟨t, e1, e2⟩ := t
  refine ⟨PySem.W.fnOf "law" "law" (defArgs s_law) (defBody s_law) (defScope s_law) .none v_law d_law p_law an_law c_law y_law, fun s v => .of_eq rfl, fun base _ _ => ?_⟩
  have F := law_fng (n := 63) (ok_law (P := l.prog) (w := w) (base := base) t) rfl law_ok
  rw [e1, e2] at F
  exact F
end K17
set_option maxHeartbeats 2000000
namespace K17
open PySem PySem.Spec PyProof.Rows L2 DL
/-- a pool -/
structure PoolOk (x y : Int) : Prop where
  x0 : 0 ≤ x
  y0 : 0 ≤ y
  y1 : y < 2147483647
abbrev pool (x y : Int) : Sl := .ce true (.lst [.int x, .int y])
theorem draw_ok {x y n : Int} (h : PoolOk x y) (h0 : 0 < n) (h1 : n < 1000) : ∃ d x' y', m_law_draw [pool x y, .va (.int n)] = .ok (.d (.int d), [pool x' y', .un]) ∧ 0 ≤ d ∧ d < n ∧ PoolOk x' y' := by
  have e1 := h.x0
  have e2 := h.y0
  have e3 := h.y1
  have n1 : n < 1073741824 := by omega
  by_cases hx : 0 < x
  · refine ⟨x % n, x / n, y, ?_, Int.emod_nonneg _ (by omega), Int.emod_lt_of_pos _ h0, ⟨Int.ediv_nonneg e1 (by omega), e2, e3⟩⟩
    simp [m_law_draw, mDef, b_law_draw, hx, h0, n1]
  · have hy : cMul y 48271 = true := by simp [cMul]
    have z0 : 0 ≤ (y * 48271 + 12345) % 2147483647 := Int.emod_nonneg _ (by omega)
    have z1 : (y * 48271 + 12345) % 2147483647 < 2147483647 := Int.emod_lt_of_pos _ (by omega)
    have hz : cMul ((y * 48271 + 12345) % 2147483647) ((y * 48271 + 12345) % 2147483647) = true := by
      unfold cMul
      rw [decide_eq_true (by omega), decide_eq_true (by omega)]; rfl
    refine ⟨_, x, (y * 48271 + 12345) % 2147483647, ?_, Int.emod_nonneg ((y * 48271 + 12345) % 2147483647 * ((y * 48271 + 12345) % 2147483647) % 2147483629 / 64) (by omega), Int.emod_lt_of_pos _ h0, ⟨e1, z0, z1⟩⟩
    simp [m_law_draw, mDef, b_law_draw, hx, h0, n1, hy, hz]
end K17
set_option maxHeartbeats 4000000
namespace K17
open PySem PySem.Spec PyProof.Rows L2 DL
/-! ### words, programs -/
def okI (l : List Nat) : Prop := ∀ c ∈ l, 97 ≤ c ∧ c ≤ 104
def okC (l : List Nat) : Prop := ∀ c ∈ l, (97 ≤ c ∧ c ≤ 104) ∨ (65 ≤ c ∧ c ≤ 72)
def isI (c : Nat) : Bool := [97, 98, 99, 100, 101, 102, 103, 104].contains c
def isC (c : Nat) : Bool := [97, 98, 99, 100, 101, 102, 103, 104, 65, 66, 67, 68, 69, 70, 71, 72].contains c
theorem isI_iff {c : Nat} : isI c = true ↔ 97 ≤ c ∧ c ≤ 104 := by
  unfold isI
  simp only [List.contains_iff_mem, List.mem_cons, List.not_mem_nil, or_false]; omega
theorem isC_iff {c : Nat} : isC c = true ↔ (97 ≤ c ∧ c ≤ 104) ∨ (65 ≤ c ∧ c ≤ 72) := by
  unfold isC
  simp only [List.contains_iff_mem, List.mem_cons, List.not_mem_nil, or_false]; omega
theorem word_run {l : List Nat} (hL : l.length ≤ LIM) : m_is_word [.va (.str l)] = .ok (.d (.bl (decide (l.length ≤ 400) && l.all isI)), [.un]) := by
  by_cases hl : l.length ≤ 400
  · have h1 : fLc [1] (gN 1) (fItA (fV 0)) fYes (fBin (oIn id) (fV 1) (fC (.str [97, 98, 99, 100, 101, 102, 103, 104]))) [.va (.str l), .un] = _ := lc_signs (w := [.va (.str l), .un]) (e1 := [.va (.str l), .un]) (l := l) (f := fun c => .bl (isI c)) (by simp) rfl hL
      fun c hc => ⟨[.va (.str l), .va (.str [c])], rfl, .d (.bl (isI c)), [.va (.str l), .va (.str [c])], [.va (.str l), .va (.str [c])], by simp [isI], rfl, rfl⟩
    have hi : (l.length : Int) ≤ 400 := by omega
    simp [m_is_word, mDef, b_is_word, hl, hL, h1, hi, bls_bl, -fLc_ev, Function.comp_def]
  · have hi : ¬ ((l.length : Int) ≤ 400) := by omega
    simp [m_is_word, mDef, b_is_word, hl, hL, hi, -fLc_ev]
theorem prog_run {l : List Nat} (hL : l.length ≤ LIM) : m_is_program [.va (.str l)] = .ok (.d (.bl (decide (l.length ≤ 400) && l.all isC)), [.un]) := by
  by_cases hl : l.length ≤ 400
  · have h1 : fLc [1] (gN 1) (fItA (fV 0)) fYes (fBin (oIn id) (fV 1) (fBin oAdd (fC (.str [97, 98, 99, 100, 101, 102, 103, 104])) (fMt0 "str" oUpper (fC (.str [97, 98, 99, 100, 101, 102, 103, 104]))))) [.va (.str l), .un] = _ := lc_signs (w := [.va (.str l), .un]) (e1 := [.va (.str l), .un]) (l := l) (f := fun c => .bl (isC c)) (by simp) rfl hL
      fun c hc => ⟨[.va (.str l), .va (.str [c])], rfl, .d (.bl (isC c)), [.va (.str l), .va (.str [c])], [.va (.str l), .va (.str [c])], by simp [isC, ascii, up1, LIM_eq], rfl, rfl⟩
    have hi : ¬ (400 < (l.length : Int)) := by omega
    simp [m_is_program, mDef, b_is_program, hl, hL, h1, hi, bls_bl, -fLc_ev, Function.comp_def]
  · have hi : 400 < (l.length : Int) := by omega
    simp [m_is_program, mDef, b_is_program, hl, hL, hi, -fLc_ev]
end K17
set_option maxHeartbeats 4000000
namespace K17
open PySem PySem.Spec PyProof.Rows L2 DL
/-- the best result -/
def bestN : List Nat → List Nat → Option (List Nat)
  | [], it => some it
  | c :: r, it => if isI c = true then bestN r (it ++ [c]) else match seek (lo1 c) it 0 with
    | some k => bestN r (it.drop (k + 1))
    | none => none
def fr (s : Sl) : Prop := free [s] 0 = true
def bodyP : FS := (fIf (fTst (fBin (oIn id) (fV 2) (fC (.str [97, 98, 99, 100, 101, 102, 103, 104])))) (fSet 1 (fBin oAdd (fV 1) (fV 2))) (fSeq (fSet 3 (fMt "str" oFind (fV 1) (fCons (fMt0 "str" oLower (fV 2)) fNil)))
    (fSeq (fIf (fTst (fBin oLt (fV 3) (fC (.int 0)))) (fRet (fC .non)) fSkip)
    (fSet 1 (fSl oSl (fV 1) (fPart (fBin oAdd (fV 3) (fC (.int 1)))) fNoPart)))))
theorem drop_cut {l : List Nat} {k : Nat} (h : k ≤ l.length) : cut l (some (k : Int)) none = l.drop k := by
  unfold cut
  rw [show HT.sIx l.length 0 (some (k : Int)) = min k l.length from HT.sIx_nat l.length 0 k, HT.sIx_none, Nat.min_eq_left h]
  exact List.take_of_length_le (by simp)
theorem lt128 {c : Nat} (h : isC c = true) : c < 128 := by rw [isC_iff] at h; omega
theorem notI {c : Nat} (hc : isI c = false) : ¬ (c = 97 ∨ c = 98 ∨ c = 99 ∨ c = 100 ∨ c = 101 ∨ c = 102 ∨ c = 103 ∨ c = 104) := by
  intro z
  have : isI c = true := by rw [isI_iff]; omega
  rw [this] at hc; cases hc
theorem test_in {e : DL.Env} {c : Nat} (h : gt e 2 = .va (.str [c])) : fTst (fBin (oIn id) (fV 2) (fC (.str [97, 98, 99, 100, 101, 102, 103, 104]))) e = .ok (isI c, e) := by
  simp [h, isI]
theorem find_at {P it : List Nat} {c : Nat} {s3 : Sl} (h3 : fr s3) (hC : c < 128) : fSet 3 (fMt "str" oFind (fV 1) (fCons (fMt0 "str" oLower (fV 2)) fNil)) [.va (.str P), .va (.str it), .va (.str [c]), s3] = .nx [.va (.str P), .va (.str it), .va (.str [c]), .va (.int (findN it (lo1 c) 0))] := by
  simp [fr] at h3
  simp [h3, ascii, hC, LIM_eq]
theorem step_take {P it : List Nat} {c k : Nat} {s3 : Sl} (h3 : fr s3) (hc : isI c = false) (hC : c < 128) (hk : seek (lo1 c) it 0 = some k) (hl : it.length ≤ LIM) : bodyP [.va (.str P), .va (.str it), .va (.str [c]), s3] = .nx [.va (.str P), .va (.str (it.drop (k + 1))), .va (.str [c]), .va (.int k)] := by
  obtain ⟨a, b, _⟩ := seek_some hk
  have hlt : k < it.length := by have := (List.getElem?_eq_some_iff.mp b).1; omega
  have e := drop_cut (l := it) (k := k + 1) (by omega)
  have hk0 : ¬ ((k : Int) < 0) := by omega
  rw [Int.natCast_add] at e
  unfold bodyP
  rw [fIf_ok (test_in rfl), hc, if_neg (by simp), fSeq_nx (find_at h3 hC)]
  have hf : findN it (lo1 c) 0 = k := by unfold findN; rw [List.drop_zero, hk]
  rw [hf, fSeq_nx (e1 := [.va (.str P), .va (.str it), .va (.str [c]), .va (.int k)]) (by simp [hk0])]
  simp [hl]
  exact e
theorem step_fail {P it : List Nat} {c : Nat} {s3 : Sl} (h3 : fr s3) (hc : isI c = false) (hC : c < 128) (hk : seek (lo1 c) it 0 = none) : bodyP [.va (.str P), .va (.str it), .va (.str [c]), s3] = .rt (.d .non) [.va (.str P), .va (.str it), .va (.str [c]), .va (.int (-1))] := by
  unfold bodyP
  rw [fIf_ok (test_in rfl), hc, if_neg (by simp), fSeq_nx (find_at h3 hC)]
  have hf : findN it (lo1 c) 0 = -1 := by unfold findN; rw [List.drop_zero, hk]
  rw [hf, fSeq_rt (e1 := [.va (.str P), .va (.str it), .va (.str [c]), .va (.int (-1))]) (p := .d .non) (by simp)]
theorem step_put' {P it : List Nat} {c : Nat} {s3 : Sl} (hc : isI c = true) (hl : it.length + 1 ≤ LIM) : bodyP [.va (.str P), .va (.str it), .va (.str [c]), s3] = .nx [.va (.str P), .va (.str (it ++ [c])), .va (.str [c]), s3] := by
  unfold bodyP
  rw [fIf_ok (test_in rfl), hc, if_pos rfl]
  simp [hl]
theorem gN2 {P it : List Nat} {c : Nat} {s2 s3 : Sl} (h2 : fr s2) : gN 2 (.str [c]) [.va (.str P), .va (.str it), s2, s3] = some [.va (.str P), .va (.str it), .va (.str [c]), s3] := by
  simp [fr] at h2
  simp [h2]
theorem best_loop {P : List Nat} : ∀ (p it : List Nat) (s2 s3 : Sl), fr s2 → fr s3 → (∀ c ∈ p, isC c = true) → it.length + p.length ≤ LIM →
    (∃ r t2 t3, bestN p it = some r ∧ r.length ≤ it.length + p.length ∧ loop (gN 2) bodyP (chrs p) [.va (.str P), .va (.str it), s2, s3] = .nx [.va (.str P), .va (.str r), t2, t3]) ∨
    (∃ a b c d, bestN p it = none ∧ loop (gN 2) bodyP (chrs p) [.va (.str P), .va (.str it), s2, s3] = .rt (.d .non) [a, b, c, d])
  | [], it, s2, s3, _, _, _, _ => .inl ⟨it, s2, s3, rfl, by simp, rfl⟩
  | c :: p, it, s2, s3, h2, h3, hC, hl => by
    rw [List.length_cons] at hl
    have hr : ∀ x ∈ p, isC x = true := fun x hx => hC x (List.mem_cons_of_mem _ hx)
    have hc := lt128 (hC c List.mem_cons_self)
    show (∃ r t2 t3, _ ∧ _ ∧ loop (gN 2) bodyP (.str [c] :: chrs p) _ = _) ∨ (∃ a b c' d, _ ∧ loop (gN 2) bodyP (.str [c] :: chrs p) _ = _)
    by_cases hi : isI c = true
    · have ih := best_loop (P := P) p (it ++ [c]) (.va (.str [c])) s3 rfl h3 hr (by simp; omega)
      have e : bestN (c :: p) it = bestN p (it ++ [c]) := by show (if isI c = true then _ else _) = _; rw [if_pos hi]
      rw [e, loop_nx (gN2 h2) (step_put' hi (by omega))]
      simp only [List.length_append, List.length_cons, List.length_nil] at ih ⊢
      rw [show it.length + (p.length + 1) = it.length + (0 + 1) + p.length by omega]
      exact ih
    · have hi : isI c = false := by simpa using hi
      cases hk : seek (lo1 c) it 0 with
      | none =>
        refine .inr ⟨_, _, _, _, ?_, loop_rt (gN2 h2) (step_fail h3 hi hc hk)⟩
        show (if isI c = true then _ else _) = _
        rw [if_neg (by simp [hi]), hk]
      | some k =>
        have ih := best_loop (P := P) p (it.drop (k + 1)) (.va (.str [c])) (.va (.int k)) rfl rfl hr (by simp; omega)
        have e : bestN (c :: p) it = bestN p (it.drop (k + 1)) := by show (if isI c = true then _ else _) = _; rw [if_neg (by simp [hi]), hk]
        rw [e, loop_nx (gN2 h2) (step_take h3 hi hc hk (by omega))]
        rcases ih with ⟨r, t2, t3, a1, a2, a3⟩ | h
        · refine .inl ⟨r, t2, t3, a1, ?_, a3⟩
          rw [List.length_drop] at a2
          rw [List.length_cons]; omega
        · exact .inr h
def optD : Option (List Nat) → D
  | some r => .str r
  | none => .non
theorem best_run {p it : List Nat} (hC : ∀ c ∈ p, isC c = true) (hl : it.length + p.length ≤ LIM) : m_best [.va (.str p), .va (.str it)] = .ok (.d (optD (bestN p it)), [.un, .un]) := by
  have h := best_loop (P := p) p it .un .un rfl rfl hC hl
  have hf : fFor (gN 2) (fItA (fV 0)) bodyP [.va (.str p), .va (.str it), .un, .un] = loop (gN 2) bodyP (chrs p) [.va (.str p), .va (.str it), .un, .un] := fFor_ok (by simp)
  rcases h with ⟨r, t2, t3, a1, a2, a3⟩ | ⟨a, b, c, d, a1, a2⟩
  · rw [a1]
    exact mDef_d (d := .str r) (e := [.va (.str p), .va (.str r), t2, t3]) ((fSeq_nx (hf.trans a3)).trans (fRet_d (by simp))) (by simp)
  · rw [a1]
    exact mDef_d (fSeq_rt (hf.trans a2)) (by simp)
/-! ### the law's own -/
def bodyL : FS := (fSeq (fSet 3 (fMt "str" oFind (fV 1) (fCons (fMt0 "str" oLower (fV 2)) fNil)))
    (fIf (fTst (fBin (oIn id) (fV 2) (fC (.str [97, 98, 99, 100, 101, 102, 103, 104])))) (fSet 1 (fBin oAdd (fV 1) (fV 2))) (fIf (fTst (fBin oLt (fV 3) (fC (.int 0)))) (fRet (fC .non)) (fSet 1 (fSl oSl (fV 1) (fPart (fBin oAdd (fV 3) (fC (.int 1)))) fNoPart)))))
theorem stepL_put {P it : List Nat} {c : Nat} {s3 : Sl} (h3 : fr s3) (hc : isI c = true) (hC : c < 128) (hl : it.length + 1 ≤ LIM) : bodyL [.va (.str P), .va (.str it), .va (.str [c]), s3] = .nx [.va (.str P), .va (.str (it ++ [c])), .va (.str [c]), .va (.int (findN it (lo1 c) 0))] := by
  unfold bodyL
  rw [fSeq_nx (find_at h3 hC), fIf_ok (test_in rfl), hc, if_pos rfl]
  simp [hl]
theorem stepL_take {P it : List Nat} {c k : Nat} {s3 : Sl} (h3 : fr s3) (hc : isI c = false) (hC : c < 128) (hk : seek (lo1 c) it 0 = some k) (hl : it.length ≤ LIM) : bodyL [.va (.str P), .va (.str it), .va (.str [c]), s3] = .nx [.va (.str P), .va (.str (it.drop (k + 1))), .va (.str [c]), .va (.int k)] := by
  obtain ⟨a, b, _⟩ := seek_some hk
  have hlt : k < it.length := by have := (List.getElem?_eq_some_iff.mp b).1; omega
  have e := drop_cut (l := it) (k := k + 1) (by omega)
  have hk0 : ¬ ((k : Int) < 0) := by omega
  rw [Int.natCast_add] at e
  have hf : findN it (lo1 c) 0 = k := by unfold findN; rw [List.drop_zero, hk]
  unfold bodyL
  rw [fSeq_nx (find_at h3 hC), fIf_ok (test_in rfl), hc, if_neg (by simp), hf, fIf_ok (b := false) (e1 := [.va (.str P), .va (.str it), .va (.str [c]), .va (.int k)]) (by simp [hk0]), if_neg (by simp)]
  simp [hl]
  exact e
theorem stepL_fail {P it : List Nat} {c : Nat} {s3 : Sl} (h3 : fr s3) (hc : isI c = false) (hC : c < 128) (hk : seek (lo1 c) it 0 = none) : bodyL [.va (.str P), .va (.str it), .va (.str [c]), s3] = .rt (.d .non) [.va (.str P), .va (.str it), .va (.str [c]), .va (.int (-1))] := by
  have hf : findN it (lo1 c) 0 = -1 := by unfold findN; rw [List.drop_zero, hk]
  unfold bodyL
  rw [fSeq_nx (find_at h3 hC), fIf_ok (test_in rfl), hc, if_neg (by simp), hf, fIf_ok (b := true) (e1 := [.va (.str P), .va (.str it), .va (.str [c]), .va (.int (-1))]) (by simp), if_pos rfl]
  simp
theorem law_loop {P : List Nat} : ∀ (p it : List Nat) (s2 s3 : Sl), fr s2 → fr s3 → (∀ c ∈ p, isC c = true) → it.length + p.length ≤ LIM →
    (∃ r t2 t3, bestN p it = some r ∧ loop (gN 2) bodyL (chrs p) [.va (.str P), .va (.str it), s2, s3] = .nx [.va (.str P), .va (.str r), t2, t3]) ∨
    (∃ a b c d, bestN p it = none ∧ loop (gN 2) bodyL (chrs p) [.va (.str P), .va (.str it), s2, s3] = .rt (.d .non) [a, b, c, d])
  | [], it, s2, s3, _, _, _, _ => .inl ⟨it, s2, s3, rfl, rfl⟩
  | c :: p, it, s2, s3, h2, h3, hC, hl => by
    rw [List.length_cons] at hl
    have hr : ∀ x ∈ p, isC x = true := fun x hx => hC x (List.mem_cons_of_mem _ hx)
    have hc := lt128 (hC c List.mem_cons_self)
    show (∃ r t2 t3, _ ∧ loop (gN 2) bodyL (.str [c] :: chrs p) _ = _) ∨ (∃ a b c' d, _ ∧ loop (gN 2) bodyL (.str [c] :: chrs p) _ = _)
    by_cases hi : isI c = true
    · have ih := law_loop (P := P) p (it ++ [c]) (.va (.str [c])) (.va (.int (findN it (lo1 c) 0))) rfl rfl hr (by simp; omega)
      have e : bestN (c :: p) it = bestN p (it ++ [c]) := by show (if isI c = true then _ else _) = _; rw [if_pos hi]
      rw [e, loop_nx (gN2 h2) (stepL_put h3 hi hc (by omega))]
      exact ih
    · have hi : isI c = false := by simpa using hi
      cases hk : seek (lo1 c) it 0 with
      | none =>
        refine .inr ⟨_, _, _, _, ?_, loop_rt (gN2 h2) (stepL_fail h3 hi hc hk)⟩
        show (if isI c = true then _ else _) = _
        rw [if_neg (by simp [hi]), hk]
      | some k =>
        have ih := law_loop (P := P) p (it.drop (k + 1)) (.va (.str [c])) (.va (.int k)) rfl rfl hr (by simp; omega)
        have e : bestN (c :: p) it = bestN p (it.drop (k + 1)) := by show (if isI c = true then _ else _) = _; rw [if_neg (by simp [hi]), hk]
        rw [e, loop_nx (gN2 h2) (stepL_take h3 hi hc hk (by omega))]
        exact ih
theorem lawbest_run {p it : List Nat} (hC : ∀ c ∈ p, isC c = true) (hl : it.length + p.length ≤ LIM) : m_law_best [.va (.str p), .va (.str it)] = .ok (.d (optD (bestN p it)), [.un, .un]) := by
  have h := law_loop (P := p) p it .un .un rfl rfl hC hl
  have hf : fFor (gN 2) (fItA (fV 0)) bodyL [.va (.str p), .va (.str it), .un, .un] = loop (gN 2) bodyL (chrs p) [.va (.str p), .va (.str it), .un, .un] := fFor_ok (by simp)
  rcases h with ⟨r, t2, t3, a1, a3⟩ | ⟨a, b, c, d, a1, a2⟩
  · rw [a1]
    exact mDef_d (d := .str r) (e := [.va (.str p), .va (.str r), t2, t3]) ((fSeq_nx (hf.trans a3)).trans (fRet_d (by simp))) (by simp)
  · rw [a1]
    exact mDef_d (fSeq_rt (hf.trans a2)) (by simp)
/-! ### told and due -/
theorem best_len {p it r : List Nat} (h : bestN p it = some r) : r.length ≤ it.length + p.length := by
  induction p generalizing it with
  | nil => cases h; simp
  | cons c p ih =>
    rw [List.length_cons]
    have h : (if isI c = true then bestN p (it ++ [c]) else match seek (lo1 c) it 0 with | some k => bestN p (it.drop (k + 1)) | none => none) = some r := h
    split at h
    · have := ih h; simp at this; omega
    · split at h
      · have := ih h; simp at this; omega
      · cases h
def dueD : Option (List Nat) → D
  | some r => if 400 < r.length then .lst [.str [108, 105, 109, 105, 116], .int 400, .bl true] else .str r
  | none => .non
def duePV : Option (List Nat) → PV
  | some r => if 400 < r.length then .nw (.lst [.str [108, 105, 109, 105, 116], .int 400, .bl true]) else .d (.str r)
  | none => .d .non
theorem due_run {p it : List Nat} (hC : ∀ c ∈ p, isC c = true) (hl : it.length + p.length ≤ LIM) : m_law_due [.va (.str p), .va (.str it)] = .ok (duePV (bestN p it), [.un, .un]) := by
  have h := lawbest_run hC hl
  cases hb : bestN p it with
  | none =>
    rw [hb] at h
    simp [m_law_due, mDef, b_law_due, h, optD, duePV]
  | some r =>
    rw [hb] at h
    have hL := best_len hb
    by_cases h4 : 400 < r.length
    · have hi : (400 : Int) < r.length := by omega
      simp [m_law_due, mDef, b_law_due, h, optD, duePV, h4, hi, LIM_eq, show r.length ≤ LIM by omega]
    · have hi : ¬ (400 : Int) < r.length := by omega
      simp [m_law_due, mDef, b_law_due, h, optD, duePV, h4, hi, LIM_eq, show r.length ≤ LIM by omega]
end K17
set_option maxHeartbeats 4000000
namespace K17
open PySem PySem.Spec PyProof.Rows L2 DL
theorem reqp_run {d : D} {b : Bool} (h : m_is_program [.va d] = .ok (.d (.bl b), [.un])) : m_require_program [.va d] = if b = true then .ok (.d .non, [.un]) else .ex 2 d [.un] := by
  cases b <;> simp [m_require_program, mDef, b_require_program, h]
theorem reqw_run {d : D} {b : Bool} (h : m_is_word [.va d] = .ok (.d (.bl b), [.un])) : m_require_word [.va d] = if b = true then .ok (.d .non, [.un]) else .ex 1 d [.un] := by
  cases b <;> simp [m_require_word, mDef, b_require_word, h]
theorem limited_run {o : Option (List Nat)} (hl : ∀ r, o = some r → r.length ≤ LIM) : m_limited [.va (optD o)] = match o with
    | some r => if 400 < r.length then .ex 3 (.int 400) [.un] else .ok (.d (.str r), [.un])
    | none => .ok (.d .non, [.un]) := by
  cases o with
  | none => simp [m_limited, mDef, b_limited, optD]
  | some r =>
    have hL := hl r rfl
    by_cases h4 : 400 < r.length
    · have hi : (400 : Int) < r.length := by omega
      simp [m_limited, mDef, b_limited, optD, h4, hi, hL]
    · have hi : ¬ (400 : Int) < r.length := by omega
      simp [m_limited, mDef, b_limited, optD, h4, hi, hL]
theorem br_badp {p q : D} (h : m_is_program [.va p] = .ok (.d (.bl false), [.un])) : m_best_result [.va p, .va q] = .ex 2 p [.un, .un] := by
  have h1 := reqp_run h
  simp [m_best_result, mDef, b_best_result, h1]
theorem br_badw {p q : D} (h : m_is_program [.va p] = .ok (.d (.bl true), [.un])) (h2 : m_is_word [.va q] = .ok (.d (.bl false), [.un])) : m_best_result [.va p, .va q] = .ex 1 q [.un, .un] := by
  have h1 := reqp_run h
  have h3 := reqw_run h2
  simp [m_best_result, mDef, b_best_result, h1, h3]
theorem br_good {p q : List Nat} (hp : ∀ c ∈ p, isC c = true) (lp : p.length ≤ 400) (hq : ∀ c ∈ q, isI c = true) (lq : q.length ≤ 400) : m_best_result [.va (.str p), .va (.str q)] = match bestN p q with
    | some r => if 400 < r.length then .ex 3 (.int 400) [.un, .un] else .ok (.d (.str r), [.un, .un])
    | none => .ok (.d .non, [.un, .un]) := by
  have e1 := prog_run (l := p) (by rw [LIM_eq]; omega)
  rw [decide_eq_true lp, List.all_eq_true.mpr hp] at e1
  have e2 := word_run (l := q) (by rw [LIM_eq]; omega)
  rw [decide_eq_true lq, List.all_eq_true.mpr hq] at e2
  have h1 := reqp_run e1
  have h3 := reqw_run e2
  have h5 := best_run (p := p) (it := q) hp (by rw [LIM_eq]; omega)
  cases hb : bestN p q with
  | none =>
    rw [hb] at h5
    have h6 := limited_run (o := none) (fun r hr => by cases hr)
    simp only at h6
    simp [m_best_result, mDef, b_best_result, h1, h3, h5, h6]
  | some r =>
    rw [hb] at h5
    have hL := best_len hb
    have h6 := limited_run (o := some r) (fun r' hr => by cases hr; rw [LIM_eq]; omega)
    by_cases h4 : 400 < r.length
    · simp [h4] at h6; simp [m_best_result, mDef, b_best_result, h1, h3, h5, h6, h4]
    · simp [h4] at h6; simp [m_best_result, mDef, b_best_result, h1, h3, h5, h6, h4]
abbrev sP : D := .str [112, 114, 111, 103, 114, 97, 109]
abbrev sW : D := .str [119, 111, 114, 100]
theorem told_good {p q : List Nat} (hp : ∀ c ∈ p, isC c = true) (lp : p.length ≤ 400) (hq : ∀ c ∈ q, isI c = true) (lq : q.length ≤ 400) : m_law_told [.va (.str p), .va (.str q)] = .ok (duePV (bestN p q), [.un, .un]) := by
  have h := br_good hp lp hq lq
  cases hb : bestN p q with
  | none => rw [hb] at h; simp [m_law_told, mDef, b_law_told, h, duePV]
  | some r =>
    rw [hb] at h
    by_cases h4 : 400 < r.length
    · simp [h4] at h; simp [m_law_told, mDef, b_law_told, h, duePV, h4, LIM_eq]
    · simp [h4] at h; simp [m_law_told, mDef, b_law_told, h, duePV, h4]
theorem told_badp {p q : D} {s : List Nat} (h : m_is_program [.va p] = .ok (.d (.bl false), [.un])) (hs : shown p = some s) : m_law_told [.va p, .va q] = .ok (.nw (.lst [sP, .str s]), [.un, .un]) := by
  have h1 := br_badp (q := q) h
  simp [m_law_told, mDef, b_law_told, h1, hs, LIM_eq]
theorem told_badw {p q : D} {s : List Nat} (h : m_is_program [.va p] = .ok (.d (.bl true), [.un])) (h2 : m_is_word [.va q] = .ok (.d (.bl false), [.un])) (hs : shown q = some s) : m_law_told [.va p, .va q] = .ok (.nw (.lst [sW, .str s]), [.un, .un]) := by
  have h1 := br_badw h h2
  simp [m_law_told, mDef, b_law_told, h1, hs, LIM_eq]
end K17
set_option maxHeartbeats 4000000
namespace K17
open PySem PySem.Spec PyProof.Rows L2 DL
theorem cMul_r {i j : Int} (h0 : -18446744073709551616 < j) (h1 : j < 18446744073709551616) : cMul i j = true := by
  unfold cMul
  rw [decide_eq_true (show -(2 ^ 64) < j by omega), decide_eq_true (show j < 2 ^ 64 by omega)]
  simp
theorem cut_len {α : Type} (l : List α) (a b : Option Int) : (cut l a b).length ≤ l.length := by
  unfold cut
  rw [List.length_take, List.length_drop]; omega
theorem cut_map {α β : Type} (f : α → β) (l : List α) (a b : Option Int) : cut (l.map f) a b = (cut l a b).map f := by
  unfold cut
  rw [List.length_map, List.map_take, List.map_drop]
theorem pool_run {ns : List Int} {k : Int} (hn : ns.length ≤ 63) (h0 : 0 ≤ k) (h1 : k < 1000) : ∃ x y, m_law_pool [.va (.fro (ns.map D.int)), .va (.int k)] = .ok (.nw (.lst [.int x, .int y]), [.un, .un]) ∧ PoolOk x y := by
  obtain ⟨v, hv⟩ : ∃ v, at? ((cut ns (some k) (some (k + 1))).map D.int ++ [D.int 0]) 0 = some (.int v) := by
    cases cut ns (some k) (some (k + 1)) with
    | nil => exact ⟨0, rfl⟩
    | cons c r => exact ⟨c, rfl⟩
  have hl := cut_len ns (some k) (some (k + 1))
  have hL : (cut ns (some k) (some (k + 1))).length + 1 ≤ LIM := by rw [LIM_eq]; omega
  have s1 : fSet 2 (fBin oIx (fBin oAdd (fSl oSl (fV 0) (fPart (fV 1)) (fPart (fBin oAdd (fV 1) (fC (.int 1))))) (fLst (fCons (fC (.int 0)) fNil))) (fC (.int 0))) [.va (.fro (ns.map D.int)), .va (.int k), .un, .un, .un] = .nx [.va (.fro (ns.map D.int)), .va (.int k), .va (.int v), .un, .un] := by
    simp [cut_map, hL, hv, LIM_eq, -DL.at?]
  obtain ⟨m, hm, m0⟩ : ∃ m, (if -1 - v > v then -1 - v else v) = m ∧ 0 ≤ m := ⟨_, rfl, by split <;> omega⟩
  have s2 : fSet 3 (fCB oMax2 (fCons (fV 2) (fCons (fBin oSub (fUn oNeg (fC (.int 1))) (fV 2)) fNil))) [.va (.fro (ns.map D.int)), .va (.int k), .va (.int v), .un, .un] = .nx [.va (.fro (ns.map D.int)), .va (.int k), .va (.int v), .va (.int m), .un] := by
    simp
    exact hm
  obtain ⟨z, hz, z0, z1⟩ : ∃ z, (m % 2147483629 + 7919 * k * k + 31 * k + 17) * 48271 % 2147483647 = z ∧ 0 ≤ z ∧ z < 2147483647 := ⟨_, rfl, Int.emod_nonneg _ (by omega), Int.emod_lt_of_pos _ (by omega)⟩
  have c1 : cMul 7919 k = true := cMul_r (by omega) (by omega)
  have c2 : cMul (7919 * k) k = true := cMul_r (by omega) (by omega)
  have c3 : cMul 31 k = true := cMul_r (by omega) (by omega)
  have c4 : cMul (m % 2147483629 + 7919 * k * k + 31 * k + 17) 48271 = true := cMul_r (by omega) (by omega)
  have s3 : fSet 4 (fBin oMod (fBin oMul (fBin oAdd (fBin oAdd (fBin oAdd (fBin oMod (fV 3) (fC (.int 2147483629))) (fBin oMul (fBin oMul (fC (.int 7919)) (fV 1)) (fV 1))) (fBin oMul (fC (.int 31)) (fV 1))) (fC (.int 17))) (fC (.int 48271))) (fC (.int 2147483647))) [.va (.fro (ns.map D.int)), .va (.int k), .va (.int v), .va (.int m), .un] = .nx [.va (.fro (ns.map D.int)), .va (.int k), .va (.int v), .va (.int m), .va (.int z)] := by
    simp [c1, c2, c3, c4]
    exact hz
  have c5 : cMul z z = true := cMul_r (by omega) (by omega)
  have c6 : cMul m 1 = true := cMul_r (by omega) (by omega)
  have c7 : cMul m 0 = true := cMul_r (by omega) (by omega)
  obtain ⟨x, hx, x0⟩ : ∃ x, m * (if 1000000000000000000 ≤ m then 1 else 0) = x ∧ 0 ≤ x := ⟨_, rfl, by split <;> omega⟩
  refine ⟨x, z * z % 2147483629, ?_, ⟨x0, Int.emod_nonneg _ (by omega), by have := Int.emod_lt_of_pos (z * z) (show (0 : Int) < 2147483629 by omega); omega⟩⟩
  unfold m_law_pool
  refine mDef_nw (e := [.va (.fro (ns.map D.int)), .va (.int k), .va (.int v), .va (.int m), .va (.int z)]) ?_ (by simp)
  show b_law_pool [.va (.fro (ns.map D.int)), .va (.int k), .un, .un, .un] = _
  unfold b_law_pool
  rw [fSeq_nx s1, fSeq_nx s2, fSeq_nx s3]
  by_cases hb : 1000000000000000000 ≤ m
  · rw [if_pos hb] at hx
    simp [cPow, c5, c6, hb, LIM_eq, hx]
  · rw [if_neg hb] at hx
    simp [cPow, c5, c7, hb, LIM_eq, hx]
end K17
set_option maxHeartbeats 4000000
namespace K17
open PySem PySem.Spec PyProof.Rows L2 DL
def one (d : D) : Prop := ∃ c, d = .str [c] ∧ isI c = true
def bodyLet : FS := (fSet 3 (fBin oAdd (fV 3) (fMu 2 "list" oPopAt (fCons (fCall m_law_draw [true, false] [] (fCons (fV 0) (fCons (fCB oLen (fCons (fV 2) fNil)) fNil))) fNil))))
theorem gN1 {a c d : Sl} {t : D} {s1 : Sl} (h : fr s1) : gN 1 t [a, s1, c, d] = some [a, .va t, c, d] := by
  simp [fr] at h
  simp [h]
theorem let_loop : ∀ (items : List D) (x y : Int) (L : List D) (f : List Nat) (s1 : Sl), PoolOk x y → fr s1 → (∀ d ∈ L, one d) → items.length ≤ L.length → L.length ≤ 8 → f.length + items.length ≤ 100 → (∀ c ∈ f, isI c = true) →
    ∃ x' y' L' f' t1, loop (gN 1) bodyLet items [pool x y, s1, .ce false (.lst L), .va (.str f)] = .nx [pool x' y', t1, .ce false (.lst L'), .va (.str f')] ∧ PoolOk x' y' ∧ f'.length = f.length + items.length ∧ (∀ c ∈ f', isI c = true)
  | [], x, y, L, f, s1, hp, _, _, _, _, _, hf => ⟨x, y, L, f, s1, rfl, hp, by simp, hf⟩
  | t :: items, x, y, L, f, s1, hp, h1, hL, hl, h8, h100, hf => by
    rw [List.length_cons] at hl h100
    obtain ⟨d, x', y', hd, d0, d1, hp'⟩ := draw_ok (n := L.length) hp (by omega) (by omega)
    have hlt : d.toNat < L.length := by omega
    have hm : L[d.toNat]'hlt ∈ L := List.getElem_mem hlt
    obtain ⟨c, hc, hi⟩ := hL _ hm
    have hg : L[d.toNat]? = some (.str [c]) := by rw [List.getElem?_eq_getElem hlt, hc]
    have hbody : bodyLet [pool x y, .va t, .ce false (.lst L), .va (.str f)] = .nx [pool x' y', .va t, .ce false (.lst (L.eraseIdx d.toNat)), .va (.str (f ++ [c]))] := by
      unfold bodyLet
      simp [hd, d0, hg, LIM_eq, show L.length ≤ 1000000 by omega, show f.length + 1 ≤ 1000000 by omega]
    obtain ⟨x2, y2, L2, f2, t2, e1, e2, e3, e4⟩ := let_loop items x' y' (L.eraseIdx d.toNat) (f ++ [c]) (.va t) hp' rfl (fun z hz => hL z (List.mem_of_mem_eraseIdx hz)) (by rw [List.length_eraseIdx, if_pos hlt]; omega) (by rw [List.length_eraseIdx, if_pos hlt]; omega) (by simp; omega)
      (fun z hz => by
        rcases List.mem_append.mp hz with hz | hz
        · exact hf z hz
        · simp at hz; subst hz; exact hi)
    refine ⟨x2, y2, L2, f2, t2, ?_, e2, ?_, e4⟩
    · rw [loop_nx (gN1 h1) hbody]; exact e1
    · rw [e3]; simp; omega
theorem rngs_len (lo : Int) (n : Nat) : (rngs lo n).length = n := by
  induction n generalizing lo with
  | zero => rfl
  | succ n ih => simp [rngs, ih]
theorem letters_run {x y : Int} (hp : PoolOk x y) : ∃ x' y' f, m_law_letters [pool x y] = .ok (.d (.str f), [pool x' y']) ∧ PoolOk x' y' ∧ 0 < f.length ∧ f.length ≤ 4 ∧ ∀ c ∈ f, isI c = true := by
  obtain ⟨d, x1, y1, hd, d0, d1, hp1⟩ := draw_ok (n := 4) hp (by omega) (by omega)
  have s1 : fParC 2 3 (fCB oList (fCons (fC (.str [97, 98, 99, 100, 101, 102, 103, 104])) fNil)) (.str []) [pool x y, .un, .un, .un] = .nx [pool x y, .un, .ce false (.lst (chrs [97, 98, 99, 100, 101, 102, 103, 104])), .va (.str [])] := by
    simp [LIM_eq]
  have s2 : fRg1 (fCons (fBin oAdd (fC (.int 1)) (fCall m_law_draw [true, false] [] (fCons (fV 0) (fCons (fC (.int 4)) fNil)))) fNil) [pool x y, .un, .ce false (.lst (chrs [97, 98, 99, 100, 101, 102, 103, 104])), .va (.str [])] = .ok (rngs 0 (1 + d).toNat, [pool x1 y1, .un, .ce false (.lst (chrs [97, 98, 99, 100, 101, 102, 103, 104])), .va (.str [])]) := by
    have hr : RB (1 + d) = true := by unfold RB; simp; omega
    simp [hd, hr]
  obtain ⟨x2, y2, L2, f2, t2, e1, e2, e3, e4⟩ := let_loop (rngs 0 (1 + d).toNat) x1 y1 (chrs [97, 98, 99, 100, 101, 102, 103, 104]) [] .un hp1 rfl (fun z hz => by
      obtain ⟨c, hc, rfl⟩ := List.mem_map.mp hz
      exact ⟨c, rfl, by simpa [isI] using hc⟩) (by rw [rngs_len]; simp; omega) (by simp) (by rw [rngs_len]; simp; omega) (by simp)
  rw [rngs_len] at e3
  refine ⟨x2, y2, f2, ?_, e2, by simp at e3; omega, by simp at e3; omega, e4⟩
  unfold m_law_letters
  refine mDef_d (e := [pool x2 y2, t2, .ce false (.lst L2), .va (.str f2)]) ?_ (by simp)
  show b_law_letters [pool x y, .un, .un, .un] = _
  exact (fSeq_nx s1).trans ((fSeq_nx ((fFor_ok (b := bodyLet) s2).trans e1)).trans (fRet_d (by simp)))
/-! ### words of drawn letters -/
def eltIt : FE := (fBin oIx (fV 1) (fCall m_law_draw [true, false] [] (fCons (fV 0) (fCons (fCB oLen (fCons (fV 1) fNil)) fNil))))
theorem it_loop {l : List Nat} {w2 : Sl} (h0 : 0 < l.length) (h1 : l.length ≤ 100) (hI : ∀ c ∈ l, isC c = true) : ∀ (items acc : List D) (x y : Int) (s3 : Sl), PoolOk x y → acc.length + items.length ≤ 1000 → (∃ f : List Nat, txts acc = some (f.map fun c => [c]) ∧ (∀ c ∈ f, c ∈ l) ∧ f.length = acc.length) →
    ∃ x' y' s3' acc', cloop [3] (gN 3) fYes eltIt items acc [pool x y, .va (.str l), w2, s3] = .ok (acc', [pool x' y', .va (.str l), w2, s3']) ∧ PoolOk x' y' ∧ acc'.length = acc.length + items.length ∧ ∃ f : List Nat, txts acc' = some (f.map fun c => [c]) ∧ (∀ c ∈ f, c ∈ l) ∧ f.length = acc'.length
  | [], acc, x, y, s3, hp, _, hf => ⟨x, y, s3, acc, by simp [cloop], hp, by simp, hf⟩
  | t :: items, acc, x, y, s3, hp, hl, ⟨f, hf1, hf2, hf3⟩ => by
    rw [List.length_cons] at hl
    obtain ⟨d, x', y', hd, d0, d1, hp'⟩ := draw_ok (n := l.length) hp (by omega) (by omega)
    have hlt : d.toNat < l.length := by omega
    have hg : l[d.toNat]? = some (l[d.toNat]'hlt) := List.getElem?_eq_getElem hlt
    have hm : l[d.toNat]'hlt ∈ l := List.getElem_mem hlt
    generalize l[d.toNat]'hlt = c at hg hm
    have he : eltIt [pool x y, .va (.str l), w2, .va t] = .ok (.d (.str [c]), [pool x' y', .va (.str l), w2, .va t]) := by
      unfold eltIt
      simp [hd, d0, hg, LIM_eq, show l.length ≤ 1000000 by omega]
    have htx : ∀ (a : List D) (b : List (List Nat)), txts a = some b → txts (a ++ [.str [c]]) = some (b ++ [[c]]) := by
      intro a
      induction a with
      | nil => intro b hb; cases hb; rfl
      | cons z a ih =>
        intro b hb
        cases z with
        | str q =>
          simp only [txts, Option.map_eq_some_iff] at hb
          obtain ⟨b', hb1, rfl⟩ := hb
          simp [txts, ih b' hb1]
        | _ => simp only [txts] at hb; cases hb
    obtain ⟨x2, y2, s2, acc2, e1, e2, e3, e4⟩ := it_loop h0 h1 hI items (acc ++ [.str [c]]) x' y' (.va t) hp' (by simp; omega) ⟨f ++ [c], by rw [htx _ _ hf1]; simp, fun z hz => by
        rcases List.mem_append.mp hz with hz | hz
        · exact hf2 z hz
        · simp at hz; subst hz; exact hm, by simp [hf3]⟩
    refine ⟨x2, y2, s2, acc2, ?_, e2, by rw [e3]; simp; omega, e4⟩
    have hlim : acc.length < LIM := by rw [LIM_eq]; omega
    rw [← e1]
    show (do
      let e1 ← R.of (gN 3 t (wipeE [pool x y, .va (.str l), w2, s3] [3]))
      let (b, e2) ← noex (fYes e1)
      if b = true then do
        let (p, e3) ← noex (eltIt e2)
        let (y, e4) ← DL.settle e3 p
        if acc.length < LIM then cloop [3] (gN 3) fYes eltIt items (acc ++ [y]) e4 else .no
      else cloop [3] (gN 3) fYes eltIt items acc e2) = _
    rw [show gN 3 t (wipeE [pool x y, .va (.str l), w2, s3] [3]) = some [pool x y, .va (.str l), w2, .va t] from rfl]
    simp only [R.of, R.bind_ok, fYes_ev, noex_ok, if_true, he, DL.settle, if_pos hlim]
theorem join_one (f : List Nat) : joinN [] (f.map fun c => [c]) = f := by
  induction f with
  | nil => rfl
  | cons c f ih =>
    cases f with
    | nil => rfl
    | cons c' f =>
      show [c] ++ [] ++ joinN [] ((c' :: f).map fun c => [c]) = _
      rw [ih]; rfl
theorem items_run {x y : Int} {l : List Nat} {n : Int} (hp : PoolOk x y) (h0 : 0 < l.length) (h1 : l.length ≤ 100) (hI : ∀ c ∈ l, isC c = true) (n0 : 0 ≤ n) (n1 : n ≤ 100) : ∃ x' y' f, m_law_items [pool x y, .va (.str l), .va (.int n)] = .ok (.d (.str f), [pool x' y', .un, .un]) ∧ PoolOk x' y' ∧ (f.length : Int) ≤ n ∧ ∀ c ∈ f, c ∈ l := by
  obtain ⟨d, x1, y1, hd, d0, d1, hp1⟩ := draw_ok (n := n + 1) hp (by omega) (by omega)
  have hr : RB d = true := by unfold RB; simp; omega
  have s1 : fRg1 (fCons (fCall m_law_draw [true, false] [] (fCons (fV 0) (fCons (fBin oAdd (fV 2) (fC (.int 1))) fNil))) fNil) [pool x y, .va (.str l), .va (.int n), .un] = .ok (rngs 0 d.toNat, [pool x1 y1, .va (.str l), .va (.int n), .un]) := by
    simp [hd, hr]
  obtain ⟨x2, y2, s3, acc, e1, e2, e3, f, e4, e5, e6⟩ := it_loop (w2 := .va (.int n)) h0 h1 hI (rngs 0 d.toNat) [] x1 y1 .un hp1 (by rw [rngs_len]; simp; omega) ⟨[], rfl, by simp, rfl⟩
  rw [rngs_len] at e3
  have hlc : fLc [3] (gN 3) (fRg1 (fCons (fCall m_law_draw [true, false] [] (fCons (fV 0) (fCons (fBin oAdd (fV 2) (fC (.int 1))) fNil))) fNil)) fYes eltIt [pool x y, .va (.str l), .va (.int n), .un] = .ok (.nw (.lst acc), [pool x2 y2, .va (.str l), .va (.int n), .un]) := by
    rw [fLc_ev, s1]
    simp only [R.bind_ok, e1]
    simp
  have e3 : acc.length = d.toNat := by simpa using e3
  refine ⟨x2, y2, f, ?_, e2, by omega, e5⟩
  have hj : joinB [] (f.map fun c => [c]) = true := by
    unfold joinB
    have : ((f.map fun c => [c]).map (·.length)).sum = f.length := by
      clear e4 e5 e6
      induction f with
      | nil => rfl
      | cons c f ih => simp only [List.map_cons, List.sum_cons, List.length_cons, List.length_nil] at ih ⊢; omega
    rw [this, decide_eq_true_eq, LIM_eq]; simp; omega
  unfold m_law_items
  refine mDef_d (e := [pool x2 y2, .va (.str l), .va (.int n), .un]) ?_ (by simp)
  show fRet (fMt "str" oJoin (fC (.str [])) (fCons (fLc [3] (gN 3) (fRg1 (fCons (fCall m_law_draw [true, false] [] (fCons (fV 0) (fCons (fBin oAdd (fV 2) (fC (.int 1))) fNil))) fNil)) fYes eltIt) fNil)) [pool x y, .va (.str l), .va (.int n), .un] = _
  refine fRet_d ?_
  rw [fMt_ev]
  simp [hlc, e4, hj, join_one, -fLc_ev]
end K17
set_option maxHeartbeats 4000000
set_option maxRecDepth 100000
namespace K17
open PySem PySem.Spec PyProof.Rows L2 DL
structure Good (p q : List Nat) : Prop where
  hp : ∀ c ∈ p, isC c = true
  lp : p.length ≤ 400
  hq : ∀ c ∈ q, isI c = true
  lq : q.length ≤ 400
theorem call2 {m : FM} {i j : Nat} {P Q : D} {e : DL.Env} {pv : PV} (hi : gt e i = .va P) (hj : gt e j = .va Q) (hm : m [.va P, .va Q] = .ok (pv, [.un, .un])) : fCall m [false, false] [] (fCons (fV i) (fCons (fV j) fNil)) e = .ok (pv, e) := by
  simp [hi, hj, hm]
theorem due_eq (f : Bool → Bool) (o : Option (List Nat)) : oEq f (dueD o) (dueD o) = some (.at (.bl (f true))) := by
  cases o with
  | none => simp [dueD, eqD]
  | some r =>
    unfold dueD
    by_cases h : 400 < r.length
    · simp only [if_pos h]
      have : okD 60 (.lst [.str [108, 105, 109, 105, 116], .int 400, .bl true]) = true := by decide
      have h2 : eqD (.lst [.str [108, 105, 109, 105, 116], .int 400, .bl true]) (.lst [.str [108, 105, 109, 105, 116], .int 400, .bl true]) = true := by decide
      simp [this, h2]
    · simp only [if_neg h]; simp [eqD]
theorem cmp_td {f : Bool → Bool} {i j : Nat} {p q : List Nat} {e : DL.Env} (hi : gt e i = .va (.str p)) (hj : gt e j = .va (.str q)) (g : Good p q) :
    fBin (oEq f) (fCall m_law_told [false, false] [] (fCons (fV i) (fCons (fV j) fNil))) (fCall m_law_due [false, false] [] (fCons (fV i) (fCons (fV j) fNil))) e = .ok (.d (.bl (f true)), e) := by
  have h1 := call2 hi hj (told_good g.hp g.lp g.hq g.lq)
  have h2 := call2 hi hj (due_run (p := p) (it := q) g.hp (by have := g.lp; have := g.lq; rw [LIM_eq]; omega))
  have lk : ∀ o : Option (List Nat), look e (hold (duePV o)) = some (dueD o) := by
    intro o; cases o with
    | none => rfl
    | some r => unfold duePV dueD; by_cases h : 400 < r.length <;> simp [h]
  have lk2 : ∀ o : Option (List Nat), look e (duePV o) = some (dueD o) := by
    intro o; cases o with
    | none => rfl
    | some r => unfold duePV dueD; by_cases h : 400 < r.length <;> simp [h]
  exact fBin_ok h1 h2 (lk _) (lk2 _) (due_eq f _)
/-! ### long words -/
theorem flat_rep (n c : Nat) : (List.replicate n [c]).flatten = List.replicate n c := by
  induction n with
  | zero => rfl
  | succ n ih => simp [List.replicate_succ, ih]
theorem up_isC {c : Nat} (h : isI c = true) : isC (up1 c) = true := by
  rw [isI_iff] at h; rw [isC_iff]; unfold up1; split <;> omega
theorem isI_isC {c : Nat} (h : isI c = true) : isC c = true := by rw [isI_iff] at h; rw [isC_iff]; omega
theorem all_rep {f : Nat → Bool} {n c : Nat} (h : f c = true) : ∀ x ∈ List.replicate n c, f x = true := fun x hx => by rw [(List.mem_replicate.mp hx).2]; exact h
theorem all_app {f : Nat → Bool} {a b : List Nat} (h : ∀ x ∈ a, f x = true) (k : ∀ x ∈ b, f x = true) : ∀ x ∈ a ++ b, f x = true := fun x hx => (List.mem_append.mp hx).elim (h x) (k x)
abbrev cmpB : FS := (fIf (fTst (fBin (oEq not) (fCall m_law_told [false, false] [] (fCons (fV 6) (fCons (fV 3) fNil))) (fCall m_law_due [false, false] [] (fCons (fV 6) (fCons (fV 3) fNil))))) (fRet (fC (.bl false))) fSkip)
theorem cmpB_ok {e : DL.Env} {p q : List Nat} (hi : gt e 6 = .va (.str p)) (hj : gt e 3 = .va (.str q)) (g : Good p q) : cmpB e = .nx e := by
  exact fIf_ok (fTst_ok (cmp_td (f := not) hi hj g))
theorem long_run {x y : Int} {a b : Nat} (hp : PoolOk x y) (ha : isI a = true) (hb : isI b = true) : ∃ x' y', m_law_long [pool x y, .va (.str [a]), .va (.str [b])] = .ok (.d (.bl true), [pool x' y', .un, .un]) ∧ PoolOk x' y' := by
  obtain ⟨d1, x1, y1, e1, d10, d11, p1⟩ := draw_ok (n := 3) hp (by omega) (by omega)
  obtain ⟨d2, x2, y2, e2, d20, d21, p2⟩ := draw_ok (n := 3) p1 (by omega) (by omega)
  obtain ⟨d3, x3, y3, e3, d30, d31, p3⟩ := draw_ok (n := 9) p2 (by omega) (by omega)
  obtain ⟨d4, x4, y4, e4, d40, d41, p4⟩ := draw_ok (n := 5) p3 (by omega) (by omega)
  obtain ⟨d5, x5, y5, e5, d50, d51, p5⟩ := draw_ok (n := 201) p4 (by omega) (by omega)
  have a128 : a < 128 := by rw [isI_iff] at ha; omega
  let IT := List.replicate d1.toNat b ++ List.replicate (395 + d2).toNat a
  let T1 := List.replicate d3.toNat a ++ List.replicate d4.toNat (up1 a)
  let T2 := List.replicate 200 a ++ List.replicate 200 (up1 a)
  let T3 := List.replicate 199 a ++ [up1 a] ++ List.replicate d5.toNat a
  let T4 := List.replicate 392 a ++ List.replicate d3.toNat (up1 a)
  have gI : ∀ c ∈ IT, isI c = true := all_app (all_rep hb) (all_rep ha)
  have lI : IT.length ≤ 400 := by simp [IT, -List.reduceReplicate]; omega
  have ua := up_isC ha
  have ca := isI_isC ha
  have g1 : Good T1 IT := ⟨all_app (all_rep ca) (all_rep ua), by simp [T1, -List.reduceReplicate]; omega, gI, lI⟩
  have g2 : Good T2 IT := ⟨all_app (all_rep ca) (all_rep ua), by simp [T2, -List.reduceReplicate], gI, lI⟩
  have g3 : Good T3 IT := ⟨all_app (all_app (all_rep ca) (fun z hz => by simp at hz; rw [hz]; exact ua)) (all_rep ca), by simp [T3, -List.reduceReplicate]; omega, gI, lI⟩
  have g4 : Good T4 IT := ⟨all_app (all_rep ca) (all_rep ua), by simp [T4, -List.reduceReplicate]; omega, gI, lI⟩
  have g5 : Good T4 [a] := ⟨g4.hp, g4.lp, fun z hz => by simp at hz; rw [hz]; exact ha, by simp⟩
  refine ⟨x5, y5, ?_, p5⟩
  unfold m_law_long
  refine mDef_d (e := [pool x5 y5, .va (.str [a]), .va (.str [b]), .va (.str IT), .va (.int d3), .va (.lst [.str T1, .str T2, .str T3]), .va (.str T4)]) ?_ (by simp)
  show b_law_long [pool x y, .va (.str [a]), .va (.str [b]), .un, .un, .un, .un] = _
  have s1 : fSet 3 (fBin oAdd (fBin oMul (fV 2) (fCall m_law_draw [true, false] [] (fCons (fV 0) (fCons (fC (.int 3)) fNil)))) (fBin oMul (fV 1) (fBin oAdd (fC (.int 395)) (fCall m_law_draw [true, false] [] (fCons (fV 0) (fCons (fC (.int 3)) fNil)))))) [pool x y, .va (.str [a]), .va (.str [b]), .un, .un, .un, .un] = .nx [pool x2 y2, .va (.str [a]), .va (.str [b]), .va (.str IT), .un, .un, .un] := by
    simp [-List.reduceReplicate, e1, e2, flat_rep, LIM_eq, IT, show -4611686018427387904 < d1 by omega, show d1 < 4611686018427387904 by omega, show d1.toNat ≤ 1000000 by omega, show -4611686018427387904 < 395 + d2 by omega, show 395 + d2 < 4611686018427387904 by omega, show (395 + d2).toNat ≤ 1000000 by omega, show d1.toNat + (395 + d2).toNat ≤ 1000000 by omega]
  have s2 : fSet 4 (fCall m_law_draw [true, false] [] (fCons (fV 0) (fCons (fC (.int 9)) fNil))) [pool x2 y2, .va (.str [a]), .va (.str [b]), .va (.str IT), .un, .un, .un] = .nx [pool x3 y3, .va (.str [a]), .va (.str [b]), .va (.str IT), .va (.int d3), .un, .un] := by
    simp [e3]
  have s3 : fSet 5 (fLst (fCons (fBin oAdd (fBin oMul (fV 1) (fV 4)) (fBin oMul (fMt0 "str" oUpper (fV 1)) (fCall m_law_draw [true, false] [] (fCons (fV 0) (fCons (fC (.int 5)) fNil))))) (fCons (fBin oAdd (fBin oMul (fV 1) (fC (.int 200))) (fBin oMul (fMt0 "str" oUpper (fV 1)) (fC (.int 200)))) fNil))) [pool x3 y3, .va (.str [a]), .va (.str [b]), .va (.str IT), .va (.int d3), .un, .un] = .nx [pool x4 y4, .va (.str [a]), .va (.str [b]), .va (.str IT), .va (.int d3), .ce false (.lst [.str T1, .str T2]), .un] := by
    simp [-List.reduceReplicate, e4, flat_rep, LIM_eq, T1, T2, ascii, a128, show -4611686018427387904 < d3 by omega, show d3 < 4611686018427387904 by omega, show d3.toNat ≤ 1000000 by omega, show -4611686018427387904 < d4 by omega, show d4 < 4611686018427387904 by omega, show d4.toNat ≤ 1000000 by omega, show d3.toNat + d4.toNat ≤ 1000000 by omega]
  have s4 : fDrop (fMu 5 "list" oApp (fCons (fBin oAdd (fBin oAdd (fBin oMul (fV 1) (fC (.int 199))) (fMt0 "str" oUpper (fV 1))) (fBin oMul (fV 1) (fCall m_law_draw [true, false] [] (fCons (fV 0) (fCons (fC (.int 201)) fNil))))) fNil)) [pool x4 y4, .va (.str [a]), .va (.str [b]), .va (.str IT), .va (.int d3), .ce false (.lst [.str T1, .str T2]), .un] = .nx [pool x5 y5, .va (.str [a]), .va (.str [b]), .va (.str IT), .va (.int d3), .ce false (.lst [.str T1, .str T2, .str T3]), .un] := by
    simp [-List.reduceReplicate, e5, flat_rep, LIM_eq, T3, ascii, a128, show -4611686018427387904 < d5 by omega, show d5 < 4611686018427387904 by omega, show d5.toNat ≤ 1000000 by omega, show 199 + (1 + d5.toNat) ≤ 1000000 by omega, show 199 + 1 + d5.toNat ≤ 1000000 by omega, show 200 + d5.toNat ≤ 1000000 by omega]
  have s5 : fFor (gN 6) (fItA (fV 5)) cmpB [pool x5 y5, .va (.str [a]), .va (.str [b]), .va (.str IT), .va (.int d3), .ce false (.lst [.str T1, .str T2, .str T3]), .un] = .nx [pool x5 y5, .va (.str [a]), .va (.str [b]), .va (.str IT), .va (.int d3), .va (.lst [.str T1, .str T2, .str T3]), .va (.str T3)] := by
    rw [fFor_ok (items := [.str T1, .str T2, .str T3]) (e1 := [pool x5 y5, .va (.str [a]), .va (.str [b]), .va (.str IT), .va (.int d3), .va (.lst [.str T1, .str T2, .str T3]), .un]) (by simp)]
    rw [loop_nx rfl (cmpB_ok (p := T1) (q := IT) rfl rfl g1), loop_nx rfl (cmpB_ok (p := T2) (q := IT) rfl rfl g2), loop_nx rfl (cmpB_ok (p := T3) (q := IT) rfl rfl g3)]
    rfl
  have s6 : fSet 6 (fBin oAdd (fBin oMul (fV 1) (fC (.int 392))) (fBin oMul (fMt0 "str" oUpper (fV 1)) (fV 4))) [pool x5 y5, .va (.str [a]), .va (.str [b]), .va (.str IT), .va (.int d3), .va (.lst [.str T1, .str T2, .str T3]), .va (.str T3)] = .nx [pool x5 y5, .va (.str [a]), .va (.str [b]), .va (.str IT), .va (.int d3), .va (.lst [.str T1, .str T2, .str T3]), .va (.str T4)] := by
    simp [-List.reduceReplicate, flat_rep, LIM_eq, T4, ascii, a128, show -4611686018427387904 < d3 by omega, show d3 < 4611686018427387904 by omega, show d3.toNat ≤ 1000000 by omega, show 392 + d3.toNat ≤ 1000000 by omega]
  refine (fSeq_nx s1).trans ((fSeq_nx s2).trans ((fSeq_nx s3).trans ((fSeq_nx s4).trans ((fSeq_nx s5).trans ((fSeq_nx s6).trans (fRet_d ?_))))))
  rw [fAndV_ev, cmp_td (f := id) (p := T4) (q := IT) rfl rfl g4]
  exact cmp_td (f := id) (p := T4) (q := [a]) rfl rfl g5
end K17
set_option maxHeartbeats 4000000
set_option maxRecDepth 100000
namespace K17
open PySem PySem.Spec PyProof.Rows L2 DL
/-! ### what is no program and no word -/
structure Bad (v : D) : Prop where
  p : m_is_program [.va v] = .ok (.d (.bl false), [.un])
  w : m_is_word [.va v] = .ok (.d (.bl false), [.un])
  s : (match shown v with | some s => s.all (· < 0x110000) | none => false) = true
theorem Bad.shows {v : D} (h : Bad v) : ∃ s, shown v = some s ∧ okD 60 (.str s) = true := by
  have := h.s
  cases e : shown v with
  | none => rw [e] at this; cases this
  | some s => rw [e] at this; exact ⟨s, rfl, by simp only [okD]; exact this⟩
theorem bad_str {l : List Nat} (hL : l.length ≤ LIM) (h1 : (decide (l.length ≤ 400) && l.all isC) = false) (h2 : (decide (l.length ≤ 400) && l.all isI) = false) (h : (match shown (.str l) with | some s => s.all (· < 0x110000) | none => false) = true) : Bad (.str l) :=
  ⟨by rw [prog_run hL, h1], by rw [word_run hL, h2], h⟩
theorem bad_no {v : D} (hi : isD .str v = some false) (h : (match shown v with | some s => s.all (· < 0x110000) | none => false) = true) : Bad v :=
  ⟨by simp [m_is_program, mDef, b_is_program, hi, -isD], by simp [m_is_word, mDef, b_is_word, hi, -isD], h⟩
theorem eq_ps {a s : List Nat} {f : Bool → Bool} (ha : okD 60 (.str a) = true) (h : okD 60 (.str s) = true) : oEq f (.lst [.str a, .str s]) (.lst [.str a, .str s]) = some (.at (.bl (f true))) := by
  have h1 : okD 60 (.lst [.str a, .str s]) = true := by
    simp only [okD, okDL] at ha h ⊢
    rw [ha, h]; rfl
  have h2 : eqD (.lst [.str a, .str s]) (.lst [.str a, .str s]) = true := by simp [eqD, eqDL]
  unfold oEq
  rw [h1, h2]; simp
abbrev bodyB : FS := (fIf (fOr (fTst (fBin (oEq not) (fCall m_law_told [false, false] [] (fCons (fV 1) (fCons (fC .non) fNil))) (fLst (fCons (fC (.str [112, 114, 111, 103, 114, 97, 109])) (fCons (fCB oRepr (fCons (fV 1) fNil)) fNil))))) (fTst (fBin (oEq not) (fCall m_law_told [false, false] [] (fCons (fC (.str [65, 97])) (fCons (fV 1) fNil))) (fLst (fCons (fC (.str [119, 111, 114, 100])) (fCons (fCB oRepr (fCons (fV 1) fNil)) fNil)))))) (fRet (fC (.bl false))) fSkip)
theorem bodyB_ok {v : D} {e : DL.Env} (h : gt e 1 = .va v) (b : Bad v) : bodyB e = .nx e := by
  obtain ⟨s, hs, ok⟩ := b.shows
  have t1 := told_badp (q := .non) b.p hs
  have hA : m_is_program [.va (.str [65, 97])] = .ok (.d (.bl true), [.un]) := by rw [prog_run (by decide)]; rfl
  have t2 := told_badw hA b.w hs
  have q1 := eq_ps (a := [112, 114, 111, 103, 114, 97, 109]) (f := not) (by decide) ok
  have q2 := eq_ps (a := [119, 111, 114, 100]) (f := not) (by decide) ok
  have c1 : fTst (fBin (oEq not) (fCall m_law_told [false, false] [] (fCons (fV 1) (fCons (fC .non) fNil))) (fLst (fCons (fC (.str [112, 114, 111, 103, 114, 97, 109])) (fCons (fCB oRepr (fCons (fV 1) fNil)) fNil)))) e = .ok (false, e) := by
    refine fTst_ok (fBin_ok (pa := .nw (.lst [sP, .str s])) (pb := .nw (.lst [sP, .str s])) (e1 := e) (by simp [h, t1]) (by simp [h, hs, LIM_eq]) rfl rfl q1)
  have c2 : fTst (fBin (oEq not) (fCall m_law_told [false, false] [] (fCons (fC (.str [65, 97])) (fCons (fV 1) fNil))) (fLst (fCons (fC (.str [119, 111, 114, 100])) (fCons (fCB oRepr (fCons (fV 1) fNil)) fNil)))) e = .ok (false, e) := by
    refine fTst_ok (fBin_ok (pa := .nw (.lst [sW, .str s])) (pb := .nw (.lst [sW, .str s])) (e1 := e) (by simp [h, t2]) (by simp [h, hs, LIM_eq]) rfl rfl q2)
  refine (fIf_ok (b := false) (e1 := e) ?_).trans rfl
  rw [fOr_ev, c1]
  exact c2
def BV : List D := [.non, .int 5, .str [105], .str [97, 32, 98], .str (List.replicate 401 97), .lst [.str [97]], .tup [.str [97]], .bl true, .dic [] [], .lst [.int 0], .tup [.int 0, .lst []]]
theorem bad_all : ∀ v ∈ BV, Bad v := by
  intro v hv
  simp only [BV, List.mem_cons, List.not_mem_nil, or_false] at hv
  rcases hv with rfl | rfl | rfl | rfl | rfl | rfl | rfl | rfl | rfl | rfl | rfl
  · exact bad_no rfl (by decide +kernel)
  · exact bad_no rfl (by decide +kernel)
  · exact bad_str (by decide) (by decide) (by decide) (by decide +kernel)
  · exact bad_str (by decide) (by decide) (by decide) (by decide +kernel)
  · exact bad_str (by decide +kernel) (by decide +kernel) (by decide +kernel) (by decide +kernel)
  · exact bad_no rfl (by decide +kernel)
  · exact bad_no rfl (by decide +kernel)
  · exact bad_no rfl (by decide +kernel)
  · exact bad_no rfl (by decide +kernel)
  · exact bad_no rfl (by decide +kernel)
  · exact bad_no rfl (by decide +kernel)
theorem bad_loop {S s2 s3 s4 s5 s6 s7 : Sl} : ∀ (items : List D) (s1 : Sl), fr s1 → (∀ v ∈ items, Bad v) → ∃ t, loop (gN 1) bodyB items [S, s1, s2, s3, s4, s5, s6, s7] = .nx [S, t, s2, s3, s4, s5, s6, s7] ∧ fr t
  | [], s1, h1, _ => ⟨s1, rfl, h1⟩
  | v :: items, s1, h1, hb => by
    have hg : gN 1 v [S, s1, s2, s3, s4, s5, s6, s7] = some [S, .va v, s2, s3, s4, s5, s6, s7] := by
      simp [fr] at h1
      simp [h1]
    obtain ⟨t, e1, e2⟩ := bad_loop items (.va v) rfl fun z hz => hb z (List.mem_cons_of_mem _ hz)
    exact ⟨t, by rw [loop_nx hg (bodyB_ok rfl (hb v List.mem_cons_self))]; exact e1, e2⟩
/-! ### one turn -/
abbrev bodyT : FS := (fSeq (fSet 6 (fCall m_law_items [true, false, false] [] (fCons (fV 3) (fCons (fV 4) (fCons (fC (.int 9)) fNil)))))
    (fSeq (fSet 7 (fCall m_law_items [true, false, false] [] (fCons (fV 3) (fCons (fBin oAdd (fV 4) (fMt0 "str" oUpper (fV 4))) (fCons (fC (.int 12)) fNil)))))
    (fIf (fTst (fBin (oEq not) (fCall m_law_told [false, false] [] (fCons (fV 7) (fCons (fV 6) fNil))) (fCall m_law_due [false, false] [] (fCons (fV 7) (fCons (fV 6) fNil))))) (fRet (fC (.bl false))) fSkip)))
abbrev poolF (x y : Int) : Sl := .ce false (.lst [.int x, .int y])
theorem turn_loop {S s1 s2 : Sl} {f : List Nat} (f0 : 0 < f.length) (f4 : f.length ≤ 4) (fI : ∀ c ∈ f, isI c = true) : ∀ (items : List D) (x y : Int) (s5 s6 s7 : Sl), PoolOk x y → fr s5 → fr s6 → fr s7 →
    ∃ x' y' t5 t6 t7, loop (gN 5) bodyT items [S, s1, s2, poolF x y, .va (.str f), s5, s6, s7] = .nx [S, s1, s2, poolF x' y', .va (.str f), t5, t6, t7] ∧ fr t5 ∧ fr t6 ∧ fr t7
  | [], x, y, s5, s6, s7, hp, h5, h6, h7 => ⟨x, y, s5, s6, s7, rfl, h5, h6, h7⟩
  | t :: items, x, y, s5, s6, s7, hp, h5, h6, h7 => by
    have hfC : ∀ c ∈ f, isC c = true := fun c hc => isI_isC (fI c hc)
    have fU : ∀ c ∈ f ++ f.map up1, isC c = true := all_app hfC fun c hc => by
      obtain ⟨z, hz, rfl⟩ := List.mem_map.mp hc
      exact up_isC (fI z hz)
    obtain ⟨x1, y1, q, e1, p1, l1, m1⟩ := items_run (n := 9) hp f0 (by omega) hfC (by omega) (by omega)
    obtain ⟨x2, y2, p, e2, p2, l2, m2⟩ := items_run (l := f ++ f.map up1) (n := 12) p1 (by simp; omega) (by simp; omega) fU (by omega) (by omega)
    have hA : ascii f = true := by
      unfold ascii
      rw [List.all_eq_true]
      intro c hc
      have := lt128 (hfC c hc)
      simpa using this
    have hg : gN 5 t [S, s1, s2, poolF x y, .va (.str f), s5, s6, s7] = some [S, s1, s2, poolF x y, .va (.str f), .va t, s6, s7] := by
      simp [fr] at h5
      simp [h5]
    have b1 : fSet 6 (fCall m_law_items [true, false, false] [] (fCons (fV 3) (fCons (fV 4) (fCons (fC (.int 9)) fNil)))) [S, s1, s2, poolF x y, .va (.str f), .va t, s6, s7] = .nx [S, s1, s2, poolF x1 y1, .va (.str f), .va t, .va (.str q), s7] := by
      simp [fr] at h6
      simp [e1, h6]
    have b2 : fSet 7 (fCall m_law_items [true, false, false] [] (fCons (fV 3) (fCons (fBin oAdd (fV 4) (fMt0 "str" oUpper (fV 4))) (fCons (fC (.int 12)) fNil)))) [S, s1, s2, poolF x1 y1, .va (.str f), .va t, .va (.str q), s7] = .nx [S, s1, s2, poolF x2 y2, .va (.str f), .va t, .va (.str q), .va (.str p)] := by
      simp [fr] at h7
      simp [e2, h7, hA, LIM_eq, show f.length ≤ 1000000 by omega, show f.length + f.length ≤ 1000000 by omega]
    have g : Good p q := ⟨fun c hc => fU c (m2 c hc), by omega, fun c hc => fI c (m1 c hc), by omega⟩
    have b3 : bodyT [S, s1, s2, poolF x y, .va (.str f), .va t, s6, s7] = .nx [S, s1, s2, poolF x2 y2, .va (.str f), .va t, .va (.str q), .va (.str p)] := by
      refine (fSeq_nx b1).trans ((fSeq_nx b2).trans ?_)
      exact fIf_ok (fTst_ok (cmp_td (f := not) (i := 7) (j := 6) (p := p) (q := q) rfl rfl g))
    obtain ⟨x3, y3, t5, t6, t7, k1, k2, k3, k4⟩ := turn_loop f0 f4 fI items x2 y2 (.va t) (.va (.str q)) (.va (.str p)) p2 rfl rfl rfl
    exact ⟨x3, y3, t5, t6, t7, by rw [loop_nx hg b3]; exact k1, k2, k3, k4⟩
theorem next_item {c : Nat} (h : isI c = true) : ∃ (j b : Nat), seek c [97, 98, 99, 100, 101, 102, 103, 104] 0 = some j ∧ at? [97, 98, 99, 100, 101, 102, 103, 104] (((j : Int) + 1) % 8) = some b ∧ isI b = true := by
  have h := isI_iff.mp h
  have : c = 97 ∨ c = 98 ∨ c = 99 ∨ c = 100 ∨ c = 101 ∨ c = 102 ∨ c = 103 ∨ c = 104 := by omega
  rcases this with rfl | rfl | rfl | rfl | rfl | rfl | rfl | rfl
  · exact ⟨0, 98, by decide, by decide, by decide⟩
  · exact ⟨1, 99, by decide, by decide, by decide⟩
  · exact ⟨2, 100, by decide, by decide, by decide⟩
  · exact ⟨3, 101, by decide, by decide, by decide⟩
  · exact ⟨4, 102, by decide, by decide, by decide⟩
  · exact ⟨5, 103, by decide, by decide, by decide⟩
  · exact ⟨6, 104, by decide, by decide, by decide⟩
  · exact ⟨7, 97, by decide, by decide, by decide⟩
end K17
set_option maxHeartbeats 4000000
set_option maxRecDepth 100000
namespace K17
open PySem PySem.Spec PyProof.Rows L2 DL
abbrev bodyM : FS := (fSeq (fSet 3 (fCall m_law_pool [false, false] [] (fCons (fV 0) (fCons (fV 2) fNil))))
    (fSeq (fSet 4 (fCall m_law_letters [true] [] (fCons (fV 3) fNil)))
    (fSeq (fIf (fNot (fTst (fCall m_law_long [true, false, false] [] (fCons (fV 3) (fCons (fBin oIx (fV 4) (fC (.int 0))) (fCons (fBin oIx (fC (.str [97, 98, 99, 100, 101, 102, 103, 104])) (fBin oMod (fBin oAdd (fMt "str" oIndex (fC (.str [97, 98, 99, 100, 101, 102, 103, 104])) (fCons (fBin oIx (fV 4) (fC (.int 0))) fNil)) (fC (.int 1))) (fC (.int 8)))) fNil)))))) (fRet (fC (.bl false))) fSkip)
    (fFor (gN 5) (fRg1 (fCons (fC (.int 8)) fNil)) bodyT))))
theorem main_loop {ns : List Int} (hn : ns.length ≤ 63) {s1 : Sl} : ∀ (items : List D) (s2 s3 s4 s5 s6 s7 : Sl), (∀ t ∈ items, ∃ k : Int, t = .int k ∧ 0 ≤ k ∧ k < 1000) → fr s2 → fr s3 → fr s4 → fr s5 → fr s6 → fr s7 →
    ∃ t2 t3 t4 t5 t6 t7, loop (gN 2) bodyM items [.va (.fro (ns.map D.int)), s1, s2, s3, s4, s5, s6, s7] = .nx [.va (.fro (ns.map D.int)), s1, t2, t3, t4, t5, t6, t7]
  | [], s2, s3, s4, s5, s6, s7, _, _, _, _, _, _, _ => ⟨s2, s3, s4, s5, s6, s7, rfl⟩
  | t :: items, s2, s3, s4, s5, s6, s7, hi, h2, h3, h4, h5, h6, h7 => by
    obtain ⟨k, rfl, k0, k1⟩ := hi t List.mem_cons_self
    obtain ⟨x, y, e1, p1⟩ := pool_run hn k0 k1
    obtain ⟨x1, y1, f, e2, p2, f0, f4, fI⟩ := letters_run p1
    obtain ⟨a, r, rfl⟩ : ∃ a r, f = a :: r := by
      cases f with
      | nil => exact absurd f0 (by simp)
      | cons a r => exact ⟨a, r, rfl⟩
    have ha := fI a List.mem_cons_self
    obtain ⟨j, b, hj, hb, hbI⟩ := next_item ha
    obtain ⟨x2, y2, e3, p3⟩ := long_run (a := a) (b := b) p2 ha hbI
    have hl : (a :: r).length ≤ LIM := by rw [LIM_eq]; omega
    have hl2 : r.length + 1 ≤ LIM := hl
    have hg : gN 2 (.int k) [.va (.fro (ns.map D.int)), s1, s2, s3, s4, s5, s6, s7] = some [.va (.fro (ns.map D.int)), s1, .va (.int k), s3, s4, s5, s6, s7] := by
      simp [fr] at h2
      simp [h2]
    have b1 : fSet 3 (fCall m_law_pool [false, false] [] (fCons (fV 0) (fCons (fV 2) fNil))) [.va (.fro (ns.map D.int)), s1, .va (.int k), s3, s4, s5, s6, s7] = .nx [.va (.fro (ns.map D.int)), s1, .va (.int k), poolF x y, s4, s5, s6, s7] := by
      simp [fr] at h3
      simp [e1, h3]
    have b2 : fSet 4 (fCall m_law_letters [true] [] (fCons (fV 3) fNil)) [.va (.fro (ns.map D.int)), s1, .va (.int k), poolF x y, s4, s5, s6, s7] = .nx [.va (.fro (ns.map D.int)), s1, .va (.int k), poolF x1 y1, .va (.str (a :: r)), s5, s6, s7] := by
      simp [fr] at h4
      simp [e2, h4]
    have i0 : fBin oIx (fV 4) (fC (.int 0)) [.va (.fro (ns.map D.int)), s1, .va (.int k), poolF x1 y1, .va (.str (a :: r)), s5, s6, s7] = .ok (.d (.str [a]), [.va (.fro (ns.map D.int)), s1, .va (.int k), poolF x1 y1, .va (.str (a :: r)), s5, s6, s7]) := by
      simp [hl2]
    have i1 : fMt "str" oIndex (fC (.str [97, 98, 99, 100, 101, 102, 103, 104])) (fCons (fBin oIx (fV 4) (fC (.int 0))) fNil) [.va (.fro (ns.map D.int)), s1, .va (.int k), poolF x1 y1, .va (.str (a :: r)), s5, s6, s7] = .ok (.d (.int j), [.va (.fro (ns.map D.int)), s1, .va (.int k), poolF x1 y1, .va (.str (a :: r)), s5, s6, s7]) := by
      rw [fMt_ev]
      simp [-fBin_ev, i0, hj]
    have i2 : fBin oIx (fC (.str [97, 98, 99, 100, 101, 102, 103, 104])) (fBin oMod (fBin oAdd (fMt "str" oIndex (fC (.str [97, 98, 99, 100, 101, 102, 103, 104])) (fCons (fBin oIx (fV 4) (fC (.int 0))) fNil)) (fC (.int 1))) (fC (.int 8))) [.va (.fro (ns.map D.int)), s1, .va (.int k), poolF x1 y1, .va (.str (a :: r)), s5, s6, s7] = .ok (.d (.str [b]), [.va (.fro (ns.map D.int)), s1, .va (.int k), poolF x1 y1, .va (.str (a :: r)), s5, s6, s7]) := by
      have m1 := fBin_ok (op := oAdd) i1 (fC_ev (.int 1) _) rfl rfl rfl
      have m2 := fBin_ok (op := oMod) m1 (fC_ev (.int 8) _) rfl rfl (by simp; rfl)
      refine fBin_ok (op := oIx) (fC_ev _ _) m2 rfl rfl (rv := .at (.str [b])) ?_
      simp only [oIx, LIM_eq]
      rw [if_pos (by decide), hb]; rfl
    have b3 : fIf (fNot (fTst (fCall m_law_long [true, false, false] [] (fCons (fV 3) (fCons (fBin oIx (fV 4) (fC (.int 0))) (fCons (fBin oIx (fC (.str [97, 98, 99, 100, 101, 102, 103, 104])) (fBin oMod (fBin oAdd (fMt "str" oIndex (fC (.str [97, 98, 99, 100, 101, 102, 103, 104])) (fCons (fBin oIx (fV 4) (fC (.int 0))) fNil)) (fC (.int 1))) (fC (.int 8)))) fNil)))))) (fRet (fC (.bl false))) fSkip [.va (.fro (ns.map D.int)), s1, .va (.int k), poolF x1 y1, .va (.str (a :: r)), s5, s6, s7] = .nx [.va (.fro (ns.map D.int)), s1, .va (.int k), poolF x2 y2, .va (.str (a :: r)), s5, s6, s7] := by
      have c : fCall m_law_long [true, false, false] [] (fCons (fV 3) (fCons (fBin oIx (fV 4) (fC (.int 0))) (fCons (fBin oIx (fC (.str [97, 98, 99, 100, 101, 102, 103, 104])) (fBin oMod (fBin oAdd (fMt "str" oIndex (fC (.str [97, 98, 99, 100, 101, 102, 103, 104])) (fCons (fBin oIx (fV 4) (fC (.int 0))) fNil)) (fC (.int 1))) (fC (.int 8)))) fNil))) [.va (.fro (ns.map D.int)), s1, .va (.int k), poolF x1 y1, .va (.str (a :: r)), s5, s6, s7] = .ok (.d (.bl true), [.va (.fro (ns.map D.int)), s1, .va (.int k), poolF x2 y2, .va (.str (a :: r)), s5, s6, s7]) := by
        have v3 : fV 3 [.va (.fro (ns.map D.int)), s1, .va (.int k), poolF x1 y1, .va (.str (a :: r)), s5, s6, s7] = .ok (.sl 3, [.va (.fro (ns.map D.int)), s1, .va (.int k), poolF x1 y1, .va (.str (a :: r)), s5, s6, s7]) := rfl
        rw [fCall_ev]
        simp only [fCons_ev, fNil_ev, R.bind_ok, v3, i0, i2]
        simp [e3]
      refine (fIf_ok (b := false) ?_).trans rfl
      rw [fNot_ev, fTst_ok c]; rfl
    have s8 : fRg1 (fCons (fC (.int 8)) fNil) [.va (.fro (ns.map D.int)), s1, .va (.int k), poolF x2 y2, .va (.str (a :: r)), s5, s6, s7] = .ok (rngs 0 8, [.va (.fro (ns.map D.int)), s1, .va (.int k), poolF x2 y2, .va (.str (a :: r)), s5, s6, s7]) := by
      have hr : RB 8 = true := by decide
      simp [hr]
    obtain ⟨x3, y3, t5, t6, t7, k1, k2, k3, k4⟩ := turn_loop (S := .va (.fro (ns.map D.int))) (s1 := s1) (s2 := .va (.int k)) f0 f4 fI (rngs 0 8) x2 y2 s5 s6 s7 p3 h5 h6 h7
    have hb : bodyM [.va (.fro (ns.map D.int)), s1, .va (.int k), s3, s4, s5, s6, s7] = .nx [.va (.fro (ns.map D.int)), s1, .va (.int k), poolF x3 y3, .va (.str (a :: r)), t5, t6, t7] :=
      (fSeq_nx b1).trans ((fSeq_nx b2).trans ((fSeq_nx b3).trans ((fFor_ok s8).trans k1)))
    obtain ⟨u2, u3, u4, u5, u6, u7, e⟩ := main_loop hn (s1 := s1) items (.va (.int k)) (poolF x3 y3) (.va (.str (a :: r))) t5 t6 t7 (fun z hz => hi z (List.mem_cons_of_mem _ hz)) rfl rfl rfl k2 k3 k4
    exact ⟨u2, u3, u4, u5, u6, u7, by rw [loop_nx hg hb]; exact e⟩
theorem rngs_mem : ∀ (n : Nat) (lo : Int) (t : D), t ∈ rngs lo n → ∃ k : Int, t = .int k ∧ lo ≤ k ∧ k < lo + n
  | 0, lo, t, h => by simp [rngs] at h
  | n + 1, lo, t, h => by
    simp only [rngs, List.mem_cons] at h
    rcases h with rfl | h
    · exact ⟨lo, rfl, by omega, by omega⟩
    · obtain ⟨k, h1, h2, h3⟩ := rngs_mem n (lo + 1) t h
      exact ⟨k, h1, by omega, by omega⟩
theorem law_ok : LawOk 63 m_law := by
  intro ns hn
  let S : Sl := .va (.fro (ns.map D.int))
  -- values of other kinds
  have items1 : fItA (fLst (fCons (fC .non) (fCons (fC (.int 5)) (fCons (fC (.str [105])) (fCons (fC (.str [97, 32, 98])) (fCons (fBin oMul (fC (.str [97])) (fC (.int 401))) (fCons (fLst (fCons (fC (.str [97])) fNil)) (fCons (fTup (fCons (fC (.str [97])) fNil)) (fCons (fC (.bl true)) (fCons fDic0 (fCons (fLst (fCons (fC (.int 0)) fNil)) (fCons (fTup (fCons (fC (.int 0)) (fCons (fLst fNil) fNil))) fNil)))))))))))) [S, .un, .un, .un, .un, .un, .un, .un] = .ok (BV, [S, .un, .un, .un, .un, .un, .un, .un]) := by
    simp [LIM_eq, BV, flat_rep, -List.reduceReplicate]
  obtain ⟨t, l1, ft⟩ := bad_loop (S := S) (s2 := .un) (s3 := .un) (s4 := .un) (s5 := .un) (s6 := .un) (s7 := .un) BV .un rfl bad_all
  have st1 := (fFor_ok (b := bodyB) (g := gN 1) items1).trans l1
  -- 'aA' on 'A'
  have hA : m_is_program [.va (.str [97, 65])] = .ok (.d (.bl true), [.un]) := by rw [prog_run (by decide)]; rfl
  have hW : m_is_word [.va (.str [65])] = .ok (.d (.bl false), [.un]) := by rw [word_run (by decide)]; rfl
  have tA := told_badw (s := [39, 65, 39]) hA hW (by decide +kernel)
  have st2 : fIf (fTst (fBin (oEq not) (fCall m_law_told [false, false] [] (fCons (fC (.str [97, 65])) (fCons (fC (.str [65])) fNil))) (fLst (fCons (fC (.str [119, 111, 114, 100])) (fCons (fC (.str [39, 65, 39])) fNil))))) (fRet (fC (.bl false))) fSkip [S, t, .un, .un, .un, .un, .un, .un] = .nx [S, t, .un, .un, .un, .un, .un, .un] := by
    refine (fIf_ok (b := false) (fTst_ok (fBin_ok (pa := .nw (.lst [sW, .str [39, 65, 39]])) (pb := .nw (.lst [sW, .str [39, 65, 39]])) (e1 := [S, t, .un, .un, .un, .un, .un, .un]) (by simp [tA]) (by simp [LIM_eq]) rfl rfl (eq_ps (a := [119, 111, 114, 100]) (s := [39, 65, 39]) (f := not) (by decide) (by decide))))).trans rfl
  -- the turns
  obtain ⟨m, hm, m0, m6⟩ : ∃ m : Int, (if (if (ns.length : Int) < 6 then (ns.length : Int) else 6) > 1 then (if (ns.length : Int) < 6 then (ns.length : Int) else 6) else 1) = m ∧ 0 ≤ m ∧ m ≤ 6 := ⟨_, rfl, by split <;> split <;> omega, by split <;> split <;> omega⟩
  have hr : RB m = true := by unfold RB; simp; omega
  have st3 : fRg1 (fCons (fCB oMax2 (fCons (fC (.int 1)) (fCons (fCB oMin2 (fCons (fC (.int 6)) (fCons (fCB oLen (fCons (fV 0) fNil)) fNil))) fNil))) fNil) [S, t, .un, .un, .un, .un, .un, .un] = .ok (rngs 0 m.toNat, [S, t, .un, .un, .un, .un, .un, .un]) := by
    have c1 : fCB oMax2 (fCons (fC (.int 1)) (fCons (fCB oMin2 (fCons (fC (.int 6)) (fCons (fCB oLen (fCons (fV 0) fNil)) fNil))) fNil)) [S, t, .un, .un, .un, .un, .un, .un] = .ok (.d (.int m), [S, t, .un, .un, .un, .un, .un, .un]) := by
      simp [S]
      exact hm
    rw [fRg1_ev, fCons_ev, c1]
    simp [hr]
  obtain ⟨t2, t3, t4, t5, t6, t7, e⟩ := main_loop hn (s1 := t) (rngs 0 m.toNat) .un .un .un .un .un .un (fun z hz => by
    obtain ⟨k, h1, h2, h3⟩ := rngs_mem _ _ z hz
    exact ⟨k, h1, h2, by omega⟩) rfl rfl rfl rfl rfl rfl
  have st4 := (fFor_ok (b := bodyM) (g := gN 2) st3).trans e
  -- at the end
  have b1 := br_good (p := List.replicate 200 97) (q := List.replicate 200 98) (all_rep (by decide)) (by simp [-List.reduceReplicate]) (all_rep (by decide)) (by simp [-List.reduceReplicate])
  have b2 := br_good (p := []) (q := []) (by simp) (by simp) (by simp) (by simp)
  have b3 := br_good (p := [97, 66, 99]) (q := [98, 97, 98]) (by decide) (by decide) (by decide) (by decide)
  have v1 : bestN (List.replicate 200 97) (List.replicate 200 98) = some (List.replicate 200 98 ++ List.replicate 200 97) := by decide +kernel
  rw [v1] at b1
  simp only [List.length_append, List.length_replicate] at b1
  rw [if_neg (by decide)] at b1
  have b2 : m_best_result [.va (.str []), .va (.str [])] = .ok (.d (.str []), [.un, .un]) := b2
  have v3 : bestN [97, 66, 99] [98, 97, 98] = some [97, 98, 97, 99] := by decide +kernel
  rw [v3] at b3
  have b3 : m_best_result [.va (.str [97, 66, 99]), .va (.str [98, 97, 98])] = .ok (.d (.str [97, 98, 97, 99]), [.un, .un]) := b3
  refine ⟨[.un], ?_⟩
  unfold m_law
  refine mDef_d (e := [S, t, t2, t3, t4, t5, t6, t7]) ?_ rfl
  show b_law [S, .un, .un, .un, .un, .un, .un, .un] = _
  refine (fSeq_nx st1).trans ((fSeq_nx st2).trans ((fSeq_nx st4).trans ((fSeq_nx (e1 := [S, t, t2, t3, t4, t5, t6, t7]) ?_).trans ?_)))
  · refine (fIf_ok (b := false) (e1 := [S, t, t2, t3, t4, t5, t6, t7]) ?_).trans rfl
    rw [fOr_ev]
    have c1 : fTst (fBin (oEq not) (fCall m_best_result [false, false] [] (fCons (fBin oMul (fC (.str [97])) (fC (.int 200))) (fCons (fBin oMul (fC (.str [98])) (fC (.int 200))) fNil))) (fBin oAdd (fBin oMul (fC (.str [98])) (fC (.int 200))) (fBin oMul (fC (.str [97])) (fC (.int 200))))) [S, t, t2, t3, t4, t5, t6, t7] = .ok (false, [S, t, t2, t3, t4, t5, t6, t7]) := by
      simp [flat_rep, LIM_eq, -List.reduceReplicate, b1, eqD]
    have c2 : fTst (fBin (oEq not) (fCall m_best_result [false, false] [] (fCons (fC (.str [])) (fCons (fC (.str [])) fNil))) (fC (.str []))) [S, t, t2, t3, t4, t5, t6, t7] = .ok (false, [S, t, t2, t3, t4, t5, t6, t7]) := by
      simp [b2, eqD]
    rw [c1]
    exact c2
  · refine fRet_d ?_
    simp [b3, eqD]
end K17
set_option Elab.async false
set_option linter.all false
set_option maxRecDepth 100000
set_option maxHeartbeats 4000000
open PySem PySem.W PyProof.Rows
set_option maxHeartbeats 0 in
theorem PySem.Challenge.cw_leakyqueue_k17_best_results_holds : PySem.Challenge.rw_leakyqueue_k17_best_results.Holds := by
  w_on; o_law; k_head; (case hw => w_witness2)
  k_fill
  refine DL.walk_g (l := PySem.Challenge.rw_leakyqueue_k17_best_results) (n := 63) (k := 8) (x := "_law_script") (sp := fun K => DL.spLaw 63 K) rfl (by decide) rfl ⟨rfl, by decide, by decide⟩ (fun w h Y => PySem.W.kIn_of Y) ?F (fun _ _ a ns hl _ _ hS => ⟨a, ns, rfl, hS, hl, fun _ => rfl⟩)
  case F =>
    intro w mg fa h KX G hmg
    refine' K17.all_mk KX G hmg ?z_OverflowError ?z_all ?z_int ?z_isinstance ?z_len ?z_list ?z_max ?z_min ?z_range ?z_repr ?z_str ?g_ITEMS ?g_MAX_ITEMS ?g_MAX_STEPS ?g_LeakError ?g_InvalidWord ?g_InvalidProgram ?g_LimitExceeded ?ex_LeakError ?ty_LeakError ?hd_LeakError ?ex_InvalidWord ?ty_InvalidWord ?hd_InvalidWord ?ex_InvalidProgram ?ty_InvalidProgram ?hd_InvalidProgram ?ex_LimitExceeded ?ty_LimitExceeded ?hd_LimitExceeded ?xL_InvalidWord ?ln_InvalidWord ?sa_InvalidWord ?kp_InvalidWord ?no_InvalidWord ?i_InvalidWord ?j_InvalidWord ?li_InvalidWord ?cdi_InvalidWord ?ki_InvalidWord ?ga_InvalidWord ?gg_InvalidWord ?kl_InvalidWord ?gt_InvalidWord ?tk_InvalidWord ?ob_InvalidWord ?h1_InvalidWord ?h2_InvalidWord ?h3_InvalidWord ?xL_InvalidProgram ?ln_InvalidProgram ?sa_InvalidProgram ?kp_InvalidProgram ?no_InvalidProgram ?i_InvalidProgram ?j_InvalidProgram ?li_InvalidProgram ?cdi_InvalidProgram ?ki_InvalidProgram ?ga_InvalidProgram ?gg_InvalidProgram ?kl_InvalidProgram ?gt_InvalidProgram ?tk_InvalidProgram ?ob_InvalidProgram ?h1_InvalidProgram ?h2_InvalidProgram ?h3_InvalidProgram ?xL_LimitExceeded ?ln_LimitExceeded ?sa_LimitExceeded ?kp_LimitExceeded ?no_LimitExceeded ?i_LimitExceeded ?j_LimitExceeded ?li_LimitExceeded ?cdi_LimitExceeded ?ki_LimitExceeded ?ga_LimitExceeded ?gg_LimitExceeded ?kl_LimitExceeded ?gt_LimitExceeded ?tk_LimitExceeded ?ob_LimitExceeded ?h3_LimitExceeded ?e_0_1 ?e_1_1 ?e_2_1 ?e_3_1 ?e_0_2 ?e_1_2 ?e_2_2 ?e_3_2 ?e_0_3 ?e_1_3 ?e_2_3 ?e_3_3 ?kit_LimitExceeded_OverflowError ?g_is_word ?l_is_word ?cd_is_word ?k_is_word ?g_require_word ?l_require_word ?cd_require_word ?k_require_word ?g_is_program ?l_is_program ?cd_is_program ?k_is_program ?g_require_program ?l_require_program ?cd_require_program ?k_require_program ?g_best ?l_best ?cd_best ?k_best ?g_limited ?l_limited ?cd_limited ?k_limited ?g_best_result ?l_best_result ?cd_best_result ?k_best_result ?g_law_pool ?l_law_pool ?cd_law_pool ?k_law_pool ?g_law_draw ?l_law_draw ?cd_law_draw ?k_law_draw ?g_law_letters ?l_law_letters ?cd_law_letters ?k_law_letters ?g_law_items ?l_law_items ?cd_law_items ?k_law_items ?g_law_best ?l_law_best ?cd_law_best ?k_law_best ?g_law_told ?l_law_told ?cd_law_told ?k_law_told ?g_law_due ?l_law_due ?cd_law_due ?k_law_due ?g_law_long ?l_law_long ?cd_law_long ?k_law_long ?g_law ?l_law ?cd_law ?k_law K17.law_ok
    (case z_OverflowError => k_is)
    (case z_all => k_is)
    (case z_int => k_is)
    (case z_isinstance => k_is)
    (case z_len => k_is)
    (case z_list => k_is)
    (case z_max => k_is)
    (case z_min => k_is)
    (case z_range => k_is)
    (case z_repr => k_is)
    (case z_str => k_is)
    (case g_ITEMS => k_is)
    (case g_MAX_ITEMS => k_is)
    (case g_MAX_STEPS => k_is)
    (case g_LeakError => k_is)
    (case g_InvalidWord => k_is)
    (case g_InvalidProgram => k_is)
    (case g_LimitExceeded => k_is)
    (case ex_LeakError => k_is)
    (case ty_LeakError => k_is)
    (case hd_LeakError => k_is)
    (case ex_InvalidWord => k_is)
    (case ty_InvalidWord => k_is)
    (case hd_InvalidWord => k_is)
    (case ex_InvalidProgram => k_is)
    (case ty_InvalidProgram => k_is)
    (case hd_InvalidProgram => k_is)
    (case ex_LimitExceeded => k_is)
    (case ty_LimitExceeded => k_is)
    (case hd_LimitExceeded => k_is)
    (case xL_InvalidWord => k_is)
    (case ln_InvalidWord => rfl)
    (case sa_InvalidWord => k_is)
    (case kp_InvalidWord => k_is)
    (case no_InvalidWord => k_is)
    (case i_InvalidWord => k_is)
    (case j_InvalidWord => k_is)
    (case li_InvalidWord => k_is)
    (case cdi_InvalidWord => k_is)
    (case ki_InvalidWord => k_is)
    (case ga_InvalidWord => k_is)
    (case gg_InvalidWord => k_is)
    (case kl_InvalidWord => k_is)
    (case gt_InvalidWord => k_is)
    (case tk_InvalidWord => k_is)
    (case ob_InvalidWord => k_is)
    (case h1_InvalidWord => k_is)
    (case h2_InvalidWord => k_is)
    (case h3_InvalidWord => k_is)
    (case xL_InvalidProgram => k_is)
    (case ln_InvalidProgram => rfl)
    (case sa_InvalidProgram => k_is)
    (case kp_InvalidProgram => k_is)
    (case no_InvalidProgram => k_is)
    (case i_InvalidProgram => k_is)
    (case j_InvalidProgram => k_is)
    (case li_InvalidProgram => k_is)
    (case cdi_InvalidProgram => k_is)
    (case ki_InvalidProgram => k_is)
    (case ga_InvalidProgram => k_is)
    (case gg_InvalidProgram => k_is)
    (case kl_InvalidProgram => k_is)
    (case gt_InvalidProgram => k_is)
    (case tk_InvalidProgram => k_is)
    (case ob_InvalidProgram => k_is)
    (case h1_InvalidProgram => k_is)
    (case h2_InvalidProgram => k_is)
    (case h3_InvalidProgram => k_is)
    (case xL_LimitExceeded => k_is)
    (case ln_LimitExceeded => rfl)
    (case sa_LimitExceeded => k_is)
    (case kp_LimitExceeded => k_is)
    (case no_LimitExceeded => k_is)
    (case i_LimitExceeded => k_is)
    (case j_LimitExceeded => k_is)
    (case li_LimitExceeded => k_is)
    (case cdi_LimitExceeded => k_is)
    (case ki_LimitExceeded => k_is)
    (case ga_LimitExceeded => k_is)
    (case gg_LimitExceeded => k_is)
    (case kl_LimitExceeded => k_is)
    (case gt_LimitExceeded => k_is)
    (case tk_LimitExceeded => k_is)
    (case ob_LimitExceeded => k_is)
    (case h3_LimitExceeded => k_is)
    (case e_0_1 => first | rfl | k_is)
    (case e_1_1 => first | rfl | k_is)
    (case e_2_1 => first | rfl | k_is)
    (case e_3_1 => first | rfl | k_is)
    (case e_0_2 => first | rfl | k_is)
    (case e_1_2 => first | rfl | k_is)
    (case e_2_2 => first | rfl | k_is)
    (case e_3_2 => first | rfl | k_is)
    (case e_0_3 => first | rfl | k_is)
    (case e_1_3 => first | rfl | k_is)
    (case e_2_3 => first | rfl | k_is)
    (case e_3_3 => first | rfl | k_is)
    (case kit_LimitExceeded_OverflowError => k_is)
    (case g_is_word => k_is)
    (case l_is_word => k_is)
    (case cd_is_word => k_is)
    (case k_is_word => k_is)
    (case g_require_word => k_is)
    (case l_require_word => k_is)
    (case cd_require_word => k_is)
    (case k_require_word => k_is)
    (case g_is_program => k_is)
    (case l_is_program => k_is)
    (case cd_is_program => k_is)
    (case k_is_program => k_is)
    (case g_require_program => k_is)
    (case l_require_program => k_is)
    (case cd_require_program => k_is)
    (case k_require_program => k_is)
    (case g_best => k_is)
    (case l_best => k_is)
    (case cd_best => k_is)
    (case k_best => k_is)
    (case g_limited => k_is)
    (case l_limited => k_is)
    (case cd_limited => k_is)
    (case k_limited => k_is)
    (case g_best_result => k_is)
    (case l_best_result => k_is)
    (case cd_best_result => k_is)
    (case k_best_result => k_is)
    (case g_law_pool => k_is)
    (case l_law_pool => k_is)
    (case cd_law_pool => k_is)
    (case k_law_pool => k_is)
    (case g_law_draw => k_is)
    (case l_law_draw => k_is)
    (case cd_law_draw => k_is)
    (case k_law_draw => k_is)
    (case g_law_letters => k_is)
    (case l_law_letters => k_is)
    (case cd_law_letters => k_is)
    (case k_law_letters => k_is)
    (case g_law_items => k_is)
    (case l_law_items => k_is)
    (case cd_law_items => k_is)
    (case k_law_items => k_is)
    (case g_law_best => k_is)
    (case l_law_best => k_is)
    (case cd_law_best => k_is)
    (case k_law_best => k_is)
    (case g_law_told => k_is)
    (case l_law_told => k_is)
    (case cd_law_told => k_is)
    (case k_law_told => k_is)
    (case g_law_due => k_is)
    (case l_law_due => k_is)
    (case cd_law_due => k_is)
    (case k_law_due => k_is)
    (case g_law_long => k_is)
    (case l_law_long => k_is)
    (case cd_law_long => k_is)
    (case k_law_long => k_is)
    (case g_law => k_is)
    (case l_law => k_is)
    (case cd_law => k_is)
    (case k_law => k_is)
