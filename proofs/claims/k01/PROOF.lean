import PyProof.Rows.All
import Wide.All
import OpenK.AllK
import Wide.FinOn
import HandS.ForMost
import HandS.ForExc
import HandS.CallSlots
import HandS.Deep
import HandS.IsInst
import HandS.SortInts
import HandS.Property
import HandS.TupLe
import HandS.More
import HandS.Defaults
import KE.KStateDown
import HandS.Head0
import HandS.Head1
import HandS.Head2
import HandS.HeadEnd
import HandS.HeadHook1
import HandS.HeadHook2
import PySem.Challenge.RW_looseledger_k01_one_figure_apart
set_option Elab.async false
set_option linter.all false
set_option maxRecDepth 100000
set_option maxHeartbeats 4000000
/-! D-layer: plain data, how HandS values stand for them, slots. -/
namespace DL
open PySem PySem.Spec L2
open PyProof.Rows hiding St

inductive D where
  | non | bl (b : Bool) | int (i : Int) | str (x : Str)
  | lst (xs : List D) | tup (xs : List D) | dic (ks : List Int) (vs : List D)
  | obj (c : Nat) (fs : List D) | scr (ns : List Int)

/-- an outcome: a value, an own exception with its fields, or stuck -/
inductive R (α : Type) where
  | ok (a : α) | exc (c : Nat) (fs : List D) | no
def R.bind {α β : Type} (r : R α) (f : α → R β) : R β := match r with
  | .ok a => f a
  | .exc c fs => .exc c fs
  | .no => .no

/-- the own classes: where they stand, their attributes' names; which have a dict when raised -/
structure Tbl where
  cls : Nat → Addr
  flds : Nat → List Str

noncomputable def hideP (H : Hp) (P : Addr → Prop) : Hp := fun a => open Classical in if P a then none else H a
theorem hideP_some {H : Hp} {P : Addr → Prop} {a : Addr} {o : HO} (h : hideP H P a = some o) : H a = some o ∧ ¬ P a := by
  unfold hideP at h
  split at h
  · cases h
  · exact ⟨h, by assumption⟩
theorem hideP_of {H : Hp} {P : Addr → Prop} {a : Addr} {o : HO} (h : H a = some o) (n : ¬ P a) : hideP H P a = some o := by
  unfold hideP
  rw [if_neg n]
  exact h
theorem hideP_same {H H' : Hp} {P P' : Addr → Prop} (s : Same H H') (h : ∀ a o, H a = some o → P' a → P a) : Same (hideP H P) (hideP H' P') := fun a o e => by
  obtain ⟨e1, n⟩ := hideP_some e
  exact hideP_of (s a o e1) fun p => n (h a o e1 p)

/-- attributes by names -/
structure FldOk (ns : List Str) (vs : List V) (fs : List (Str × V)) : Prop where
  len : ns.length = vs.length
  at_ : ∀ (i : Nat) (n : Str) (v : V), ns[i]? = some n → vs[i]? = some v → fs.lookup n = some v
  non : ∀ m, m ∉ ns → fs.lookup m = none
  few : fs.length ≤ 20

def zipK (ks : List Int) (vs : List V) : List (Key × V) := (ks.map Sum.inl).zip vs

mutual
inductive Rep (T : Tbl) (K : PySem.W.Frag) (G : Hp) : V → D → Prop
  | non : Rep T K G .non .non
  | bl (b : Bool) : Rep T K G (.bl b) (.bl b)
  | int (i : Int) : Rep T K G (.int i) (.int i)
  | str (x : Str) : Rep T K G (.str x) (.str x)
  | lst {a : Addr} {vs : List V} {ds : List D} : G a = some (.lst vs) → Reps T K G vs ds → Rep T K G (.ref a) (.lst ds)
  | tup {a : Addr} {vs : List V} {ds : List D} : G a = some (.tup vs) → Reps T K G vs ds → Rep T K G (.ref a) (.tup ds)
  | dic {a : Addr} {ks : List Int} {vs : List V} {ds : List D} : Rd G a (.dK (zipK ks vs)) → ks.length = vs.length → Reps T K G vs ds → Rep T K G (.ref a) (.dic ks ds)
  | obj {a dx : Addr} {c : Nat} {vs : List V} {ds : List D} {fs : List (Str × V)} : G a = some (.ins (T.cls c) dx fs) → FldOk ((T.flds c).take ds.length) vs fs → Reps T K G vs ds → Rep T K G (.ref a) (.obj c ds)
  | scr {a : Addr} {ns : List Int} : SqL K G a (ns.map V.int) → Rep T K G (.ref a) (.scr ns)
inductive Reps (T : Tbl) (K : PySem.W.Frag) (G : Hp) : List V → List D → Prop
  | nil : Reps T K G [] []
  | cons {v : V} {vs : List V} {d : D} {ds : List D} : Rep T K G v d → Reps T K G vs ds → Reps T K G (v :: vs) (d :: ds)
end

section
variable {T : Tbl} {K : PySem.W.Frag} {G G' H H' : Hp}
mutual
theorem Rep.mono (s : Same G G') : ∀ {v : V} {d : D}, Rep T K G v d → Rep T K G' v d
  | _, _, .non => .non
  | _, _, .bl b => .bl b
  | _, _, .int i => .int i
  | _, _, .str x => .str x
  | _, _, .lst h r => .lst (s _ _ h) (Reps.mono s r)
  | _, _, .tup h r => .tup (s _ _ h) (Reps.mono s r)
  | _, _, .dic h l r => .dic (h.elim (fun z => .inl (s _ _ z)) fun ⟨o, z⟩ => .inr ⟨o, s _ _ z⟩) l (Reps.mono s r)
  | _, _, .obj h l r => .obj (s _ _ h) l (Reps.mono s r)
  | _, _, .scr h => .scr (s.seq h)
theorem Reps.mono (s : Same G G') : ∀ {vs : List V} {ds : List D}, Reps T K G vs ds → Reps T K G' vs ds
  | _, _, .nil => .nil
  | _, _, .cons a b => .cons (Rep.mono s a) (Reps.mono s b)
end
theorem Reps.length : ∀ {vs : List V} {ds : List D}, Reps T K G vs ds → vs.length = ds.length
  | _, _, .nil => rfl
  | _, _, .cons _ b => congrArg (· + 1) (Reps.length b)
theorem Reps.get : ∀ {vs : List V} {ds : List D} {i : Nat} {d : D}, Reps T K G vs ds → ds[i]? = some d → ∃ v, vs[i]? = some v ∧ Rep T K G v d
  | _, _, _, _, .nil, e => by simp at e
  | _, _, 0, _, .cons a b, e => by simp at e; subst e; exact ⟨_, rfl, a⟩
  | _, _, i + 1, d, .cons a b, e => by
    obtain ⟨v, h1, h2⟩ := Reps.get (i := i) (d := d) b (by simpa using e)
    exact ⟨v, by simpa using h1, h2⟩
theorem Reps.getV : ∀ {vs : List V} {ds : List D} {i : Nat} {v : V}, Reps T K G vs ds → vs[i]? = some v → ∃ d, ds[i]? = some d ∧ Rep T K G v d
  | _, _, _, _, .nil, e => by simp at e
  | _, _, 0, _, .cons a b, e => by simp at e; subst e; exact ⟨_, rfl, a⟩
  | _, _, i + 1, v, .cons a b, e => by
    obtain ⟨d, h1, h2⟩ := Reps.getV (i := i) (v := v) b (by simpa using e)
    exact ⟨d, by simpa using h1, h2⟩
theorem Reps.append : ∀ {vs ws : List V} {ds es : List D}, Reps T K G vs ds → Reps T K G ws es → Reps T K G (vs ++ ws) (ds ++ es)
  | _, _, _, _, .nil, s => s
  | _, _, _, _, .cons a b, s => .cons a (Reps.append b s)
theorem Reps.take : ∀ {vs : List V} {ds : List D} (n : Nat), Reps T K G vs ds → Reps T K G (vs.take n) (ds.take n)
  | _, _, 0, _ => .nil
  | _, _, _ + 1, .nil => .nil
  | _, _, n + 1, .cons a b => .cons a (Reps.take n b)
theorem Reps.drop : ∀ {vs : List V} {ds : List D} (n : Nat), Reps T K G vs ds → Reps T K G (vs.drop n) (ds.drop n)
  | _, _, 0, r => r
  | _, _, _ + 1, .nil => .nil
  | _, _, n + 1, .cons _ b => Reps.drop n b
theorem Reps.set {v : V} {d : D} (r : Rep T K G v d) : ∀ {vs : List V} {ds : List D} (i : Nat), Reps T K G vs ds → Reps T K G (vs.set i v) (ds.set i d)
  | _, _, _, .nil => .nil
  | _, _, 0, .cons _ b => .cons r b
  | _, _, i + 1, .cons a b => .cons a (Reps.set r i b)
theorem Reps.one {v : V} {d : D} (r : Rep T K G v d) : Reps T K G [v] [d] := .cons r .nil
theorem Reps.eraseIdx : ∀ {vs : List V} {ds : List D} (i : Nat), Reps T K G vs ds → Reps T K G (vs.eraseIdx i) (ds.eraseIdx i)
  | _, _, _, .nil => .nil
  | _, _, 0, .cons _ b => b
  | _, _, i + 1, .cons a b => .cons a (Reps.eraseIdx i b)
theorem Reps.insertIdx {v : V} {d : D} (r : Rep T K G v d) : ∀ {vs : List V} {ds : List D} (i : Nat), Reps T K G vs ds → Reps T K G (vs.take i ++ v :: vs.drop i) (ds.take i ++ d :: ds.drop i) := fun i h => (h.take i).append (.cons r (h.drop i))
theorem Reps.replicate_flatten {vs : List V} {ds : List D} (h : Reps T K G vs ds) : ∀ (n : Nat), Reps T K G (List.replicate n vs).flatten (List.replicate n ds).flatten
  | 0 => .nil
  | n + 1 => by
    rw [List.replicate_succ, List.replicate_succ, List.flatten_cons, List.flatten_cons]
    exact h.append (Reps.replicate_flatten h n)
theorem Reps.reverse : ∀ {vs : List V} {ds : List D}, Reps T K G vs ds → Reps T K G vs.reverse ds.reverse
  | _, _, .nil => .nil
  | _, _, .cons a b => by
    rw [List.reverse_cons, List.reverse_cons]
    exact (Reps.reverse b).append (.one a)
theorem Reps.ints : ∀ {vs : List V} {ns : List Int}, Reps T K G vs (ns.map D.int) → vs = ns.map V.int
  | _, [], .nil => rfl
  | _, n :: ns, .cons a b => by
    cases a
    rw [Reps.ints b]
    rfl
theorem Reps.of_ints : ∀ (ns : List Int), Reps T K G (ns.map V.int) (ns.map D.int)
  | [] => .nil
  | n :: ns => .cons (.int n) (Reps.of_ints ns)

/-- the object itself is in H, what it holds in G -/
def OwnAt (T : Tbl) (K : PySem.W.Frag) (G H : Hp) (a : Addr) : D → Prop
  | .lst ds => ∃ vs, H a = some (.lst vs) ∧ Reps T K G vs ds
  | .dic ks ds => ∃ vs, H a = some (.dK (zipK ks vs)) ∧ ks.length = vs.length ∧ Reps T K G vs ds
  | .obj c ds => ∃ vs dx fs, H a = some (.ins (T.cls c) dx fs) ∧ FldOk ((T.flds c).take ds.length) vs fs ∧ Reps T K G vs ds
  | _ => False
theorem OwnAt.mono {a : Addr} {d : D} (h : OwnAt T K G H a d) (s : Same G G') (e : ∀ o, H a = some o → H' a = some o) : OwnAt T K G' H' a d := by
  cases d with
  | lst ds => obtain ⟨vs, h1, h2⟩ := h; exact ⟨vs, e _ h1, h2.mono s⟩
  | dic ks ds => obtain ⟨vs, h1, l, h2⟩ := h; exact ⟨vs, e _ h1, l, h2.mono s⟩
  | obj c ds => obtain ⟨vs, dx, fs, h1, l, h2⟩ := h; exact ⟨vs, dx, fs, e _ h1, l, h2.mono s⟩
  | _ => exact False.elim h
theorem OwnAt.rep {a : Addr} {d : D} (h : OwnAt T K G H a d) (s : Same G G') (e : ∀ o, H a = some o → G' a = some o) : Rep T K G' (.ref a) d := by
  cases d with
  | lst ds => obtain ⟨vs, h1, h2⟩ := h; exact .lst (e _ h1) (h2.mono s)
  | dic ks ds => obtain ⟨vs, h1, l, h2⟩ := h; exact .dic (.inl (e _ h1)) l (h2.mono s)
  | obj c ds => obtain ⟨vs, dx, fs, h1, l, h2⟩ := h; exact .obj (e _ h1) l (h2.mono s)
  | _ => exact False.elim h
theorem OwnAt.there {a : Addr} {d : D} (h : OwnAt T K G H a d) : ∃ o, H a = some o := by
  cases d with
  | lst ds => obtain ⟨vs, h1, _⟩ := h; exact ⟨_, h1⟩
  | dic ks ds => obtain ⟨vs, h1, _⟩ := h; exact ⟨_, h1⟩
  | obj c ds => obtain ⟨vs, dx, fs, h1, _⟩ := h; exact ⟨_, h1⟩
  | _ => exact False.elim h
end

/-- slots: no knowledge; public data; a list (dict, object) that the frame owns alone; data that is borrowed -/
inductive S where
  | un | pu (d : D) | ow (d : D) | bo (d : D)

/-- the frame: addresses hidden from it, the heap at its entry -/
structure Fm where
  B : Addr → Prop
  H0 : Hp

def Own (ρ : List S) (σ : L2.St) (a : Addr) : Prop := ∃ (i : Nat) (d : D), ρ[i]? = some (S.ow d) ∧ σ[i]? = some (some (V.ref a))
def Hid (B : Addr → Prop) (ρ : List S) (σ : L2.St) (a : Addr) : Prop := B a ∨ Own ρ σ a
noncomputable abbrev pubH (B : Addr → Prop) (ρ : List S) (σ : L2.St) (H : Hp) : Hp := hideP H (Hid B ρ σ)

/-- borrowed: public, or hidden (in B) with public contents -/
def RepB (T : Tbl) (K : PySem.W.Frag) (B : Addr → Prop) (G H : Hp) (v : V) (d : D) : Prop := Rep T K G v d ∨ ∃ a, v = .ref a ∧ B a ∧ OwnAt T K G H a d
theorem RepB.mono {T : Tbl} {K : PySem.W.Frag} {B B' : Addr → Prop} {G G' H H' : Hp} {v : V} {d : D} (h : RepB T K B G H v d) (s : Same G G') (e : ∀ a o, B a → H a = some o → H' a = some o) (b : ∀ a, B a → B' a) : RepB T K B' G' H' v d := by
  rcases h with h | ⟨a, rfl, hb, h⟩
  · exact .inl (h.mono s)
  · exact .inr ⟨a, rfl, b a hb, h.mono s fun o => e a o hb⟩

structure RS (T : Tbl) (K : PySem.W.Frag) (F : Fm) (ρ : List S) (σ : L2.St) (H : Hp) : Prop where
  same : Same F.H0 H
  len : ρ.length = σ.length
  alloc : ∀ b, F.B b → H b ≠ none
  own : ∀ (i : Nat) (d : D), ρ[i]? = some (S.ow d) → ∃ a, σ[i]? = some (some (V.ref a)) ∧ F.H0 a = none ∧ ¬ F.B a ∧ OwnAt T K (pubH F.B ρ σ H) H a d
  inj : ∀ (i j : Nat) (d e : D) (a : Addr), ρ[i]? = some (S.ow d) → ρ[j]? = some (S.ow e) → σ[i]? = some (some (V.ref a)) → σ[j]? = some (some (V.ref a)) → i = j
  pub : ∀ (i : Nat) (d : D), ρ[i]? = some (S.pu d) → ∃ v, σ[i]? = some (some v) ∧ Rep T K (pubH F.B ρ σ H) v d
  bor : ∀ (i : Nat) (d : D), ρ[i]? = some (S.bo d) → ∃ v, σ[i]? = some (some v) ∧ RepB T K (fun a => F.B a ∧ F.H0 a ≠ none) (pubH F.B ρ σ H) H v d

section
variable {T : Tbl} {K : PySem.W.Frag} {F : Fm} {ρ : List S} {σ : L2.St} {H H' : Hp}
theorem pubH_same {B : Addr → Prop} (s : Same H H') : Same (pubH B ρ σ H) (pubH B ρ σ H') := hideP_same s fun _ _ _ h => h
/-- the heap has grown -/
theorem RS.grow (r : RS T K F ρ σ H) (s : Same H H') : RS T K F ρ σ H' where
  same := r.same.trans s
  len := r.len
  alloc := fun b hb n => r.alloc b hb (s.free n)
  own := fun i d h => by
    obtain ⟨a, h1, h2, h3, h4⟩ := r.own i d h
    exact ⟨a, h1, h2, h3, h4.mono (pubH_same s) fun o => s _ _⟩
  inj := r.inj
  pub := fun i d h => by
    obtain ⟨v, h1, h2⟩ := r.pub i d h
    exact ⟨v, h1, h2.mono (pubH_same s)⟩
  bor := fun i d h => by
    obtain ⟨v, h1, h2⟩ := r.bor i d h
    exact ⟨v, h1, h2.mono (pubH_same s) (fun a o _ => s _ _) fun _ h => h⟩
/-- hidden addresses are allocated -/
theorem RS.hid (r : RS T K F ρ σ H) {a : Addr} (h : Hid F.B ρ σ a) : H a ≠ none := by
  rcases h with h | ⟨i, d, h1, h2⟩
  · exact r.alloc a h
  · obtain ⟨b, e, _, _, w⟩ := r.own i d h1
    rw [e] at h2
    cases h2
    obtain ⟨o, ho⟩ := w.there
    rw [ho]
    exact fun z => nomatch z
/-- a fresh address is hidden, too -/
theorem RS.hide (r : RS T K F ρ σ H) {p : Addr} {o : HO} (hp : H p = none) : RS T K ⟨fun a => F.B a ∨ a = p, F.H0⟩ ρ σ (upd H p o) := by
  have s : Same H (upd H p o) := fun b x e => by rw [upd_ne (ne_of_none e hp)]; exact e
  have g : Same (pubH F.B ρ σ H) (pubH (fun a => F.B a ∨ a = p) ρ σ (upd H p o)) := hideP_same s fun a u e h => by
    rcases h with (h | h) | h
    · exact .inl h
    · subst h; rw [hp] at e; cases e
    · exact .inr h
  refine ⟨r.same.trans s, r.len, fun b hb n => ?_, fun i d h => ?_, r.inj, fun i d h => ?_, fun i d h => ?_⟩
  · rcases hb with hb | hb
    · exact r.alloc b hb (s.free n)
    · subst hb
      rw [upd_same] at n
      cases n
  · obtain ⟨a, h1, h2, h3, h4⟩ := r.own i d h
    obtain ⟨o', ho'⟩ := h4.there
    refine ⟨a, h1, h2, fun hb => ?_, h4.mono g fun o => s _ _⟩
    rcases hb with hb | hb
    · exact h3 hb
    · subst hb; rw [hp] at ho'; cases ho'
  · obtain ⟨v, h1, h2⟩ := r.pub i d h
    exact ⟨v, h1, h2.mono g⟩
  · obtain ⟨v, h1, h2⟩ := r.bor i d h
    exact ⟨v, h1, h2.mono g (fun a o _ => s _ _) fun _ h => ⟨.inl h.1, h.2⟩⟩
end
end DL

namespace DL
open PySem PySem.Spec L2
open PyProof.Rows hiding St

/-- how a value is held: public; borrowed (hidden by callers); any (also the frame's own); fresh -/
inductive Md where
  | pub | bor | any | frs

def Post (T : Tbl) (K : PySem.W.Frag) (m : Md) (F : Fm) (ρ : List S) (σ : L2.St) (v : V) (d : D) (H : Hp) : Prop := match m with
  | .pub => RS T K F ρ σ H ∧ Rep T K (pubH F.B ρ σ H) v d
  | .bor => RS T K F ρ σ H ∧ RepB T K F.B (pubH F.B ρ σ H) H v d
  | .any => RS T K F ρ σ H ∧ RepB T K (Hid F.B ρ σ) (pubH F.B ρ σ H) H v d
  | .frs => ∃ p, v = .ref p ∧ F.H0 p = none ∧ ¬ Hid F.B ρ σ p ∧ RS T K ⟨fun a => F.B a ∨ a = p, F.H0⟩ ρ σ H ∧ OwnAt T K (pubH (fun a => F.B a ∨ a = p) ρ σ H) H p d

section
variable {T : Tbl} {K : PySem.W.Frag} {F : Fm} {ρ : List S} {σ : L2.St} {H H' H1 : Hp} {v : V} {d : D} {p : Addr}
theorem RS.hide2 (r : RS T K F ρ σ H) (hp : H p = none) (s : Same H H') (hq : H' p ≠ none) : RS T K ⟨fun a => F.B a ∨ a = p, F.H0⟩ ρ σ H' := by
  have g : Same (pubH F.B ρ σ H) (pubH (fun a => F.B a ∨ a = p) ρ σ H') := hideP_same s fun a u e h => by
    rcases h with (h | h) | h
    · exact .inl h
    · subst h; rw [hp] at e; cases e
    · exact .inr h
  refine ⟨r.same.trans s, r.len, fun b hb n => ?_, fun i d h => ?_, r.inj, fun i d h => ?_, fun i d h => ?_⟩
  · rcases hb with hb | hb
    · exact r.alloc b hb (s.free n)
    · subst hb
      exact hq n
  · obtain ⟨a, h1, h2, h3, h4⟩ := r.own i d h
    obtain ⟨o', ho'⟩ := h4.there
    refine ⟨a, h1, h2, fun hb => ?_, h4.mono g fun o => s _ _⟩
    rcases hb with hb | hb
    · exact h3 hb
    · subst hb; rw [hp] at ho'; cases ho'
  · obtain ⟨v, h1, h2⟩ := r.pub i d h
    exact ⟨v, h1, h2.mono g⟩
  · obtain ⟨v, h1, h2⟩ := r.bor i d h
    exact ⟨v, h1, h2.mono g (fun a o _ => s _ _) fun _ h => ⟨.inl h.1, h.2⟩⟩
theorem unhide_same {B : Addr → Prop} : Same (pubH (fun a => B a ∨ a = p) ρ σ H) (pubH B ρ σ H) := hideP_same (Same.refl H) fun a o e h => by
  rcases h with h | h
  · exact .inl (.inl h)
  · exact .inr h
theorem RS.unhide (r : RS T K ⟨fun a => F.B a ∨ a = p, F.H0⟩ ρ σ H) (n : ¬ Hid F.B ρ σ p) : RS T K F ρ σ H := by
  refine ⟨r.same, r.len, fun b hb => r.alloc b (.inl hb), fun i d h => ?_, r.inj, fun i d h => ?_, fun i d h => ?_⟩
  · obtain ⟨a, h1, h2, h3, h4⟩ := r.own i d h
    exact ⟨a, h1, h2, fun hb => h3 (.inl hb), h4.mono unhide_same fun o e => e⟩
  · obtain ⟨v, h1, h2⟩ := r.pub i d h
    exact ⟨v, h1, h2.mono unhide_same⟩
  · obtain ⟨v, h1, h2⟩ := r.bor i d h
    refine ⟨v, h1, ?_⟩
    rcases h2 with h2 | ⟨a, rfl, hb, h2⟩
    · exact .inl (h2.mono unhide_same)
    · obtain ⟨hb, h0⟩ := hb
      rcases hb with hb | hb
      · exact .inr ⟨a, rfl, ⟨hb, h0⟩, h2.mono unhide_same fun o e => e⟩
      · subst hb
        exact .inl (h2.rep unhide_same fun o e => hideP_of e n)
theorem Post.rs {m : Md} (h : Post T K m F ρ σ v d H) : RS T K F ρ σ H := by
  cases m with
  | pub => exact h.1
  | bor => exact h.1
  | any => exact h.1
  | frs => obtain ⟨p, _, _, n, r, _⟩ := h; exact r.unhide n
theorem Post.grow {m : Md} (h : Post T K m F ρ σ v d H) (s : Same H H') : Post T K m F ρ σ v d H' := by
  cases m with
  | pub => exact ⟨h.1.grow s, h.2.mono (pubH_same s)⟩
  | bor => exact ⟨h.1.grow s, h.2.mono (pubH_same s) (fun a o _ => s _ _) fun _ h => h⟩
  | any => exact ⟨h.1.grow s, h.2.mono (pubH_same s) (fun a o _ => s _ _) fun _ h => h⟩
  | frs =>
    obtain ⟨p, e, n0, n, r, w⟩ := h
    exact ⟨p, e, n0, n, r.grow s, w.mono (pubH_same s) fun o => s _ _⟩
theorem Post.pub_of_frs (h : Post T K .frs F ρ σ v d H) : Post T K .pub F ρ σ v d H := by
  obtain ⟨p, rfl, n0, n, r, w⟩ := h
  exact ⟨r.unhide n, w.rep unhide_same fun o e => hideP_of e n⟩
theorem Post.any_of_pub (h : Post T K .pub F ρ σ v d H) : Post T K .any F ρ σ v d H := ⟨h.1, .inl h.2⟩
theorem Post.bor_of_pub (h : Post T K .pub F ρ σ v d H) : Post T K .bor F ρ σ v d H := ⟨h.1, .inl h.2⟩
theorem Post.any_of_bor (h : Post T K .bor F ρ σ v d H) : Post T K .any F ρ σ v d H := by
  refine ⟨h.1, ?_⟩
  rcases h.2 with h | ⟨a, e, hb, h⟩
  · exact .inl h
  · exact .inr ⟨a, e, .inl hb, h⟩
theorem Post.any_of {m : Md} (h : Post T K m F ρ σ v d H) : Post T K .any F ρ σ v d H := by
  cases m with
  | pub => exact h.any_of_pub
  | bor => exact h.any_of_bor
  | any => exact h
  | frs => exact h.pub_of_frs.any_of_pub
/-- a new object -/
theorem Post.new {o : HO} (r : RS T K F ρ σ H) (hp : H p = none) (w : OwnAt T K (pubH F.B ρ σ H) (upd H p o) p d) : Post T K .frs F ρ σ (.ref p) d (upd H p o) := by
  have s : Same H (upd H p o) := fun b x e => by rw [upd_ne (ne_of_none e hp)]; exact e
  have n : ¬ Hid F.B ρ σ p := fun h => r.hid h hp
  refine ⟨p, rfl, r.same.free hp, n, r.hide hp, w.mono (hideP_same s fun a u e h => ?_) fun o e => e⟩
  rcases h with (h | h) | h
  · exact .inl h
  · subst h; rw [hp] at e; cases e
  · exact .inr h
theorem upd_new_same {o : HO} (hp : H p = none) : Same H (upd H p o) := fun b x e => by rw [upd_ne (ne_of_none e hp)]; exact e
end

/-- an exception's fields -/
def XRep (T : Tbl) (K : PySem.W.Frag) (G H : Hp) (c : Nat) (fs : List D) (dO : Option Addr) : Prop :=
  (T.flds c = [] ∧ fs = [] ∧ dO = none) ∨ ∃ dx vs xs, dO = some dx ∧ H dx = some (.xd xs) ∧ FldOk (T.flds c) vs xs ∧ Reps T K G vs fs
theorem XRep.mono {T : Tbl} {K : PySem.W.Frag} {G G' H H' : Hp} {c : Nat} {fs : List D} {dO : Option Addr} (h : XRep T K G H c fs dO) (s : Same G G') (s' : Same H H') : XRep T K G' H' c fs dO := by
  rcases h with h | ⟨dx, vs, xs, e, h1, h2, h3⟩
  · exact .inl h
  · exact .inr ⟨dx, vs, xs, e, s' _ _ h1, h2, h3.mono s⟩

/-- the wish behind an exception -/
def XW (T : Tbl) (K : PySem.W.Frag) (W : WX) (F : Fm) (ρ : List S) (σ : L2.St) (H : Hp) (c : Nat) (fs : List D) : Prop :=
  ∀ dO H', Same H H' → RS T K F ρ σ H' → XRep T K (pubH F.B ρ σ H') H' c fs dO → W (.ref (T.cls c)) dO σ H'
def Res {α : Type} (T : Tbl) (K : PySem.W.Frag) (W : WX) (F : Fm) (ρ : List S) (σ : L2.St) (H : Hp) (r : R α) (k : α → Prop) : Prop := match r with
  | .ok a => k a
  | .exc c fs => XW T K W F ρ σ H c fs
  | .no => False
section
variable {α β : Type} {T : Tbl} {K : PySem.W.Frag} {W : WX} {F : Fm} {ρ : List S} {σ : L2.St} {H H' : Hp} {r : R α} {f : α → R β} {k k' : α → Prop} {k2 : β → Prop}
theorem Res.bind (h : Res T K W F ρ σ H (r.bind f) k2) : Res T K W F ρ σ H r fun a => Res T K W F ρ σ H (f a) k2 := by
  cases r with
  | ok a => exact h
  | exc c fs => exact h
  | no => exact h
theorem Res.imp (h : Res T K W F ρ σ H r k) (i : ∀ a, k a → k' a) : Res T K W F ρ σ H r k' := by
  cases r with
  | ok a => exact i a h
  | exc c fs => exact h
  | no => exact h
theorem Res.grow (h : Res T K W F ρ σ H r k) (s : Same H H') : Res T K W F ρ σ H' r k := by
  cases r with
  | ok a => exact h
  | exc c fs => exact fun dO H2 s2 => h dO H2 (s.trans s2)
  | no => exact h
end
/-- a primitive's outcome -/
def ofO {α : Type} : Option α → R α
  | some a => .ok a
  | none => .no
theorem Res.ofO {α : Type} {T : Tbl} {K : PySem.W.Frag} {W : WX} {F : Fm} {ρ : List S} {σ : L2.St} {H : Hp} {o : Option α} {k : α → Prop} (h : Res T K W F ρ σ H (ofO o) k) : ∃ a, o = some a ∧ k a := by
  cases o with
  | none => exact False.elim h
  | some a => exact ⟨a, rfl, h⟩

/-- an expression's reading by its denotation f -/
def tD (T : Tbl) (K : PySem.W.Frag) (W : WX) (m : Md) (f : List S → R D) : TE := fun σ H Q => ∃ F ρ, RS T K F ρ σ H ∧ Res T K W F ρ σ H (f ρ) fun d => ∀ v H', Same H H' → Post T K m F ρ σ v d H' → Q v H'
/-- a test's -/
def tDT (T : Tbl) (K : PySem.W.Frag) (W : WX) (f : List S → R Bool) : TT := fun σ H Q => ∃ F ρ, RS T K F ρ σ H ∧ Res T K W F ρ σ H (f ρ) fun b => ∀ H', Same H H' → RS T K F ρ σ H' → Q b H'
/-- several arguments: each public (true) or any -/
def PostL (T : Tbl) (K : PySem.W.Frag) (F : Fm) (ρ : List S) (σ : L2.St) : List Bool → List V → List D → Hp → Prop
  | [], [], [], _ => True
  | m :: ms, v :: vs, d :: ds, H => (Rep T K (pubH F.B ρ σ H) v d ∨ m = false ∧ RepB T K (Hid F.B ρ σ) (pubH F.B ρ σ H) H v d) ∧ PostL T K F ρ σ ms vs ds H
  | _, _, _, _ => False
def tDA (T : Tbl) (K : PySem.W.Frag) (W : WX) (ms : List Bool) (f : List S → R (List D)) : TA := fun σ H Q => ∃ F ρ, RS T K F ρ σ H ∧ Res T K W F ρ σ H (f ρ) fun ds => ∀ vs H', Same H H' → RS T K F ρ σ H' → PostL T K F ρ σ ms vs ds H' → Q vs H'

structure DE (T : Tbl) (W : WX) (m : Md) (X : Cx) (e : Expr) (f : List S → R D) : Prop where
  run : PE X e (tD T X.K W m f)
structure DT (T : Tbl) (W : WX) (X : Cx) (e : Expr) (f : List S → R Bool) : Prop where
  run : PT X e (tDT T X.K W f)
structure DA (T : Tbl) (W : WX) (ms : List Bool) (X : Cx) (es : List Expr) (f : List S → R (List D)) : Prop where
  run : PA X es (tDA T X.K W ms f)

theorem PE.imp {X : Cx} {e : Expr} {t t' : TE} (h : PE X e t) (i : ∀ σ H Q, t' σ H Q → t σ H Q) : PE X e t' := ⟨fun pins s σ H Q I q => h.run pins s σ H Q I (i σ H Q q)⟩
theorem PT.imp {X : Cx} {e : Expr} {t t' : TT} (h : PT X e t) (i : ∀ σ H Q, t' σ H Q → t σ H Q) : PT X e t' := ⟨fun pins s σ H Q I q => h.run pins s σ H Q I (i σ H Q q)⟩
theorem PA.imp {X : Cx} {e : List Expr} {t t' : TA} (h : PA X e t) (i : ∀ σ H Q, t' σ H Q → t σ H Q) : PA X e t' := ⟨fun pos pins s σ H Q I q => h.run pos pins s σ H Q I (i σ H Q q)⟩
theorem PS.imp {X : Cx} {e : Stmt} {t t' : TS} (h : PS X e t) (i : ∀ D σ H, t' D σ H → t D σ H) : PS X e t' := ⟨fun pins s σ H D I q => h.run pins s σ H D I (i D σ H q)⟩
theorem PSs.imp {X : Cx} {e : List Stmt} {t t' : TS} (h : PSs X e t) (i : ∀ D σ H, t' D σ H → t D σ H) : PSs X e t' := ⟨fun pins s σ H D I q => h.run pins s σ H D I (i D σ H q)⟩

section
variable {T : Tbl} {W : WX} {X : Cx} {e a b : Expr} {f fa fb : List S → R D} {m : Md} {pos : Pos}
theorem DE.coe {m m' : Md} (h : DE T W m X e f) (i : ∀ F ρ σ v d H, Post T X.K m F ρ σ v d H → Post T X.K m' F ρ σ v d H) : DE T W m' X e f :=
  ⟨PE.imp h.run fun σ H Q ⟨F, ρ, r, q⟩ => ⟨F, ρ, r, q.imp fun d k v H' s p => k v H' s (i _ _ _ _ _ _ p)⟩⟩
theorem DE.fp (h : DE T W .frs X e f) : DE T W .pub X e f := h.coe fun _ _ _ _ _ _ p => p.pub_of_frs
theorem DE.any (h : DE T W m X e f) : DE T W .any X e f := h.coe fun _ _ _ _ _ _ p => p.any_of
theorem DE.bor (h : DE T W .pub X e f) : DE T W .bor X e f := h.coe fun _ _ _ _ _ _ p => p.bor_of_pub

/-! ### names and constants -/
def vPub (i : Nat) (ρ : List S) : R D := match ρ[i]? with
  | some (.pu d) => .ok d
  | _ => .no
def vBor (i : Nat) (ρ : List S) : R D := match ρ[i]? with
  | some (.pu d) => .ok d
  | some (.bo d) => .ok d
  | _ => .no
def vAny (i : Nat) (ρ : List S) : R D := match ρ[i]? with
  | some (.pu d) => .ok d
  | some (.bo d) => .ok d
  | some (.ow d) => .ok d
  | _ => .no
theorem de_var {i : Nat} (h : PE X e (tVar i)) : DE T W .pub X e (vPub i) := by
  refine ⟨PE.imp h fun σ H Q ⟨F, ρ, r, q⟩ => ?_⟩
  unfold vPub at q
  split at q
  · rename_i d e
    obtain ⟨v, h1, h2⟩ := r.pub i d e
    exact ⟨v, h1, q v H (Same.refl H) ⟨r, h2⟩⟩
  · exact False.elim q
theorem de_varB {i : Nat} (h : PE X e (tVar i)) : DE T W .bor X e (vBor i) := by
  refine ⟨PE.imp h fun σ H Q ⟨F, ρ, r, q⟩ => ?_⟩
  unfold vBor at q
  split at q
  · rename_i d e
    obtain ⟨v, h1, h2⟩ := r.pub i d e
    exact ⟨v, h1, q v H (Same.refl H) ⟨r, .inl h2⟩⟩
  · rename_i d e
    obtain ⟨v, h1, h2⟩ := r.bor i d e
    exact ⟨v, h1, q v H (Same.refl H) ⟨r, h2.mono (Same.refl _) (fun _ _ _ e => e) fun _ h => h.1⟩⟩
  · exact False.elim q
theorem de_varA {i : Nat} (h : PE X e (tVar i)) : DE T W .any X e (vAny i) := by
  refine ⟨PE.imp h fun σ H Q ⟨F, ρ, r, q⟩ => ?_⟩
  unfold vAny at q
  split at q
  · rename_i d e
    obtain ⟨v, h1, h2⟩ := r.pub i d e
    exact ⟨v, h1, q v H (Same.refl H) ⟨r, .inl h2⟩⟩
  · rename_i d e
    obtain ⟨v, h1, h2⟩ := r.bor i d e
    exact ⟨v, h1, q v H (Same.refl H) (Post.any_of_bor ⟨r, h2.mono (Same.refl _) (fun _ _ _ e => e) fun _ h => h.1⟩)⟩
  · rename_i d e
    obtain ⟨a, h1, _, _, h4⟩ := r.own i d e
    exact ⟨.ref a, h1, q _ H (Same.refl H) ⟨r, .inr ⟨a, rfl, .inr ⟨i, d, e, h1⟩, h4⟩⟩⟩
  · exact False.elim q
def cD (d : D) (_ : List S) : R D := .ok d
theorem de_const {v : V} {d : D} (h : PE X e (tC v)) (r : ∀ G, Rep T X.K G v d) : DE T W .pub X e (cD d) :=
  ⟨PE.imp h fun σ H Q ⟨F, ρ, rs, q⟩ => q v H (Same.refl H) ⟨rs, r _⟩⟩
theorem de_int {i : Int} {j : Nat} : DE T W .pub X (.Constant (.int i) j pos) (cD (.int i)) := de_const pe_int fun _ => .int i
theorem de_bl {b : Bool} {j : Nat} : DE T W .pub X (.Constant (.bool b) j pos) (cD (.bl b)) := de_const pe_bl fun _ => .bl b
theorem de_non {j : Nat} : DE T W .pub X (.Constant .none j pos) (cD .non) := de_const pe_non fun _ => .non
theorem de_str {x : Str} {j : Nat} : DE T W .pub X (.Constant (.str x) j pos) (cD (.str x)) := de_const pe_str fun _ => .str x

/-! ### operators by values -/
def op1 (g : D → Option D) (fa : List S → R D) (ρ : List S) : R D := (fa ρ).bind fun x => ofO (g x)
def op2 (g : D → D → Option D) (fa fb : List S → R D) (ρ : List S) : R D := (fa ρ).bind fun x => (fb ρ).bind fun y => ofO (g x y)
/-- what an operator's rule is to show -/
def R2Ok (T : Tbl) (K : PySem.W.Frag) (m : Md) (r : R2) (g : D → D → Option D) : Prop :=
  ∀ F ρ σ H x y dx dy d Q, Post T K .any F ρ σ x dx H → Post T K .any F ρ σ y dy H → g dx dy = some d → (∀ v H', Same H H' → Post T K m F ρ σ v d H' → Q v H') → r x y H Q
def R1Ok (T : Tbl) (K : PySem.W.Frag) (m : Md) (r : V → Hp → VK → Prop) (g : D → Option D) : Prop :=
  ∀ F ρ σ H x dx d Q, Post T K .any F ρ σ x dx H → g dx = some d → (∀ v H', Same H H' → Post T K m F ρ σ v d H' → Q v H') → r x H Q
theorem tOp_ok {r : R2} {g : D → D → Option D} (hg : R2Ok T X.K m r g) {σ : L2.St} {H : Hp} {Q : VK} (h : tD T X.K W m (op2 g fa fb) σ H Q) : tOp r (tD T X.K W .any fa) (tD T X.K W .any fb) σ H Q := by
  obtain ⟨F, ρ, rs, q⟩ := h
  refine ⟨F, ρ, rs, q.bind.imp fun dx q2 x H1 s1 p1 => ⟨F, ρ, p1.rs, (q2.grow s1).bind.imp fun dy q3 y H2 s2 p2 => ?_⟩⟩
  obtain ⟨d, hd, k⟩ := q3.ofO
  exact hg F ρ σ H2 x y dx dy d Q (p1.grow s2) p2 hd fun v H' s3 p3 => k v H' (s1.trans (s2.trans s3)) p3
theorem de_op2 {op : Operator} {r : R2} {g : D → D → Option D} {ma mb : Md} (ho : OpR X (binaryOp op) r) (ha : DE T W ma X a fa) (hb : DE T W mb X b fb) (hg : R2Ok T X.K m r g) : DE T W m X (.BinOp a op b pos) (op2 g fa fb) :=
  ⟨PE.imp (pe_op ho ha.any.run hb.any.run) fun σ H Q h => tOp_ok hg h⟩
theorem de_cmp {op : CmpOp} {r : R2} {g : D → D → Option D} {ma mb : Md} (ho : OpR X (compareOp op) r) (hm : behindInMarks op b = false) (ha : DE T W ma X a fa) (hb : DE T W mb X b fb) (hg : R2Ok T X.K m r g) : DE T W m X (.Compare a [op] [b] pos) (op2 g fa fb) :=
  ⟨PE.imp (pe_cmpR ho ha.any.run hb.any.run hm) fun σ H Q h => tOp_ok hg h⟩
theorem de_ix {r : R2} {g : D → D → Option D} {ma mb : Md} (ho : IxR X r) (ha : DE T W ma X a fa) (hb : DE T W mb X b fb) (hs : PlainIx b) (hg : R2Ok T X.K m r g) : DE T W m X (.Subscript a b pos) (op2 g fa fb) :=
  ⟨PE.imp (pe_ix ho ha.any.run hb.any.run hs) fun σ H Q h => tOp_ok hg h⟩
theorem de_un {op : UnaryOp} {r : V → Hp → VK → Prop} {g : D → Option D} {ma : Md} (ho : UnR X (unaryOp op) r) (ha : DE T W ma X a fa) (hg : R1Ok T X.K m r g) : DE T W m X (.UnaryOp op a pos) (op1 g fa) := by
  refine ⟨PE.imp (pe_un ho ha.any.run) fun σ H Q ⟨F, ρ, rs, q⟩ => ⟨F, ρ, rs, q.bind.imp fun dx q2 x H1 s1 p1 => ?_⟩⟩
  obtain ⟨d, hd, k⟩ := q2.ofO
  exact hg F ρ σ H1 x dx d Q p1 hd fun v H' s3 p3 => k v H' (s1.trans s3) p3
/-- a built-in's call with one argument, with two -/
theorem de_b1 {x : Str} {p : Pos} {id : String} {r : List V → Hp → VK → Prop} {g : D → Option D} {ma : Md} (hc : CallR X (.builtin id) r) (hg : Gl X x) (hm : X.mg x = none) (hv : bootBuiltins x = some (.builtin id)) (ha : DE T W ma X a fa)
    (hgk : R1Ok T X.K m (fun v H Q => r [v] H Q) g) (hn : x ≠ "__name__" := by decide) (hdb : (x == ("__debug__" : Str)) = false := by decide)
    (he : starEach [a] X.env = (false, eval a X.env) :: starEach [] X.env := by rfl) (hpl : (backTo pos (starEach [] X.env)).any (·.1) = false := by rfl) : DE T W m X (.Call (.Name x p) [a] [] pos) (op1 g fa) := by
  refine ⟨PE.imp (pe_callB hc hg hm hv (pa_cons ha.any.run pa_nil he) hn hdb he hpl) fun σ H Q ⟨F, ρ, rs, q⟩ => ⟨F, ρ, rs, q.bind.imp fun dx q2 x H1 s1 p1 => ?_⟩⟩
  obtain ⟨d, hd, k⟩ := q2.ofO
  exact hgk F ρ σ H1 x dx d Q p1 hd fun v H' s3 p3 => k v H' (s1.trans s3) p3
theorem de_b2 {x : Str} {p : Pos} {id : String} {r : List V → Hp → VK → Prop} {g : D → D → Option D} {ma mb : Md} (hc : CallR X (.builtin id) r) (hg : Gl X x) (hm : X.mg x = none) (hv : bootBuiltins x = some (.builtin id)) (ha : DE T W ma X a fa) (hb : DE T W mb X b fb)
    (hgk : R2Ok T X.K m (fun v u H Q => r [v, u] H Q) g) (hn : x ≠ "__name__" := by decide) (hdb : (x == ("__debug__" : Str)) = false := by decide)
    (he : starEach [a, b] X.env = (false, eval a X.env) :: starEach [b] X.env := by rfl) (hs2 : starEach [b] X.env = (false, eval b X.env) :: starEach [] X.env := by rfl) (hpl : (backTo pos (starEach [b] X.env)).any (·.1) = false := by rfl) : DE T W m X (.Call (.Name x p) [a, b] [] pos) (op2 g fa fb) :=
  ⟨PE.imp (pe_callB hc hg hm hv (pa_cons ha.any.run (pa_cons hb.any.run pa_nil hs2) he) hn hdb he hpl) fun σ H Q h => tOp_ok (r := fun v u H Q => r [v, u] H Q) hgk h⟩
theorem de_t1 {x : Str} {p : Pos} {id : String} {r : List V → Hp → VK → Prop} {g : D → Option D} {ma : Md} (hc : CallR X (.type id) r) (hg : Gl X x) (hm : X.mg x = none) (hv : bootBuiltins x = some (.type id)) (ha : DE T W ma X a fa)
    (hgk : R1Ok T X.K m (fun v H Q => r [v] H Q) g) (hn : x ≠ "__name__" := by decide) (hdb : (x == ("__debug__" : Str)) = false := by decide)
    (he : starEach [a] X.env = (false, eval a X.env) :: starEach [] X.env := by rfl) (hpl : (backTo pos (starEach [] X.env)).any (·.1) = false := by rfl) : DE T W m X (.Call (.Name x p) [a] [] pos) (op1 g fa) := by
  refine ⟨PE.imp (pe_callTy hc hg hm hv (pa_cons ha.any.run pa_nil he) hn hdb he hpl) fun σ H Q ⟨F, ρ, rs, q⟩ => ⟨F, ρ, rs, q.bind.imp fun dx q2 x H1 s1 p1 => ?_⟩⟩
  obtain ⟨d, hd, k⟩ := q2.ofO
  exact hgk F ρ σ H1 x dx d Q p1 hd fun v H' s3 p3 => k v H' (s1.trans s3) p3
end
end DL

namespace DL
open PySem PySem.Spec L2
open PyProof.Rows hiding St

/-! ### what a value of any holding is, by its datum -/
section
variable {T : Tbl} {K : PySem.W.Frag} {F : Fm} {ρ : List S} {σ : L2.St} {H H' : Hp} {x v : V} {d : D} {ds : List D}
theorem Post.int {i : Int} (h : Post T K .any F ρ σ x (.int i) H) : x = .int i := by
  rcases h.2 with h | ⟨a, _, _, h⟩
  · cases h; rfl
  · exact False.elim h
theorem Post.bl {i : Bool} (h : Post T K .any F ρ σ x (.bl i) H) : x = .bl i := by
  rcases h.2 with h | ⟨a, _, _, h⟩
  · cases h; rfl
  · exact False.elim h
theorem Post.non (h : Post T K .any F ρ σ x .non H) : x = .non := by
  rcases h.2 with h | ⟨a, _, _, h⟩
  · cases h; rfl
  · exact False.elim h
theorem Post.str {i : Str} (h : Post T K .any F ρ σ x (.str i) H) : x = .str i := by
  rcases h.2 with h | ⟨a, _, _, h⟩
  · cases h; rfl
  · exact False.elim h
theorem pub_at {a : Addr} {o : HO} (h : pubH F.B ρ σ H a = some o) : H a = some o := (hideP_some h).1
theorem pub_sub {B : Addr → Prop} : Same (pubH B ρ σ H) H := fun _ _ h => (hideP_some h).1
theorem Post.lst (h : Post T K .any F ρ σ x (.lst ds) H) : ∃ a vs, x = .ref a ∧ H a = some (.lst vs) ∧ Reps T K (pubH F.B ρ σ H) vs ds := by
  rcases h.2 with h | ⟨a, rfl, _, vs, h1, h2⟩
  · cases h with | lst h1 h2 => exact ⟨_, _, rfl, pub_at h1, h2⟩
  · exact ⟨a, vs, rfl, h1, h2⟩
theorem Post.tup (h : Post T K .any F ρ σ x (.tup ds) H) : ∃ a vs, x = .ref a ∧ H a = some (.tup vs) ∧ Reps T K (pubH F.B ρ σ H) vs ds := by
  rcases h.2 with h | ⟨a, rfl, _, h⟩
  · cases h with | tup h1 h2 => exact ⟨_, _, rfl, pub_at h1, h2⟩
  · exact False.elim h
theorem Post.scr {ns : List Int} (h : Post T K .any F ρ σ x (.scr ns) H) : ∃ a, x = .ref a ∧ SqL K H a (ns.map V.int) := by
  rcases h.2 with h | ⟨a, rfl, _, h⟩
  · cases h with | scr h1 => exact ⟨_, rfl, pub_sub.seq h1⟩
  · exact False.elim h
theorem Rd.same {G : Hp} {a : Addr} {u : HO} (h : Rd G a u) (s : Same G H) : Rd H a u := h.elim (fun z => .inl (s _ _ z)) fun ⟨o, z⟩ => .inr ⟨o, s _ _ z⟩
theorem Post.dic {ks : List Int} (h : Post T K .any F ρ σ x (.dic ks ds) H) : ∃ a vs, x = .ref a ∧ Rd H a (.dK (zipK ks vs)) ∧ ks.length = vs.length ∧ Reps T K (pubH F.B ρ σ H) vs ds := by
  rcases h.2 with h | ⟨a, rfl, _, vs, h1, l, h2⟩
  · cases h with | dic h1 l h2 => exact ⟨_, _, rfl, Rd.same h1 pub_sub, l, h2⟩
  · exact ⟨a, vs, rfl, .inl h1, l, h2⟩
theorem Post.obj {c : Nat} (h : Post T K .any F ρ σ x (.obj c ds) H) : ∃ a dx vs fs, x = .ref a ∧ H a = some (.ins (T.cls c) dx fs) ∧ FldOk ((T.flds c).take ds.length) vs fs ∧ Reps T K (pubH F.B ρ σ H) vs ds := by
  rcases h.2 with h | ⟨a, rfl, _, vs, dx, fs, h1, l, h2⟩
  · cases h with | obj h1 l h2 => exact ⟨_, _, _, _, rfl, pub_at h1, l, h2⟩
  · exact ⟨a, dx, vs, fs, rfl, h1, l, h2⟩
end
/-! data, compared -/
mutual
def toPy : D → Option PyData
  | .non => some .none
  | .bl b => some (.bool b)
  | .int i => some (.int i)
  | .str x => some (.str x)
  | .lst xs => (toPys xs).map .list
  | .tup xs => (toPys xs).map .tuple
  | _ => none
def toPys : List D → Option (List PyData)
  | [] => some []
  | x :: xs => (toPy x).bind fun p => (toPys xs).map (p :: ·)
end
section
variable {T : Tbl} {K : PySem.W.Frag} {G H : Hp}
mutual
theorem Rep.dp (s : Same G H) : ∀ {v : V} {d : D} {p : PyData}, Rep T K G v d → toPy d = some p → Dp K H v p
  | _, _, _, .non, e => by cases e; exact .non
  | _, _, _, .bl b, e => by cases e; exact .bl b
  | _, _, _, .int i, e => by cases e; exact .int i
  | _, _, _, .str x, e => by cases e; exact .str x
  | _, _, _, .lst (ds := ds) h r, e => by
    rw [toPy, Option.map_eq_some_iff] at e
    obtain ⟨ps, e1, rfl⟩ := e
    exact .lst (SqL.of (s _ _ h)) (Reps.dp s r e1)
  | _, _, _, .tup (ds := ds) h r, e => by
    rw [toPy, Option.map_eq_some_iff] at e
    obtain ⟨ps, e1, rfl⟩ := e
    exact .tup (SqT.of (s _ _ h)) (Reps.dp s r e1)
  | _, _, _, .dic _ _ _, e => by cases e
  | _, _, _, .obj _ _ _, e => by cases e
  | _, _, _, .scr _, e => by cases e
theorem Reps.dp (s : Same G H) : ∀ {vs : List V} {ds : List D} {ps : List PyData}, Reps T K G vs ds → toPys ds = some ps → DpAll K H vs ps
  | _, _, _, .nil, e => by cases e; exact .nil
  | _, _, _, .cons (d := d) (ds := ds) a b, e => by
    rw [toPys, Option.bind_eq_some_iff] at e
    obtain ⟨p, e1, e2⟩ := e
    rw [Option.map_eq_some_iff] at e2
    obtain ⟨ps, e3, rfl⟩ := e2
    exact .cons (Rep.dp s a e1) (Reps.dp s b e3)
end
theorem Post.dp {F : Fm} {ρ : List S} {σ : L2.St} {x : V} {d : D} {p : PyData} (h : Post T K .any F ρ σ x d H) (e : toPy d = some p) : Dp K H x p := by
  rcases h.2 with h | ⟨a, rfl, _, h⟩
  · exact h.dp pub_sub e
  · cases d with
    | lst ds =>
      obtain ⟨vs, h1, h2⟩ := h
      rw [toPy, Option.map_eq_some_iff] at e
      obtain ⟨ps, e1, rfl⟩ := e
      exact .lst (SqL.of h1) (h2.dp pub_sub e1)
    | dic ks ds => cases e
    | obj c ds => cases e
    | _ => exact False.elim h
end
def shp (d : D) : Option PyData := (toPy d).bind fun p => if SeqAt.shaped p then some p else none
theorem shp_some {d : D} {p : PyData} (h : shp d = some p) : toPy d = some p ∧ SeqAt.shaped p = true := by
  unfold shp at h
  rw [Option.bind_eq_some_iff] at h
  obtain ⟨q, e, h⟩ := h
  split at h
  · cases h; exact ⟨e, by assumption⟩
  · cases h
def eqO (a b : D) : Option Bool := (shp a).bind fun p => (shp b).bind fun q => some (PyData.eqv p q)
def oEq (a b : D) : Option D := (eqO a b).map .bl
def oNe (a b : D) : Option D := (eqO a b).map fun z => .bl (!z)
theorem eqO_some {a b : D} {z : Bool} (h : eqO a b = some z) : ∃ p q, shp a = some p ∧ shp b = some q ∧ z = PyData.eqv p q := by
  unfold eqO at h
  rw [Option.bind_eq_some_iff] at h
  obtain ⟨p, e1, h⟩ := h
  rw [Option.bind_eq_some_iff] at h
  obtain ⟨q, e2, h⟩ := h
  cases h
  exact ⟨p, q, e1, e2, rfl⟩

abbrev LIM : Nat := 1000000
theorem lim_le {n : Nat} (h : n ≤ LIM) : n ≤ sizeLine := by rw [sizeLine_eq]; exact Nat.le_trans h (by decide)
theorem lim_lt {n : Nat} (h : n ≤ LIM) : n < sizeLine := by rw [sizeLine_eq]; exact Nat.lt_of_le_of_lt h (by decide)
theorem lim_63 {n : Nat} (h : n ≤ LIM) : n < 2 ^ 63 := Nat.lt_of_le_of_lt h (by decide)

/-! ### the operators -/
section
variable {T : Tbl} {K : PySem.W.Frag} {X : Cx}
def oAdd : D → D → Option D
  | .int a, .int b => some (.int (a + b))
  | .str a, .str b => if a.length + b.length ≤ LIM then some (.str (a ++ b)) else none
  | .lst a, .lst b => if a.length + b.length ≤ LIM then some (.lst (a ++ b)) else none
  | _, _ => none
def oCat : D → D → Option D
  | .lst a, .lst b => if a.length + b.length ≤ LIM then some (.lst (a ++ b)) else none
  | _, _ => none
abbrev rAdds : R2 := fun x y H Q => (rI0 (fun i j => .int (i + j)) x y H Q ∨ (∃ i j, x = .str i ∧ y = .str j ∧ i.length + j.length ≤ sizeLine ∧ Q (.str (i ++ j)) H)) ∨ rCat x y H Q
theorem op_adds : OpR X (binaryOp .Add) rAdds := OpR.or (OpR.or op_add op_add_str) op_cat
theorem cat_ok : R2Ok T K .frs rCat oCat := by
  intro F ρ σ H x y dx dy d Q px py e k
  match dx, dy, e with
  | .lst a, .lst b, e =>
    rw [oCat] at e
    split at e
    · rename_i hl
      cases e
      obtain ⟨l, vs, rfl, h1, r1⟩ := px.lst
      obtain ⟨m, ws, rfl, h2, r2⟩ := py.lst
      refine ⟨l, m, vs, ws, rfl, rfl, h1, h2, by rw [r1.length, r2.length]; exact lim_le hl, fun p hp => ?_⟩
      exact k _ _ (upd_new_same hp) (Post.new px.1 hp ⟨_, upd_same, r1.append r2⟩)
    · cases e
theorem adds_ok : R2Ok T K .pub rAdds oAdd := by
  intro F ρ σ H x y dx dy d Q px py e k
  match dx, dy, e with
  | .int a, .int b, e =>
    cases e
    rw [px.int, py.int]
    exact .inl (.inl ⟨a, b, rfl, rfl, k _ H (Same.refl H) ⟨px.1, .int _⟩⟩)
  | .str a, .str b, e =>
    rw [oAdd] at e
    split at e
    · rename_i hl
      cases e
      rw [px.str, py.str]
      exact .inl (.inr ⟨a, b, rfl, rfl, lim_le hl, k _ H (Same.refl H) ⟨px.1, .str _⟩⟩)
    · cases e
  | .lst a, .lst b, e => exact .inr (cat_ok F ρ σ H x y (.lst a) (.lst b) d Q px py e fun v H' s p => k v H' s p.pub_of_frs)
def oRep : D → D → Option D
  | .lst a, .int k => if a.length * k.toNat ≤ LIM ∧ -(2 ^ 62) ≤ k ∧ k < 2 ^ 62 then some (.lst (List.replicate k.toNat a).flatten) else none
  | _, _ => none
theorem rep_ok : R2Ok T K .frs rRep oRep := by
  intro F ρ σ H x y dx dy d Q px py e k
  match dx, dy, e with
  | .lst a, .int n, e =>
    rw [oRep] at e
    split at e
    · rename_i hl
      cases e
      obtain ⟨l, vs, rfl, h1, r1⟩ := px.lst
      rw [py.int]
      refine ⟨l, n, vs, rfl, rfl, h1, Int.le_trans (by decide) hl.2.1, Int.lt_trans hl.2.2 (by decide), by rw [r1.length]; exact lim_le hl.1, fun p hp => ?_⟩
      exact k _ _ (upd_new_same hp) (Post.new px.1 hp ⟨_, upd_same, r1.replicate_flatten _⟩)
    · cases e
/-- ints -/
def oI (g : Int → Int → D) : D → D → Option D
  | .int a, .int b => some (g a b)
  | _, _ => none
def oIc (C : Int → Int → Prop) [∀ i j, Decidable (C i j)] (g : Int → Int → D) : D → D → Option D
  | .int a, .int b => if C a b then some (g a b) else none
  | _, _ => none
theorem rI0_ok {gv : Int → Int → V} {g : Int → Int → D} (h : ∀ G i j, Rep T K G (gv i j) (g i j)) : R2Ok T K .pub (rI0 gv) (oI g) := by
  intro F ρ σ H x y dx dy d Q px py e k
  match dx, dy, e with
  | .int a, .int b, e =>
    cases e
    rw [px.int, py.int]
    exact ⟨a, b, rfl, rfl, k _ H (Same.refl H) ⟨px.1, h _ _ _⟩⟩
theorem rI_ok {C : Int → Int → Prop} [∀ i j, Decidable (C i j)] {gv : Int → Int → V} {g : Int → Int → D} (h : ∀ G i j, Rep T K G (gv i j) (g i j)) : R2Ok T K .pub (rI C gv) (oIc C g) := by
  intro F ρ σ H x y dx dy d Q px py e k
  match dx, dy, e with
  | .int a, .int b, e =>
    rw [oIc] at e
    split at e
    · cases e
      rw [px.int, py.int]
      exact ⟨a, b, rfl, rfl, by assumption, k _ H (Same.refl H) ⟨px.1, h _ _ _⟩⟩
    · cases e
instance : ∀ i j, Decidable (CMul i j) := fun i j => by unfold CMul; exact inferInstance
instance : ∀ i j, Decidable (CDivN i j) := fun i j => by unfold CDivN; exact inferInstance
instance : ∀ i j, Decidable (CPow i j) := fun i j => by unfold CPow; exact inferInstance
def oSub := oI fun i j => .int (i - j)
def oMul := oIc CMul fun i j => .int (i * j)
def oFdiv := oIc CDivN fun i j => .int (i.fdiv j)
def oMod := oIc (fun _ j => j ≠ 0) fun i j => .int (i.fmod j)
def oPow := oIc CPow fun i j => .int (i ^ j.toNat)
def oLt := oI fun i j => .bl (decide (i < j))
def oLe := oI fun i j => .bl (decide (i ≤ j))
def oGt := oI fun i j => .bl (decide (j < i))
def oGe := oI fun i j => .bl (decide (j ≤ i))
theorem sub_ok : R2Ok T K .pub (rI0 fun i j => .int (i - j)) oSub := rI0_ok fun _ _ _ => .int _
theorem mul_ok : R2Ok T K .pub (rI CMul fun i j => .int (i * j)) oMul := rI_ok fun _ _ _ => .int _
theorem fdiv_ok : R2Ok T K .pub (rI CDivN fun i j => .int (i.fdiv j)) oFdiv := rI_ok fun _ _ _ => .int _
theorem mod_ok : R2Ok T K .pub (rI (fun _ j => j ≠ 0) fun i j => .int (i.fmod j)) oMod := rI_ok fun _ _ _ => .int _
theorem pow_ok : R2Ok T K .pub (rI CPow fun i j => .int (i ^ j.toNat)) oPow := rI_ok fun _ _ _ => .int _
theorem lt_ok : R2Ok T K .pub (rI0 fun i j => .bl (decide (i < j))) oLt := rI0_ok fun _ _ _ => .bl _
theorem le_ok : R2Ok T K .pub (rI0 fun i j => .bl (decide (i ≤ j))) oLe := rI0_ok fun _ _ _ => .bl _
theorem gt_ok : R2Ok T K .pub (rI0 fun i j => .bl (decide (j < i))) oGt := rI0_ok fun _ _ _ => .bl _
theorem ge_ok : R2Ok T K .pub (rI0 fun i j => .bl (decide (j ≤ i))) oGe := rI0_ok fun _ _ _ => .bl _
theorem eq_ok : R2Ok T K .pub (rEqD K) oEq := by
  intro F ρ σ H x y dx dy d Q px py e k
  unfold oEq at e
  rw [Option.map_eq_some_iff] at e
  obtain ⟨z, e, rfl⟩ := e
  obtain ⟨p, q, e1, e2, rfl⟩ := eqO_some e
  exact ⟨p, q, px.dp (shp_some e1).1, py.dp (shp_some e2).1, (shp_some e1).2, (shp_some e2).2, k _ H (Same.refl H) ⟨px.1, .bl _⟩⟩
theorem ne_ok : R2Ok T K .pub (rNeD K) oNe := by
  intro F ρ σ H x y dx dy d Q px py e k
  unfold oNe at e
  rw [Option.map_eq_some_iff] at e
  obtain ⟨z, e, rfl⟩ := e
  obtain ⟨p, q, e1, e2, rfl⟩ := eqO_some e
  exact ⟨p, q, px.dp (shp_some e1).1, py.dp (shp_some e2).1, (shp_some e1).2, (shp_some e2).2, k _ H (Same.refl H) ⟨px.1, .bl _⟩⟩
/-- x in a list -/
def inO (x : D) : D → Option Bool
  | .lst ds => (shp x).bind fun p => (shp (.lst ds)).bind fun q => match q with
    | .list qs => some (qs.any fun z => PyData.eqv z p)
    | _ => none
  | _ => none
def oIn (x y : D) : Option D := (inO x y).map .bl
def oNotIn (x y : D) : Option D := (inO x y).map fun z => .bl (!z)
theorem inO_some {x y : D} {z : Bool} (h : inO x y = some z) : ∃ p qs, shp x = some p ∧ shp y = some (.list qs) ∧ z = qs.any fun z => PyData.eqv z p := by
  match y, h with
  | .lst ds, h =>
    unfold inO at h
    rw [Option.bind_eq_some_iff] at h
    obtain ⟨p, e1, h⟩ := h
    rw [Option.bind_eq_some_iff] at h
    obtain ⟨q, e2, h⟩ := h
    cases q with
    | list qs => cases h; exact ⟨p, qs, e1, e2, rfl⟩
    | _ => cases h
theorem in_ok : R2Ok T K .pub (rInD K) oIn := by
  intro F ρ σ H x y dx dy d Q px py e k
  unfold oIn at e
  rw [Option.map_eq_some_iff] at e
  obtain ⟨z, e, rfl⟩ := e
  obtain ⟨p, q, e1, e2, rfl⟩ := inO_some e
  exact ⟨p, q, px.dp (shp_some e1).1, py.dp (shp_some e2).1, (shp_some e1).2, (shp_some e2).2, k _ H (Same.refl H) ⟨px.1, .bl _⟩⟩
theorem notIn_ok : R2Ok T K .pub (rNotInD K) oNotIn := by
  intro F ρ σ H x y dx dy d Q px py e k
  unfold oNotIn at e
  rw [Option.map_eq_some_iff] at e
  obtain ⟨z, e, rfl⟩ := e
  obtain ⟨p, q, e1, e2, rfl⟩ := inO_some e
  exact ⟨p, q, px.dp (shp_some e1).1, py.dp (shp_some e2).1, (shp_some e1).2, (shp_some e2).2, k _ H (Same.refl H) ⟨px.1, .bl _⟩⟩
/-- is None; is not None -/
def isN : D → Bool
  | .non => true
  | _ => false
def oIsN (x y : D) : Option D := if isN y then some (.bl (isN x)) else none
def oNotN (x y : D) : Option D := if isN y then some (.bl (!isN x)) else none
theorem Post.isN {F : Fm} {ρ : List S} {σ : L2.St} {x : V} {d : D} {H : Hp} (h : Post T K .any F ρ σ x d H) : decide (x = .non) = isN d := by
  rcases h.2 with h | ⟨a, rfl, _, h⟩
  · cases h <;> first | rfl | exact decide_eq_false (fun z => nomatch z)
  · cases d <;> first | exact False.elim h | exact decide_eq_false (fun z => nomatch z)
theorem isN_eq {d : D} (h : isN d = true) : d = .non := by cases d <;> first | rfl | cases h
theorem isN_ok : R2Ok T K .pub (fun x y H Q => y = .non ∧ Q (.bl (decide (x = .non))) H) oIsN := by
  intro F ρ σ H x y dx dy d Q px py e k
  unfold oIsN at e
  split at e
  · rename_i hy
    cases e
    cases isN_eq hy
    refine ⟨py.non, k _ H (Same.refl H) ⟨px.1, ?_⟩⟩
    rw [px.isN]
    exact .bl _
  · cases e
theorem notN_ok : R2Ok T K .pub (fun x y H Q => y = .non ∧ Q (.bl (!decide (x = .non))) H) oNotN := by
  intro F ρ σ H x y dx dy d Q px py e k
  unfold oNotN at e
  split at e
  · rename_i hy
    cases e
    cases isN_eq hy
    refine ⟨py.non, k _ H (Same.refl H) ⟨px.1, ?_⟩⟩
    rw [px.isN]
    exact .bl _
  · cases e
def oNeg : D → Option D
  | .int i => some (.int (-i))
  | _ => none
theorem neg_ok : R1Ok T K .pub (rU fun i => .int (-i)) oNeg := by
  intro F ρ σ H x dx d Q px e k
  match dx, e with
  | .int a, e =>
    cases e
    rw [px.int]
    exact ⟨a, rfl, k _ H (Same.refl H) ⟨px.1, .int _⟩⟩
/-! ### subscripts -/
def oIdx : D → D → Option D
  | .lst ds, .int i => atI ds i
  | .tup ds, .int i => atI ds i
  | .scr ns, .int i => (atI ns i).map .int
  | .str z, .int i => if z.length ≤ LIM then (atI z.cps.toList i).map fun c => .str ⟨#[c]⟩ else none
  | _, _ => none
theorem atI_some {α : Type} {xs : List α} {i : Int} {v : α} (h : atI xs i = some v) : ∃ j, ixN xs.length i = some j ∧ xs[j]? = some v := by
  unfold atI at h
  rw [Option.bind_eq_some_iff] at h
  exact h
theorem atI_of {α : Type} {xs : List α} {i : Int} {j : Nat} {v : α} (h : ixN xs.length i = some j) (e : xs[j]? = some v) : atI xs i = some v := by
  unfold atI
  rw [h]
  exact e
theorem Reps.atI {G : Hp} {vs : List V} {ds : List D} {i : Int} {d : D} (r : Reps T K G vs ds) (h : L2.atI ds i = some d) : ∃ v, L2.atI vs i = some v ∧ Rep T K G v d := by
  obtain ⟨j, e1, e2⟩ := atI_some h
  obtain ⟨v, e3, rv⟩ := r.get e2
  exact ⟨v, atI_of (by rw [r.length]; exact e1) e3, rv⟩
abbrev rIdx (K : PySem.W.Frag) : R2 := fun x y H Q => (rIxL K x y H Q ∨ rIxT K x y H Q) ∨ rIxS x y H Q
theorem ix_idx : IxR X (rIdx X.K) := IxR.or (IxR.or ix_list ix_tup) ix_str
theorem idx_ok : R2Ok T K .pub (rIdx K) oIdx := by
  intro F ρ σ H x y dx dy d Q px py e k
  match dx, dy, e with
  | .lst ds, .int i, e =>
    rw [py.int]
    obtain ⟨a, vs, rfl, h, r⟩ := px.lst
    obtain ⟨v, e1, rv⟩ := r.atI e
    exact .inl (.inl ⟨a, vs, i, v, rfl, rfl, SqL.of h, e1, k _ H (Same.refl H) ⟨px.1, rv⟩⟩)
  | .tup ds, .int i, e =>
    rw [py.int]
    obtain ⟨a, vs, rfl, h, r⟩ := px.tup
    obtain ⟨v, e1, rv⟩ := r.atI e
    exact .inl (.inr ⟨a, vs, i, v, rfl, rfl, SqT.of h, e1, k _ H (Same.refl H) ⟨px.1, rv⟩⟩)
  | .scr ns, .int i, e =>
    rw [py.int]
    obtain ⟨a, rfl, h⟩ := px.scr
    rw [oIdx, Option.map_eq_some_iff] at e
    obtain ⟨n, e5, rfl⟩ := e
    obtain ⟨j, e1, e2⟩ := atI_some e5
    refine .inl (.inl ⟨a, _, i, .int n, rfl, rfl, h, atI_of (j := j) (by rw [List.length_map]; exact e1) (by rw [List.getElem?_map, e2] <;> rfl), k _ H (Same.refl H) ⟨px.1, .int _⟩⟩)
  | .str z, .int i, e =>
    rw [py.int, px.str]
    rw [oIdx] at e
    split at e
    · rename_i hl
      rw [Option.map_eq_some_iff] at e
      obtain ⟨c, e5, rfl⟩ := e
      exact .inr ⟨z, i, c, rfl, rfl, lim_le hl, e5, k _ H (Same.refl H) ⟨px.1, .str _⟩⟩
    · cases e
/-! ### built-ins -/
def oLen : D → Option D
  | .lst ds => some (.int ds.length)
  | .tup ds => some (.int ds.length)
  | .scr ns => some (.int ns.length)
  | .str z => if z.length ≤ LIM then some (.int z.length) else none
  | _ => none
abbrev rLens (K : PySem.W.Frag) : List V → Hp → VK → Prop := fun xs H Q => (∃ p ys, xs = [.ref p] ∧ (SqL K H p ys ∨ SqT K H p ys) ∧ Q (.int ys.length) H) ∨ (∃ z, xs = [.str z] ∧ z.length ≤ sizeLine ∧ Q (.int z.length) H)
theorem cr_len : CallR X (.builtin "len") (rLens X.K) := CallR.or call_len_seq call_len_str
theorem len_ok : R1Ok T K .pub (fun v H Q => rLens K [v] H Q) oLen := by
  intro F ρ σ H x dx d Q px e k
  match dx, e with
  | .lst ds, e =>
    cases e
    obtain ⟨a, vs, rfl, h, r⟩ := px.lst
    refine .inl ⟨a, vs, rfl, .inl (SqL.of h), k _ H (Same.refl H) ⟨px.1, ?_⟩⟩
    rw [r.length]
    exact .int _
  | .tup ds, e =>
    cases e
    obtain ⟨a, vs, rfl, h, r⟩ := px.tup
    refine .inl ⟨a, vs, rfl, .inr (SqT.of h), k _ H (Same.refl H) ⟨px.1, ?_⟩⟩
    rw [r.length]
    exact .int _
  | .scr ns, e =>
    cases e
    obtain ⟨a, rfl, h⟩ := px.scr
    refine .inl ⟨a, _, rfl, .inl h, k _ H (Same.refl H) ⟨px.1, ?_⟩⟩
    rw [List.length_map]
    exact .int _
  | .str z, e =>
    rw [oLen] at e
    split at e
    · rename_i hl
      cases e
      rw [px.str]
      exact .inr ⟨z, rfl, lim_le hl, k _ H (Same.refl H) ⟨px.1, .int _⟩⟩
    · cases e
def oAbs : D → Option D
  | .int i => some (.int (if i < 0 then -i else i))
  | _ => none
theorem abs_ok : R1Ok T K .pub (fun v H Q => ∃ i, [v] = [V.int i] ∧ Q (.int (if i < 0 then -i else i)) H) oAbs := by
  intro F ρ σ H x dx d Q px e k
  match dx, e with
  | .int a, e =>
    cases e
    rw [px.int]
    exact ⟨a, rfl, k _ H (Same.refl H) ⟨px.1, .int _⟩⟩
def oInt : D → Option D
  | .int i => some (.int i)
  | .bl b => some (.int (if b then 1 else 0))
  | _ => none
theorem int_ok : R1Ok T K .pub (fun v H Q => (∃ i, [v] = [V.int i] ∧ Q (.int i) H) ∨ ∃ k, [v] = [V.bl k] ∧ Q (.int (if k then 1 else 0)) H) oInt := by
  intro F ρ σ H x dx d Q px e k
  match dx, e with
  | .int a, e =>
    cases e
    rw [px.int]
    exact .inl ⟨a, rfl, k _ H (Same.refl H) ⟨px.1, .int _⟩⟩
  | .bl a, e =>
    cases e
    rw [px.bl]
    exact .inr ⟨a, rfl, k _ H (Same.refl H) ⟨px.1, .int _⟩⟩
def oMax2 := oI fun i j => .int (if j > i then j else i)
def oMin2 := oI fun i j => .int (if j < i then j else i)
theorem max2_ok : R2Ok T K .pub (fun v u H Q => ∃ i j, [v, u] = [V.int i, V.int j] ∧ Q (.int (if j > i then j else i)) H) oMax2 := by
  intro F ρ σ H x y dx dy d Q px py e k
  match dx, dy, e with
  | .int a, .int b, e =>
    cases e
    rw [px.int, py.int]
    exact ⟨a, b, rfl, k _ H (Same.refl H) ⟨px.1, .int _⟩⟩
theorem min2_ok : R2Ok T K .pub (fun v u H Q => ∃ i j, [v, u] = [V.int i, V.int j] ∧ Q (.int (if j < i then j else i)) H) oMin2 := by
  intro F ρ σ H x y dx dy d Q px py e k
  match dx, dy, e with
  | .int a, .int b, e =>
    cases e
    rw [px.int, py.int]
    exact ⟨a, b, rfl, k _ H (Same.refl H) ⟨px.1, .int _⟩⟩
/-- a list of ints -/
def intsOf : List D → Option (List Int)
  | [] => some []
  | .int i :: r => (intsOf r).map (i :: ·)
  | _ :: _ => none
theorem intsOf_some : ∀ {ds : List D} {ns : List Int}, intsOf ds = some ns → ds = ns.map D.int
  | [], _, h => by cases h; rfl
  | d :: r, ns, h => by
    cases d with
    | int i =>
      rw [intsOf, Option.map_eq_some_iff] at h
      obtain ⟨m, e, rfl⟩ := h
      rw [intsOf_some e]
      rfl
    | _ => cases h
theorem intsOf_ints (ns : List Int) : intsOf (ns.map D.int) = some ns := by
  induction ns with
  | nil => rfl
  | cons n ns ih => rw [List.map_cons, intsOf, ih] <;> rfl
def oSum : D → Option D
  | .lst ds => (intsOf ds).map fun ns => .int ns.sum
  | _ => none
theorem sum_ok : R1Ok T K .pub (fun v H Q => rSum K [v] H Q) oSum := by
  intro F ρ σ H x dx d Q px e k
  match dx, e with
  | .lst ds, e =>
    rw [oSum, Option.map_eq_some_iff] at e
    obtain ⟨ns, e5, rfl⟩ := e
    obtain ⟨a, vs, rfl, h, r⟩ := px.lst
    rw [intsOf_some e5] at r
    rw [r.ints] at h
    exact ⟨a, ns, rfl, SqL.of h, k _ H (Same.refl H) ⟨px.1, .int _⟩⟩
def minL : List Int → Option Int
  | [] => none
  | x :: r => some (r.foldl min x)
def maxL : List Int → Option Int
  | [] => none
  | x :: r => some (r.foldl max x)
theorem foldl_min_le : ∀ (r : List Int) (x : Int), r.foldl min x ≤ x ∧ (∀ y ∈ r, r.foldl min x ≤ y) ∧ (r.foldl min x = x ∨ r.foldl min x ∈ r)
  | [], x => ⟨Int.le_refl _, fun _ h => (nomatch h), .inl rfl⟩
  | z :: r, x => by
    obtain ⟨h1, h2, h3⟩ := foldl_min_le r (min x z)
    rw [List.foldl_cons]
    refine ⟨by omega, fun y hy => ?_, ?_⟩
    · rcases List.mem_cons.mp hy with rfl | hy
      · omega
      · exact h2 y hy
    · rcases h3 with h3 | h3
      · rw [h3]
        by_cases h : x ≤ z
        · exact .inl (by omega)
        · exact .inr (List.mem_cons.mpr (.inl (by omega)))
      · exact .inr (List.mem_cons_of_mem _ h3)
theorem foldl_max_le : ∀ (r : List Int) (x : Int), x ≤ r.foldl max x ∧ (∀ y ∈ r, y ≤ r.foldl max x) ∧ (r.foldl max x = x ∨ r.foldl max x ∈ r)
  | [], x => ⟨Int.le_refl _, fun _ h => (nomatch h), .inl rfl⟩
  | z :: r, x => by
    obtain ⟨h1, h2, h3⟩ := foldl_max_le r (max x z)
    rw [List.foldl_cons]
    refine ⟨by omega, fun y hy => ?_, ?_⟩
    · rcases List.mem_cons.mp hy with rfl | hy
      · omega
      · exact h2 y hy
    · rcases h3 with h3 | h3
      · rw [h3]
        by_cases h : z ≤ x
        · exact .inl (by omega)
        · exact .inr (List.mem_cons.mpr (.inl (by omega)))
      · exact .inr (List.mem_cons_of_mem _ h3)
theorem minL_some {ns : List Int} {m : Int} (h : minL ns = some m) : m ∈ ns ∧ ∀ y ∈ ns, m ≤ y := by
  cases ns with
  | nil => cases h
  | cons x r =>
    obtain ⟨h1, h2, h3⟩ := foldl_min_le r x
    cases h
    refine ⟨?_, fun y hy => ?_⟩
    · rcases h3 with h3 | h3
      · rw [h3]; exact List.mem_cons_self ..
      · exact List.mem_cons_of_mem _ h3
    · rcases List.mem_cons.mp hy with rfl | hy
      · exact h1
      · exact h2 y hy
theorem maxL_some {ns : List Int} {m : Int} (h : maxL ns = some m) : m ∈ ns ∧ ∀ y ∈ ns, y ≤ m := by
  cases ns with
  | nil => cases h
  | cons x r =>
    obtain ⟨h1, h2, h3⟩ := foldl_max_le r x
    cases h
    refine ⟨?_, fun y hy => ?_⟩
    · rcases h3 with h3 | h3
      · rw [h3]; exact List.mem_cons_self ..
      · exact List.mem_cons_of_mem _ h3
    · rcases List.mem_cons.mp hy with rfl | hy
      · exact h1
      · exact h2 y hy
def oMin : D → Option D
  | .lst ds => (intsOf ds).bind fun ns => (minL ns).map .int
  | _ => none
def oMax : D → Option D
  | .lst ds => (intsOf ds).bind fun ns => (maxL ns).map .int
  | _ => none
theorem min_ok : R1Ok T K .pub (fun v H Q => rMin K [v] H Q) oMin := by
  intro F ρ σ H x dx d Q px e k
  match dx, e with
  | .lst ds, e =>
    rw [oMin, Option.bind_eq_some_iff] at e
    obtain ⟨ns, e5, e2⟩ := e
    rw [Option.map_eq_some_iff] at e2
    obtain ⟨m, e6, rfl⟩ := e2
    obtain ⟨a, vs, rfl, h, r⟩ := px.lst
    rw [intsOf_some e5] at r
    rw [r.ints] at h
    obtain ⟨m1, m2⟩ := minL_some e6
    refine ⟨a, ns, rfl, SqL.of h, List.length_pos_of_mem m1, fun m' h1 h2 => ?_⟩
    have : m' = m := Int.le_antisymm (h2 m m1) (m2 m' h1)
    subst this
    exact k _ H (Same.refl H) ⟨px.1, .int _⟩
theorem max_ok : R1Ok T K .pub (fun v H Q => rMax K [v] H Q) oMax := by
  intro F ρ σ H x dx d Q px e k
  match dx, e with
  | .lst ds, e =>
    rw [oMax, Option.bind_eq_some_iff] at e
    obtain ⟨ns, e5, e2⟩ := e
    rw [Option.map_eq_some_iff] at e2
    obtain ⟨m, e6, rfl⟩ := e2
    obtain ⟨a, vs, rfl, h, r⟩ := px.lst
    rw [intsOf_some e5] at r
    rw [r.ints] at h
    obtain ⟨m1, m2⟩ := maxL_some e6
    refine ⟨a, ns, rfl, SqL.of h, List.length_pos_of_mem m1, fun m' h1 h2 => ?_⟩
    have : m' = m := Int.le_antisymm (m2 m' h1) (h2 m m1)
    subst this
    exact k _ H (Same.refl H) ⟨px.1, .int _⟩
def insI (x : Int) : List Int → List Int
  | [] => [x]
  | y :: r => if x ≤ y then x :: y :: r else y :: insI x r
def sortI : List Int → List Int
  | [] => []
  | x :: r => insI x (sortI r)
theorem insI_perm (x : Int) : ∀ l, (insI x l).Perm (x :: l)
  | [] => .refl _
  | y :: r => by
    rw [insI]
    split
    · exact .refl _
    · exact ((insI_perm x r).cons y).trans (.swap x y r)
theorem sortI_perm : ∀ l, (sortI l).Perm l
  | [] => .refl _
  | x :: r => (insI_perm x (sortI r)).trans ((sortI_perm r).cons x)
theorem insI_sorted (x : Int) : ∀ l : List Int, l.Pairwise (· ≤ ·) → (insI x l).Pairwise (· ≤ ·)
  | [], _ => List.pairwise_singleton ..
  | y :: r, h => by
    rw [insI]
    split
    · rename_i hxy
      refine List.pairwise_cons.mpr ⟨fun z hz => ?_, h⟩
      rcases List.mem_cons.mp hz with rfl | hz
      · exact hxy
      · exact Int.le_trans hxy ((List.pairwise_cons.mp h).1 z hz)
    · rename_i hxy
      refine List.pairwise_cons.mpr ⟨fun z hz => ?_, insI_sorted x r (List.pairwise_cons.mp h).2⟩
      rcases List.mem_cons.mp ((insI_perm x r).mem_iff.mp hz) with rfl | hz
      · omega
      · exact (List.pairwise_cons.mp h).1 z hz
theorem sortI_sorted : ∀ l : List Int, (sortI l).Pairwise (· ≤ ·)
  | [] => .nil
  | x :: r => insI_sorted x _ (sortI_sorted r)
theorem sorted_unique : ∀ {a b : List Int}, a.Perm b → a.Pairwise (· ≤ ·) → b.Pairwise (· ≤ ·) → a = b := fun p h1 h2 => p.eq_of_pairwise (fun _ _ _ _ => Int.le_antisymm) h1 h2
def oSorted : D → Option D
  | .lst ds => (intsOf ds).map fun ns => .lst ((sortI ns).map .int)
  | _ => none
theorem sorted_ok : R1Ok T K .frs (fun v H Q => rSortedI K [v] H Q) oSorted := by
  intro F ρ σ H x dx d Q px e k
  match dx, e with
  | .lst ds, e =>
    rw [oSorted, Option.map_eq_some_iff] at e
    obtain ⟨ns, e5, rfl⟩ := e
    obtain ⟨a, vs, rfl, h, r⟩ := px.lst
    rw [intsOf_some e5] at r
    rw [r.ints] at h
    refine ⟨a, ns, rfl, SqL.of h, fun ns' p pm srt hp => ?_⟩
    rw [sorted_unique (pm.trans (sortI_perm ns).symm) srt (sortI_sorted ns)]
    exact k _ _ (upd_new_same hp) (Post.new px.1 hp ⟨_, upd_same, Reps.of_ints _⟩)
def oList : D → Option D
  | .lst ds => some (.lst ds)
  | .tup ds => some (.lst ds)
  | _ => none
theorem list_ok : R1Ok T K .frs (fun v H Q => ∃ p ys, [v] = [V.ref p] ∧ (SqL K H p ys ∨ SqT K H p ys) ∧ ∀ l, H l = none → Q (.ref l) (upd H l (.lst ys))) oList := by
  intro F ρ σ H x dx d Q px e k
  match dx, e with
  | .lst ds, e =>
    cases e
    obtain ⟨a, vs, rfl, h, r⟩ := px.lst
    exact ⟨a, vs, rfl, .inl (SqL.of h), fun l hl => k _ _ (upd_new_same hl) (Post.new px.1 hl ⟨_, upd_same, r⟩)⟩
  | .tup ds, e =>
    cases e
    obtain ⟨a, vs, rfl, h, r⟩ := px.tup
    exact ⟨a, vs, rfl, .inr (SqT.of h), fun l hl => k _ _ (upd_new_same hl) (Post.new px.1 hl ⟨_, upd_same, r⟩)⟩
def oTuple : D → Option D
  | .lst ds => some (.tup ds)
  | _ => none
theorem Post.newTup {F : Fm} {ρ : List S} {σ : L2.St} {H : Hp} {p : Addr} {vs : List V} {ds : List D} (r : RS T K F ρ σ H) (hp : H p = none) (w : Reps T K (pubH F.B ρ σ H) vs ds) : Post T K .pub F ρ σ (.ref p) (.tup ds) (upd H p (.tup vs)) := by
  have s := upd_new_same (o := HO.tup vs) hp
  have n : ¬ Hid F.B ρ σ p := fun h => r.hid h hp
  exact ⟨r.grow s, .tup (hideP_of upd_same n) (w.mono (pubH_same s))⟩
theorem tuple_ok : R1Ok T K .pub (fun v H Q => ∃ p ys, [v] = [V.ref p] ∧ ((SqL K H p ys ∧ ∀ l, H l = none → Q (.ref l) (upd H l (.tup ys))) ∨ (SqT K H p ys ∧ Q (.ref p) H))) oTuple := by
  intro F ρ σ H x dx d Q px e k
  match dx, e with
  | .lst ds, e =>
    cases e
    obtain ⟨a, vs, rfl, h, r⟩ := px.lst
    exact ⟨a, vs, rfl, .inl ⟨SqL.of h, fun l hl => k _ _ (upd_new_same hl) (Post.newTup px.1 hl r)⟩⟩
def boolsOf : List D → Option (List Bool)
  | [] => some []
  | .bl i :: r => (boolsOf r).map (i :: ·)
  | _ :: _ => none
theorem boolsOf_some {G : Hp} : ∀ {ds : List D} {ns : List Bool} {vs : List V}, boolsOf ds = some ns → Reps T K G vs ds → vs = ns.map V.bl
  | [], _, _, h, r => by cases h; cases r; rfl
  | d :: q, ns, vs, h, r => by
    cases d with
    | bl i =>
      rw [boolsOf, Option.map_eq_some_iff] at h
      obtain ⟨m, e, rfl⟩ := h
      cases r with
      | cons a b =>
        cases a
        rw [boolsOf_some e b]
        rfl
    | _ => cases h
def oAny : D → Option D
  | .lst ds => (boolsOf ds).map fun ns => .bl (ns.any id)
  | _ => none
theorem any_ok : R1Ok T K .pub (fun v H Q => rAny K [v] H Q) oAny := by
  intro F ρ σ H x dx d Q px e k
  match dx, e with
  | .lst ds, e =>
    rw [oAny, Option.map_eq_some_iff] at e
    obtain ⟨ns, e5, rfl⟩ := e
    obtain ⟨a, vs, rfl, h, r⟩ := px.lst
    rw [boolsOf_some e5 r] at h
    exact ⟨a, ns, rfl, SqL.of h, k _ H (Same.refl H) ⟨px.1, .bl _⟩⟩
end
end DL

namespace DL
open PySem PySem.Spec L2
open PyProof.Rows hiding St

/-! ### arguments -/
section
variable {T : Tbl} {W : WX} {X : Cx} {e a b : Expr} {es : List Expr} {f fa fb : List S → R D} {fs : List S → R (List D)} {m : Md} {ms : List Bool} {pos : Pos}
def aNil (_ : List S) : R (List D) := .ok []
def aCons (f : List S → R D) (fs : List S → R (List D)) (ρ : List S) : R (List D) := (f ρ).bind fun d => (fs ρ).bind fun ds => .ok (d :: ds)
theorem da_nil : DA T W [] X [] aNil := ⟨PA.imp pa_nil fun σ H Q ⟨F, ρ, rs, q⟩ => q [] H (Same.refl H) rs True.intro⟩
theorem PostL.grow {K : PySem.W.Frag} {F : Fm} {ρ : List S} {σ : L2.St} {H H' : Hp} (s : Same H H') : ∀ {ms : List Bool} {vs : List V} {ds : List D}, PostL T K F ρ σ ms vs ds H → PostL T K F ρ σ ms vs ds H'
  | [], [], [], _ => True.intro
  | m :: ms, v :: vs, d :: ds, h => ⟨h.1.elim (fun z => .inl (z.mono (pubH_same s))) fun ⟨e, z⟩ => .inr ⟨e, z.mono (pubH_same s) (fun a o _ => s _ _) fun _ h => h⟩, PostL.grow s h.2⟩
  | [], [], _ :: _, h => h.elim
  | [], _ :: _, _, h => h.elim
  | _ :: _, [], _, h => h.elim
  | _ :: _, _ :: _, [], h => h.elim
/-- a public argument -/
theorem da_cons (he : DE T W .pub X e f) (hr : DA T W ms X es fs) (hs : starEach (e :: es) X.env = (false, eval e X.env) :: starEach es X.env := by rfl) : DA T W (true :: ms) X (e :: es) (aCons f fs) := by
  refine ⟨PA.imp (pa_cons he.run hr.run hs) fun σ H Q ⟨F, ρ, rs, q⟩ => ⟨F, ρ, rs, q.bind.imp fun d q1 v H1 s1 p1 => ⟨F, ρ, p1.rs, (q1.bind.grow s1).imp fun ds q2 vs H2 s2 r2 p2 => ?_⟩⟩⟩
  exact q2 (v :: vs) H2 (s1.trans s2) r2 ⟨.inl (p1.grow s2).2, p2⟩
/-- a borrowed one -/
theorem da_consB (he : DE T W m X e f) (hr : DA T W ms X es fs) (hs : starEach (e :: es) X.env = (false, eval e X.env) :: starEach es X.env := by rfl) : DA T W (false :: ms) X (e :: es) (aCons f fs) := by
  refine ⟨PA.imp (pa_cons he.any.run hr.run hs) fun σ H Q ⟨F, ρ, rs, q⟩ => ⟨F, ρ, rs, q.bind.imp fun d q1 v H1 s1 p1 => ⟨F, ρ, p1.rs, (q1.bind.grow s1).imp fun ds q2 vs H2 s2 r2 p2 => ?_⟩⟩⟩
  exact q2 (v :: vs) H2 (s1.trans s2) r2 ⟨.inr ⟨rfl, (p1.grow s2).2⟩, p2⟩
/-- all public -/
def pubs : Nat → List Bool
  | 0 => []
  | n + 1 => true :: pubs n
def allT : List Bool → Bool
  | [] => true
  | b :: r => b && allT r
theorem PostL.reps {K : PySem.W.Frag} {F : Fm} {ρ : List S} {σ : L2.St} {H : Hp} : ∀ {ms : List Bool} {vs : List V} {ds : List D}, allT ms = true → PostL T K F ρ σ ms vs ds H → Reps T K (pubH F.B ρ σ H) vs ds
  | [], [], [], _, _ => .nil
  | m :: ms, v :: vs, d :: ds, hm, h => by
    rw [allT, Bool.and_eq_true] at hm
    obtain ⟨rfl, hm⟩ := hm
    refine .cons ?_ (PostL.reps hm h.2)
    rcases h.1 with z | ⟨z, _⟩
    · exact z
    · cases z
  | [], [], _ :: _, _, h => h.elim
  | [], _ :: _, _, _, h => h.elim
  | _ :: _, [], _, _, h => h.elim
  | _ :: _, _ :: _, [], _, h => h.elim

/-! ### displays -/
def oLst (ds : List D) : Option D := if ds.length ≤ LIM then some (.lst ds) else none
def oTup (ds : List D) : Option D := if ds.length ≤ LIM then some (.tup ds) else none
def dLst (fs : List S → R (List D)) (ρ : List S) : R D := (fs ρ).bind fun ds => ofO (oLst ds)
def dTup (fs : List S → R (List D)) (ρ : List S) : R D := (fs ρ).bind fun ds => ofO (oTup ds)
theorem de_lst (ha : DA T W ms X es fs) (hm : allT ms = true := by rfl) : DE T W .frs X (.List es pos) (dLst fs) := by
  refine ⟨PE.imp (pe_lst ha.run) fun σ H Q ⟨F, ρ, rs, q⟩ => ⟨F, ρ, rs, q.bind.imp fun ds q1 vs H1 s1 r1 p1 => ?_⟩⟩
  obtain ⟨d, hd, q1⟩ := q1.ofO
  unfold oLst at hd
  split at hd
  · cases hd
    have r := p1.reps hm
    exact ⟨by rw [r.length]; exact lim_le (by assumption), fun p hp => q1 _ _ (s1.trans (upd_new_same hp)) (Post.new r1 hp ⟨_, upd_same, r⟩)⟩
  · cases hd
theorem de_tup {x1} (ha : DA T W ms X es fs) (hm : allT ms = true := by rfl) : DE T W .pub X (.Tuple es x1 pos) (dTup fs) := by
  refine ⟨PE.imp (pe_tup ha.run) fun σ H Q ⟨F, ρ, rs, q⟩ => ⟨F, ρ, rs, q.bind.imp fun ds q1 vs H1 s1 r1 p1 => ?_⟩⟩
  obtain ⟨d, hd, q1⟩ := q1.ofO
  unfold oTup at hd
  split at hd
  · cases hd
    have r := p1.reps hm
    exact ⟨by rw [r.length]; exact lim_le (by assumption), fun p hp => q1 _ _ (s1.trans (upd_new_same hp)) (Post.newTup r1 hp r)⟩
  · cases hd

/-! ### slices -/
def cutD (ds : List D) (lo hi : Option Int) : List D := (ds.drop (HT.sIx ds.length 0 lo)).take (HT.sIx ds.length ds.length hi - HT.sIx ds.length 0 lo)
theorem Reps.cut {K : PySem.W.Frag} {G : Hp} {vs : List V} {ds : List D} (r : Reps T K G vs ds) (lo hi : Option Int) : Reps T K G (cutV vs lo hi) (cutD ds lo hi) := by
  unfold cutV cutD
  rw [r.length]
  exact (r.drop _).take _
/-- an optional end of a slice -/
structure DO (T : Tbl) (W : WX) (X : Cx) (e : Option Expr) (f : List S → R (Option Int)) : Prop where
  run : PO X e (fun σ H Q => ∃ F ρ, RS T X.K F ρ σ H ∧ Res T X.K W F ρ σ H (f ρ) fun o => ∀ H', Same H H' → RS T X.K F ρ σ H' → Q o H')
def sNone (_ : List S) : R (Option Int) := .ok none
def sSome (f : List S → R D) (ρ : List S) : R (Option Int) := (f ρ).bind fun d => match d with
  | .int i => .ok (some i)
  | _ => .no
theorem PO.imp {X : Cx} {e : Option Expr} {t t' : TO} (h : PO X e t) (i : ∀ σ H Q, t' σ H Q → t σ H Q) : PO X e t' := ⟨fun pins s σ H Q I q => h.run pins s σ H Q I (i σ H Q q)⟩
theorem do_none : DO T W X none sNone := ⟨PO.imp po_none fun σ H Q ⟨F, ρ, rs, q⟩ => q H (Same.refl H) rs⟩
theorem do_some (he : DE T W m X e f) : DO T W X (some e) (sSome f) := by
  refine ⟨PO.imp (po_some he.any.run) fun σ H Q ⟨F, ρ, rs, q⟩ => ⟨F, ρ, rs, q.bind.imp fun d q1 v H1 s1 p1 => ?_⟩⟩
  match d, q1 with
  | .int i, q1 => exact ⟨i, p1.int, q1 H1 s1 p1.1⟩
def dSl (f : List S → R D) (l h : List S → R (Option Int)) (ρ : List S) : R D := (f ρ).bind fun d => (l ρ).bind fun lo => (h ρ).bind fun hi => match d with
  | .lst ds => .ok (.lst (cutD ds lo hi))
  | _ => .no
variable {lo hi : Option Expr} {p2 : Pos} {fl fh : List S → R (Option Int)}
theorem de_slice (he : DE T W m X e f) (hl : DO T W X lo fl) (hh : DO T W X hi fh) : DE T W .frs X (.Subscript e (.Slice lo hi none p2) pos) (dSl f fl fh) := by
  refine ⟨PE.imp (pe_slice sl_list he.any.run hl.run hh.run) fun σ H Q ⟨F, ρ, rs, q⟩ => ⟨F, ρ, rs, q.bind.imp fun d q1 v H1 s1 p1 => ⟨F, ρ, p1.rs, (q1.bind.grow s1).imp fun o1 q2 H2 s2 r2 => ⟨F, ρ, r2, (Res.grow (Res.grow q2.bind s1) s2).imp fun o2 q3 H3 s3 r3 => ?_⟩⟩⟩⟩
  match d, q3 with
  | .lst ds, q3 =>
    obtain ⟨a, vs, rfl, h, r⟩ := (p1.grow (s2.trans s3)).lst
    exact ⟨a, vs, rfl, SqL.of h, fun p hp => q3 _ _ (s1.trans (s2.trans (s3.trans (upd_new_same hp)))) (Post.new r3 hp ⟨_, upd_same, r.cut _ _⟩)⟩
  | .int _, q3 => exact False.elim q3
  | .str _, q3 => exact False.elim q3
  | .bl _, q3 => exact False.elim q3
  | .non, q3 => exact False.elim q3
  | .tup _, q3 => exact False.elim q3
  | .dic _ _, q3 => exact False.elim q3
  | .obj _ _, q3 => exact False.elim q3
  | .scr _, q3 => exact False.elim q3

/-! ### attributes -/
def oFld (c i : Nat) : D → Option D
  | .obj c' ds => if c' = c then ds[i]? else none
  | _ => none
theorem FldOk.get {ns : List Str} {vs : List V} {fs : List (Str × V)} (h : FldOk ns vs fs) {i : Nat} {n : Str} {v : V} (e1 : ns[i]? = some n) (e2 : vs[i]? = some v) : fs.lookup n = some v := h.at_ i n v e1 e2
theorem de_fld {c i : Nat} {nm : Str} (he : DE T W m X e f) (hi : (T.flds c)[i]? = some nm) (cl : Cls X.K (T.cls c)) (na : NoAttr X.K (T.cls c) nm) (hb : attributeBase e nm X.env (eval e X.env) = eval e X.env := by rfl) :
    DE T W .pub X (.Attribute e nm pos) (op1 (oFld c i) f) := by
  refine ⟨PE.imp (pe_fld he.any.run hb) fun σ H Q ⟨F, ρ, rs, q⟩ => ⟨F, ρ, rs, q.bind.imp fun d q1 v H1 s1 p1 => ?_⟩⟩
  obtain ⟨d', hd, k⟩ := q1.ofO
  match d, hd with
  | .obj c' ds, hd =>
    rw [oFld] at hd
    split at hd
    · rename_i hc
      have hd7 := hd
      subst hc
      obtain ⟨a, dx, vs, fs, rfl, h, fo, r⟩ := p1.obj
      obtain ⟨w, hw, rw'⟩ := r.get hd7
      have hlt : i < ds.length := (List.getElem?_eq_some_iff.mp hd7).1
      exact ⟨a, _, dx, fs, w, rfl, h, cl, na, fo.get (by rw [List.getElem?_take_of_lt hlt]; exact hi) hw, k _ H1 s1 ⟨p1.1, rw'⟩⟩
    · cases hd

/-! ### tests -/
def tB (f : List S → R D) (ρ : List S) : R Bool := (f ρ).bind fun d => match d with
  | .bl b => .ok b
  | _ => .no
def truD : D → Option Bool
  | .non => some false
  | .bl b => some b
  | .int i => some (i != 0)
  | .lst ds => some (!ds.isEmpty)
  | .tup ds => some (!ds.isEmpty)
  | _ => none
def tTr (f : List S → R D) (ρ : List S) : R Bool := (f ρ).bind fun d => ofO (truD d)
variable {ga gb : List S → R Bool} {c : Expr} {rest : List Expr}
/-- a comparison, a call that gives a bool ..: its value is a bool -/
theorem dt_val (he : DE T W m X e f) (hv : ∀ whole, isTrue e X.env whole = (do let v ← whole; standAt e.pos; holding [v] (truthy v)) := by intro _; rfl) : DT T W X e (tB f) := by
  refine ⟨PT.imp (pt_val he.any.run hv) fun σ H Q ⟨F, ρ, rs, q⟩ => ⟨F, ρ, rs, q.bind.imp fun d q1 v H1 s1 p1 => ?_⟩⟩
  match d, q1 with
  | .bl b, q1 => exact ⟨b, p1.bl, q1 H1 s1 p1.1⟩
/-- a comparison as a test -/
theorem dt_cmp {op : CmpOp} {r : R2} {g : D → D → Option D} {ma mb : Md} (ho : OpR X (compareOp op) r) (hm : behindInMarks op b = false) (ha : DE T W ma X a fa) (hb : DE T W mb X b fb) (hg : R2Ok T X.K .pub r g) : DT T W X (.Compare a [op] [b] pos) (tB (op2 g fa fb)) := by
  refine ⟨PT.imp (pt_cmpR ho ha.any.run hb.any.run hm) fun σ H Q ⟨F, ρ, rs, q⟩ => ?_⟩
  have q' : tD T X.K W .pub (op2 g fa fb) σ H fun v H' => ∃ k, v = .bl k ∧ Q k H' := ⟨F, ρ, rs, q.bind.imp fun d q1 v H1 s1 p1 => by
    match d, q1 with
    | .bl b, q1 => exact ⟨b, p1.any_of_pub.bl, q1 H1 s1 p1.1⟩⟩
  exact tOp_ok (r := r) hg q'
theorem truV_of {K : PySem.W.Frag} {F : Fm} {ρ : List S} {σ : L2.St} {H : Hp} {v : V} {d : D} {k : Bool} (p : Post T K .any F ρ σ v d H) (h : truD d = some k) : TruV K v H k := by
  match d, h with
  | .non, h => cases h; rw [p.non]; rfl
  | .bl b, h => cases h; rw [p.bl]; rfl
  | .int i, h => cases h; rw [p.int]; rfl
  | .lst ds, h =>
    cases h
    obtain ⟨a, vs, rfl, h, r⟩ := p.lst
    refine .inl ⟨vs, SqL.of h, ?_⟩
    cases r <;> rfl
  | .tup ds, h =>
    cases h
    obtain ⟨a, vs, rfl, h, r⟩ := p.tup
    refine .inr (.inl ⟨vs, SqT.of h, ?_⟩)
    cases r <;> rfl
theorem dt_truth (he : DE T W m X e f) (hv : ∀ whole, isTrue e X.env whole = (do let v ← whole; standAt e.pos; holding [v] (truthy v)) := by intro _; rfl) : DT T W X e (tTr f) := by
  refine ⟨PT.imp (pt_truth he.any.run hv) fun σ H Q ⟨F, ρ, rs, q⟩ => ⟨F, ρ, rs, q.bind.imp fun d q1 v H1 s1 p1 => ?_⟩⟩
  obtain ⟨k, hk, q2⟩ := q1.ofO
  exact ⟨k, truV_of p1 hk, q2 H1 s1 p1.1⟩
/-- chains of and, or -/
structure DW (T : Tbl) (W : WX) (X : Cx) (e : Expr) (f : List S → R Bool) : Prop where
  run : PW X e (tDT T X.K W f)
theorem PW.imp {X : Cx} {e : Expr} {t t' : TT} (h : PW X e t) (i : ∀ σ H Q, t' σ H Q → t σ H Q) : PW X e t' := ⟨fun w pins s σ H Q I q => h.run w pins s σ H Q I (i σ H Q q)⟩
def tAnd (f g : List S → R Bool) (ρ : List S) : R Bool := (f ρ).bind fun b => if b = true then g ρ else .ok false
def tOr (f g : List S → R Bool) (ρ : List S) : R Bool := (f ρ).bind fun b => if b = true then .ok true else g ρ
def tNot (f : List S → R Bool) (ρ : List S) : R Bool := (f ρ).bind fun b => .ok (!b)
theorem dw_and1 (ha : DT T W X a ga) : DW T W X (.BoolOp .And [a] pos) ga := ⟨pw_and1 ha.run⟩
theorem dw_or1 (ha : DT T W X a ga) : DW T W X (.BoolOp .Or [a] pos) ga := ⟨pw_or1 ha.run⟩
theorem dw_and (ha : DT T W X a ga) (hb : DW T W X (.BoolOp .And (b :: rest) pos) gb) : DW T W X (.BoolOp .And (a :: b :: rest) pos) (tAnd ga gb) := by
  refine ⟨PW.imp (pw_and ha.run hb.run) fun σ H Q ⟨F, ρ, rs, q⟩ => ⟨F, ρ, rs, q.bind.imp fun k q1 H1 s1 r1 => ?_⟩⟩
  cases k with
  | true => exact ⟨F, ρ, r1, (Res.grow q1 s1).imp fun k2 q2 H2 s2 r2 => q2 H2 (s1.trans s2) r2⟩
  | false => exact q1 H1 s1 r1
theorem dw_or (ha : DT T W X a ga) (hb : DW T W X (.BoolOp .Or (b :: rest) pos) gb) : DW T W X (.BoolOp .Or (a :: b :: rest) pos) (tOr ga gb) := by
  refine ⟨PW.imp (pw_or ha.run hb.run) fun σ H Q ⟨F, ρ, rs, q⟩ => ⟨F, ρ, rs, q.bind.imp fun k q1 H1 s1 r1 => ?_⟩⟩
  cases k with
  | true => exact q1 H1 s1 r1
  | false => exact ⟨F, ρ, r1, (Res.grow q1 s1).imp fun k2 q2 H2 s2 r2 => q2 H2 (s1.trans s2) r2⟩
theorem DW.dt (h : DW T W X e ga) : DT T W X e ga := ⟨h.run.pt⟩
theorem dt_not (ha : DT T W X a ga) : DT T W X (.UnaryOp .Not a pos) (tNot ga) :=
  ⟨PT.imp (pt_not ha.run) fun σ H Q ⟨F, ρ, rs, q⟩ => ⟨F, ρ, rs, q.bind.imp fun k q1 H1 s1 r1 => q1 H1 s1 r1⟩⟩
/-- the same as values (bools) -/
def eAnd (f g : List S → R D) (ρ : List S) : R D := (f ρ).bind fun d => match d with
  | .bl true => g ρ
  | .bl false => .ok (.bl false)
  | _ => .no
def eOr (f g : List S → R D) (ρ : List S) : R D := (f ρ).bind fun d => match d with
  | .bl true => .ok (.bl true)
  | .bl false => g ρ
  | _ => .no
def oNot : D → Option D
  | .bl b => some (.bl !b)
  | _ => none
theorem de_and (ha : DE T W m X a fa) (hb : DE T W .pub X (.BoolOp .And (b :: rest) pos) fb) : DE T W .pub X (.BoolOp .And (a :: b :: rest) pos) (eAnd fa fb) := by
  refine ⟨PE.imp (pe_and ha.any.run hb.run) fun σ H Q ⟨F, ρ, rs, q⟩ => ⟨F, ρ, rs, q.bind.imp fun d q1 v H1 s1 p1 => ?_⟩⟩
  match d, q1 with
  | .bl true, q1 => exact ⟨true, p1.bl, iteT ⟨F, ρ, p1.1, (Res.grow q1 s1).imp fun d2 q2 v2 H2 s2 p2 => q2 v2 H2 (s1.trans s2) p2⟩⟩
  | .bl false, q1 => exact ⟨false, p1.bl, iteF (q1 _ H1 s1 ⟨p1.1, .bl _⟩)⟩
theorem de_or (ha : DE T W m X a fa) (hb : DE T W .pub X (.BoolOp .Or (b :: rest) pos) fb) : DE T W .pub X (.BoolOp .Or (a :: b :: rest) pos) (eOr fa fb) := by
  refine ⟨PE.imp (pe_or ha.any.run hb.run) fun σ H Q ⟨F, ρ, rs, q⟩ => ⟨F, ρ, rs, q.bind.imp fun d q1 v H1 s1 p1 => ?_⟩⟩
  match d, q1 with
  | .bl false, q1 => exact ⟨false, p1.bl, iteF ⟨F, ρ, p1.1, (Res.grow q1 s1).imp fun d2 q2 v2 H2 s2 p2 => q2 v2 H2 (s1.trans s2) p2⟩⟩
  | .bl true, q1 => exact ⟨true, p1.bl, iteT (q1 _ H1 s1 ⟨p1.1, .bl _⟩)⟩
theorem de_one {op} (h : DE T W m X a fa) : DE T W m X (.BoolOp op [a] pos) fa := ⟨pe_one h.run⟩
theorem de_not (ha : DE T W m X a fa) : DE T W .pub X (.UnaryOp .Not a pos) (op1 oNot fa) := by
  refine ⟨PE.imp (pe_not ha.any.run) fun σ H Q ⟨F, ρ, rs, q⟩ => ⟨F, ρ, rs, q.bind.imp fun d q1 v H1 s1 p1 => ?_⟩⟩
  obtain ⟨d', hd, k⟩ := q1.ofO
  match d, hd with
  | .bl b, hd => cases hd; exact ⟨b, p1.bl, k _ H1 s1 ⟨p1.1, .bl _⟩⟩
def dIf (g : List S → R Bool) (fa fb : List S → R D) (ρ : List S) : R D := (g ρ).bind fun b => if b = true then fa ρ else fb ρ
theorem de_if (hc : DT T W X c ga) (ha : DE T W m X a fa) (hb : DE T W m X b fb) : DE T W m X (.IfExp c a b pos) (dIf ga fa fb) := by
  refine ⟨PE.imp (pe_ifExp hc.run ha.run hb.run) fun σ H Q ⟨F, ρ, rs, q⟩ => ⟨F, ρ, rs, q.bind.imp fun k q1 H1 s1 r1 => ?_⟩⟩
  cases k with
  | true => exact iteT ⟨F, ρ, r1, (Res.grow q1 s1).imp fun d2 q2 v2 H2 s2 p2 => q2 v2 H2 (s1.trans s2) p2⟩
  | false => exact iteF ⟨F, ρ, r1, (Res.grow q1 s1).imp fun d2 q2 v2 H2 s2 p2 => q2 v2 H2 (s1.trans s2) p2⟩
end

/-! ### a def's promise by its denotation -/
/-- the arguments at a call: public (true) or borrowed -/
def ArgR (T : Tbl) (K : PySem.W.Frag) (B : Addr → Prop) (H : Hp) : List Bool → List V → List D → Prop
  | [], [], [] => True
  | m :: ms, v :: vs, d :: ds => (Rep T K (hideP H B) v d ∨ m = false ∧ RepB T K B (hideP H B) H v d) ∧ ArgR T K B H ms vs ds
  | _, _, _ => False
/-- what is handed back: public, or (fr = true) a fresh object -/
def RetR (T : Tbl) (K : PySem.W.Frag) (B : Addr → Prop) (H0 : Hp) (fr : Bool) (v : V) (d : D) (H : Hp) : Prop :=
  if fr = true then ∃ p, v = .ref p ∧ H0 p = none ∧ ¬ B p ∧ OwnAt T K (hideP H (fun a => B a ∨ a = p)) H p d else Rep T K (hideP H B) v d
def spD (T : Tbl) (K : PySem.W.Frag) (ms : List Bool) (fr : Bool) (den : List D → R D) : Sp := fun vs H Q E => ∃ B ds, (∀ b, B b → H b ≠ none) ∧ ArgR T K B H ms vs ds ∧ match den ds with
  | .ok d => ∀ v H', Same H H' → RetR T K B H fr v d H' → Q v H'
  | .exc c fs => ∀ dO H', Same H H' → XRep T K (hideP H' B) H' c fs dO → E (.ref (T.cls c)) dO H'
  | .no => False
theorem ArgR.len {T : Tbl} {K : PySem.W.Frag} {B : Addr → Prop} {H : Hp} : ∀ {ms : List Bool} {vs : List V} {ds : List D}, ArgR T K B H ms vs ds → vs.length = ms.length ∧ ds.length = ms.length
  | [], [], [], _ => ⟨rfl, rfl⟩
  | m :: ms, v :: vs, d :: ds, h => ⟨congrArg (· + 1) (ArgR.len h.2).1, congrArg (· + 1) (ArgR.len h.2).2⟩
  | [], [], _ :: _, h => h.elim
  | [], _ :: _, _, h => h.elim
  | _ :: _, [], _, h => h.elim
  | _ :: _, _ :: _, [], h => h.elim
theorem spD.len {T : Tbl} {K : PySem.W.Frag} {ms : List Bool} {fr : Bool} {den : List D → R D} {ps : List Str} (hl : ms.length = ps.length) (vs : List V) (H : Hp) (Q : VK) (E : XK) (h : spD T K ms fr den vs H Q E) : vs.length = ps.length := by
  obtain ⟨B, ds, _, h, _⟩ := h
  rw [h.len.1, hl]
theorem PostL.arg {T : Tbl} {K : PySem.W.Frag} {F : Fm} {ρ : List S} {σ : L2.St} {H : Hp} : ∀ {ms : List Bool} {vs : List V} {ds : List D}, PostL T K F ρ σ ms vs ds H → ArgR T K (Hid F.B ρ σ) H ms vs ds
  | [], [], [], _ => True.intro
  | m :: ms, v :: vs, d :: ds, h => ⟨h.1, PostL.arg h.2⟩
  | [], [], _ :: _, h => h.elim
  | [], _ :: _, _, h => h.elim
  | _ :: _, [], _, h => h.elim
  | _ :: _, _ :: _, [], h => h.elim
def mdOf (fr : Bool) : Md := if fr = true then .frs else .pub
/-- behind a call -/
theorem RetR.post {T : Tbl} {K : PySem.W.Frag} {F : Fm} {ρ : List S} {σ : L2.St} {H H' : Hp} {fr : Bool} {v : V} {d : D} (rs : RS T K F ρ σ H) (s : Same H H') (h : RetR T K (Hid F.B ρ σ) H fr v d H') : Post T K (mdOf fr) F ρ σ v d H' := by
  unfold RetR at h
  unfold mdOf
  cases fr with
  | false => exact ⟨rs.grow s, h⟩
  | true =>
    obtain ⟨p, rfl, h0, hb, w⟩ := h
    obtain ⟨o, ho⟩ := w.there
    refine ⟨p, rfl, rs.same.free h0, hb, rs.hide2 h0 s (fun z => by rw [ho] at z; cases z), w.mono (hideP_same (Same.refl H') fun a o _ hh => ?_) fun o e => e⟩
    rcases hh with (hh | hh) | hh
    · exact .inl (.inl hh)
    · exact .inr hh
    · exact .inl (.inr hh)
section
variable {T : Tbl} {W : WX} {X : Cx} {e o : Expr} {es : List Expr} {fs : List S → R (List D)} {f : List S → R D} {m : Md} {ms : List Bool} {fr : Bool} {pos p apos : Pos} {k : Nat} {g : Addr} {fd : FuncData} {ps : List Str} {den : List D → R D} {x mn : Str}
def dCall (den : List D → R D) (fs : List S → R (List D)) (ρ : List S) : R D := (fs ρ).bind den
theorem spD_of {F : Fm} {ρ : List S} {σ : L2.St} {H : Hp} {Q : VK} {vs : List V} {ds : List D} (rs : RS T X.K F ρ σ H) (pl : PostL T X.K F ρ σ ms vs ds H) (q : Res T X.K W F ρ σ H (den ds) fun d => ∀ v H', Same H H' → Post T X.K (mdOf fr) F ρ σ v d H' → Q v H') :
    spD T X.K ms fr den vs H Q (WE W σ) := by
  refine ⟨Hid F.B ρ σ, ds, fun b hb => rs.hid hb, pl.arg, ?_⟩
  generalize hr : den ds = r at q ⊢
  cases r with
  | ok d => exact fun v H' s h => q v H' s (h.post rs s)
  | exc c fs => exact fun dO H' s h => q dO H' s (rs.grow s) h
  | no => exact q
theorem de_call (F : FnOk X.prog X.w X.K X.mg X.base (L2.CX X.prog X.w) k g fd ps (spD T X.K ms fr den)) (hr : Room k X.A) (tk : Takes X W) (hg : Gl X x) (hm : X.mg x = some (.ref g)) (hk : PySem.W.keepIn X.K (.ref g) = true) (hb : Binds X.K fd ps []) (ha : DA T W ms X (e :: es) fs)
    (hdb : (x == ("__debug__" : Str)) = false := by decide) (he : starEach (e :: es) X.env = (false, eval e X.env) :: starEach es X.env := by rfl) (hpl : (backTo pos (starEach es X.env)).any (·.1) = false := by rfl) :
    DE T W (mdOf fr) X (.Call (.Name x p) (e :: es) [] pos) (dCall den fs) := by
  refine ⟨PE.imp (pe_callSD (E := WE W) F hr hg hm hk hb .nil (passAt tk) ha.run hdb he hpl) fun σ H Q ⟨F, ρ, rs, q⟩ => ⟨F, ρ, rs, q.bind.imp fun ds q1 vs H1 s1 r1 p1 => ?_⟩⟩
  show spD T X.K ms fr den (vs ++ []) H1 Q (WE W σ)
  rw [List.append_nil]
  exact spD_of r1 p1 ((Res.grow q1 s1).imp fun d k v H' s p => k v H' (s1.trans s) p)
end
end DL

namespace DL
open PySem PySem.Spec L2
open PyProof.Rows hiding St

/-! ### slots changed -/
def Keep (F : Fm) (ρ : List S) (σ : L2.St) (H : Hp) (ρ' : List S) (σ' : L2.St) (H' : Hp) : Prop := Same (pubH F.B ρ σ H) (pubH F.B ρ' σ' H') ∧ ∀ b, F.B b → H' b = H b
theorem Keep.refl (F : Fm) (ρ : List S) (σ : L2.St) (H : Hp) : Keep F ρ σ H ρ σ H := ⟨Same.refl _, fun _ _ => rfl⟩
theorem Keep.trans {F : Fm} {ρ ρ1 ρ2 : List S} {σ σ1 σ2 : L2.St} {H H1 H2 : Hp} (a : Keep F ρ σ H ρ1 σ1 H1) (b : Keep F ρ1 σ1 H1 ρ2 σ2 H2) : Keep F ρ σ H ρ2 σ2 H2 := ⟨a.1.trans b.1, fun c h => (b.2 c h).trans (a.2 c h)⟩
section
variable {T : Tbl} {K : PySem.W.Frag} {F : Fm} {ρ : List S} {σ : L2.St} {H H' : Hp} {v : V} {d : D} {i : Nat}
theorem Keep.grow (r : RS T K F ρ σ H) (s : Same H H') : Keep F ρ σ H ρ σ H' := ⟨pubH_same s, fun b hb => by
  cases e : H b with
  | none => exact absurd e (r.alloc b hb)
  | some o => exact s b o e⟩
theorem get_set {α : Type} {l : List α} {i j : Nat} {x y : α} (h : (l.set i x)[j]? = some y) : (j = i ∧ y = x ∧ i < l.length) ∨ (j ≠ i ∧ l[j]? = some y) := by
  rw [List.getElem?_set] at h
  split at h
  · rename_i e
    split at h
    · cases h; exact .inl ⟨e.symm, rfl, by assumption⟩
    · cases h
  · rename_i e
    exact .inr ⟨fun z => e z.symm, h⟩
/-- a slot gets something that is not the frame's own -/
theorem set_own {s : S} {w : Option V} (hs : ∀ d, s ≠ .ow d) (a : Addr) (h : Own (ρ.set i s) (σ.set i w) a) : Own ρ σ a := by
  obtain ⟨j, d, h1, h2⟩ := h
  rcases get_set h1 with ⟨_, e, _⟩ | ⟨n, h1⟩
  · exact absurd e.symm (hs d)
  · rcases get_set h2 with ⟨e, _⟩ | ⟨_, h2⟩
    · exact absurd e n
    · exact ⟨j, d, h1, h2⟩
theorem set_same {s : S} {w : Option V} {B : Addr → Prop} (hs : ∀ d, s ≠ .ow d) : Same (pubH B ρ σ H) (pubH B (ρ.set i s) (σ.set i w) H) := hideP_same (Same.refl H) fun a o _ h => h.elim .inl fun h => .inr (set_own hs a h)
theorem RS.set (r : RS T K F ρ σ H) {s : S} {w : Option V} (hs : ∀ d, s ≠ .ow d) (hp : ∀ d, s = .pu d → ∃ v, w = some v ∧ Rep T K (pubH F.B (ρ.set i s) (σ.set i w) H) v d)
    (hb : ∀ d, s = .bo d → ∃ v, w = some v ∧ RepB T K (fun a => F.B a ∧ F.H0 a ≠ none) (pubH F.B (ρ.set i s) (σ.set i w) H) H v d) : RS T K F (ρ.set i s) (σ.set i w) H := by
  have g : Same (pubH F.B ρ σ H) (pubH F.B (ρ.set i s) (σ.set i w) H) := set_same hs
  refine ⟨r.same, by rw [List.length_set, List.length_set]; exact r.len, r.alloc, fun j d h => ?_, fun j l d e a h1 h2 h3 h4 => ?_, fun j d h => ?_, fun j d h => ?_⟩
  · rcases get_set h with ⟨_, e, _⟩ | ⟨n, h⟩
    · exact absurd e.symm (hs d)
    · obtain ⟨a, h1, h2, h3, h4⟩ := r.own j d h
      exact ⟨a, by rw [List.getElem?_set_ne (Ne.symm n)]; exact h1, h2, h3, h4.mono g fun o e => e⟩
  · rcases get_set h1 with ⟨_, e, _⟩ | ⟨n1, h1⟩
    · exact absurd e.symm (hs d)
    · rcases get_set h2 with ⟨_, e', _⟩ | ⟨n2, h2⟩
      · exact absurd e'.symm (hs e)
      · rw [List.getElem?_set_ne (Ne.symm n1)] at h3
        rw [List.getElem?_set_ne (Ne.symm n2)] at h4
        exact r.inj j l d e a h1 h2 h3 h4
  · rcases get_set h with ⟨e, e2, hl⟩ | ⟨n, h⟩
    · obtain ⟨v, e3, h3⟩ := hp d e2.symm
      refine ⟨v, ?_, h3⟩
      rw [e, List.getElem?_set_self (by rw [← r.len]; exact hl), e3]
    · obtain ⟨v, h1, h2⟩ := r.pub j d h
      exact ⟨v, by rw [List.getElem?_set_ne (Ne.symm n)]; exact h1, h2.mono g⟩
  · rcases get_set h with ⟨e, e2, hl⟩ | ⟨n, h⟩
    · obtain ⟨v, e3, h3⟩ := hb d e2.symm
      refine ⟨v, ?_, h3⟩
      rw [e, List.getElem?_set_self (by rw [← r.len]; exact hl), e3]
    · obtain ⟨v, h1, h2⟩ := r.bor j d h
      exact ⟨v, by rw [List.getElem?_set_ne (Ne.symm n)]; exact h1, h2.mono g (fun _ _ _ e => e) fun _ h => h⟩
theorem RS.setPub (r : RS T K F ρ σ H) (h : Rep T K (pubH F.B ρ σ H) v d) : RS T K F (ρ.set i (.pu d)) (σ.set i (some v)) H :=
  r.set (s := .pu d) (w := some v) (fun _ z => by cases z) (fun d' e => by cases e; exact ⟨v, rfl, h.mono (set_same fun _ z => by cases z)⟩) fun _ z => by cases z
theorem RS.setUn (r : RS T K F ρ σ H) {w : Option V} : RS T K F (ρ.set i .un) (σ.set i w) H :=
  r.set (s := .un) (fun _ z => by cases z) (fun _ z => by cases z) fun _ z => by cases z
theorem Keep.set {s : S} {w : Option V} (hs : ∀ d, s ≠ .ow d) : Keep F ρ σ H (ρ.set i s) (σ.set i w) H := ⟨set_same hs, fun _ _ => rfl⟩
/-- a slot gets a fresh object, for the frame alone -/
theorem RS.setOwn (r : RS T K F ρ σ H) (s : Same H H') (h : Post T K .frs F ρ σ v d H') : RS T K F (ρ.set i (.ow d)) (σ.set i (some v)) H' := by
  obtain ⟨p, rfl, h0, n, r2, w⟩ := h
  have own : ∀ a, Own (ρ.set i (.ow d)) (σ.set i (some (.ref p))) a → Own ρ σ a ∨ a = p := fun a ⟨j, d', h1, h2⟩ => by
    rcases get_set h2 with ⟨_, e, _⟩ | ⟨nj, h2⟩
    · cases e; exact .inr rfl
    · rcases get_set h1 with ⟨e, _⟩ | ⟨_, h1⟩
      · exact absurd e nj
      · exact .inl ⟨j, d', h1, h2⟩
  have g : Same (pubH (fun a => F.B a ∨ a = p) ρ σ H') (pubH F.B (ρ.set i (.ow d)) (σ.set i (some (.ref p))) H') := hideP_same (Same.refl H') fun a o _ hh => by
    rcases hh with hh | hh
    · exact .inl (.inl hh)
    · rcases own a hh with hh | hh
      · exact .inr hh
      · exact .inl (.inr hh)
  refine ⟨r2.same, by rw [List.length_set, List.length_set]; exact r.len, fun b hb => r2.alloc b (.inl hb), fun j d' h => ?_, fun j l d' e a h1 h2 h3 h4 => ?_, fun j d' h => ?_, fun j d' h => ?_⟩
  · rcases get_set h with ⟨e, e2, hl⟩ | ⟨nj, h⟩
    · cases e2
      subst e
      exact ⟨p, by rw [List.getElem?_set_self (by rw [← r.len]; exact hl)], h0, fun z => n (.inl z), w.mono g fun o e => e⟩
    · obtain ⟨a, h1, h2, h3, h4⟩ := r2.own j d' h
      exact ⟨a, by rw [List.getElem?_set_ne (Ne.symm nj)]; exact h1, h2, fun z => h3 (.inl z), h4.mono g fun o e => e⟩
  · have old : ∀ {j d' a}, j ≠ i → (ρ.set i (S.ow d))[j]? = some (.ow d') → (σ.set i (some (V.ref p)))[j]? = some (some (V.ref a)) → ρ[j]? = some (.ow d') ∧ σ[j]? = some (some (V.ref a)) := fun {j d' a} nj h1 h2 => by
      rw [List.getElem?_set_ne (Ne.symm nj)] at h1 h2
      exact ⟨h1, h2⟩
    by_cases hj : j = i
    · by_cases hl : l = i
      · rw [hj, hl]
      · obtain ⟨q1, q2⟩ := old hl h2 h4
        exfalso
        rw [hj] at h3
        rcases get_set h3 with ⟨_, e3, _⟩ | ⟨nn, _⟩
        · cases e3
          exact n (.inr ⟨l, _, q1, q2⟩)
        · exact nn rfl
    · obtain ⟨q1, q2⟩ := old hj h1 h3
      by_cases hl : l = i
      · exfalso
        rw [hl] at h4
        rcases get_set h4 with ⟨_, e3, _⟩ | ⟨nn, _⟩
        · cases e3
          exact n (.inr ⟨j, _, q1, q2⟩)
        · exact nn rfl
      · obtain ⟨q3, q4⟩ := old hl h2 h4
        exact r2.inj j l d' e a q1 q3 q2 q4
  · rcases get_set h with ⟨_, e, _⟩ | ⟨nj, h⟩
    · cases e
    · obtain ⟨v, h1, h2⟩ := r2.pub j d' h
      exact ⟨v, by rw [List.getElem?_set_ne (Ne.symm nj)]; exact h1, h2.mono g⟩
  · rcases get_set h with ⟨_, e, _⟩ | ⟨nj, h⟩
    · cases e
    · obtain ⟨v, h1, h2⟩ := (r2.unhide n).bor j d' h
      refine ⟨v, by rw [List.getElem?_set_ne (Ne.symm nj)]; exact h1, ?_⟩
      obtain ⟨v', h1', h2'⟩ := r2.bor j d' h
      rw [h1] at h1'
      cases h1'
      rcases h2' with h2' | ⟨a, rfl, hb, h2'⟩
      · exact .inl (h2'.mono g)
      · obtain ⟨hb, hn⟩ := hb
        rcases hb with hb | hb
        · exact .inr ⟨a, rfl, ⟨hb, hn⟩, h2'.mono g fun o e => e⟩
        · -- a = p: it was not there at the entry
          subst hb
          exact absurd h0 hn
end
end DL

namespace DL
open PySem PySem.Spec L2
open PyProof.Rows hiding St

/-! ### all that the frame owns, seen as borrowed -/
def bS : S → S
  | .ow d => .bo d
  | s => s
def bAll (ρ : List S) : List S := ρ.map bS
def wipeS (ρ : List S) : List Nat → List S
  | [] => ρ
  | i :: is => (wipeS ρ is).set i .un
section
variable {T : Tbl} {K : PySem.W.Frag} {F : Fm} {ρ : List S} {σ : L2.St} {H H' H1 : Hp} {v : V} {d : D} {i : Nat}
theorem bAll_get {s : S} (h : (bAll ρ)[i]? = some s) : ∃ t, ρ[i]? = some t ∧ s = bS t := by
  unfold bAll at h
  rw [List.getElem?_map, Option.map_eq_some_iff] at h
  obtain ⟨t, h1, h2⟩ := h
  exact ⟨t, h1, h2.symm⟩
theorem bAll_own (a : Addr) : ¬ Own (bAll ρ) σ a := fun ⟨i, d, h1, _⟩ => by
  obtain ⟨t, _, e⟩ := bAll_get h1
  cases t <;> cases e
theorem RS.borrow (r : RS T K F ρ σ H) : RS T K ⟨Hid F.B ρ σ, H⟩ (bAll ρ) σ H := by
  have g : Same (pubH F.B ρ σ H) (pubH (Hid F.B ρ σ) (bAll ρ) σ H) := hideP_same (Same.refl H) fun a o _ h => h.elim id fun h => absurd h (bAll_own a)
  refine ⟨Same.refl H, by unfold bAll; rw [List.length_map]; exact r.len, fun b hb => r.hid hb, fun i d h => ?_, fun i j d e a h => ?_, fun i d h => ?_, fun i d h => ?_⟩
  · obtain ⟨t, _, e⟩ := bAll_get h
    cases t <;> cases e
  · obtain ⟨t, _, e⟩ := bAll_get h
    cases t <;> cases e
  · obtain ⟨t, h1, e⟩ := bAll_get h
    cases t with
    | pu d' =>
      cases e
      obtain ⟨v, h1, h2⟩ := r.pub i d h1
      exact ⟨v, h1, h2.mono g⟩
    | _ => cases e
  · obtain ⟨t, h1, e⟩ := bAll_get h
    cases t with
    | ow d' =>
      cases e
      obtain ⟨a, h2, h3, h4, h5⟩ := r.own i d h1
      obtain ⟨o, ho⟩ := h5.there
      exact ⟨.ref a, h2, .inr ⟨a, rfl, ⟨.inr ⟨i, d, h1, h2⟩, fun z => by have z : H a = none := z; rw [ho] at z; cases z⟩, h5.mono g fun o e => e⟩⟩
    | bo d' =>
      cases e
      obtain ⟨v, h1, h2⟩ := r.bor i d h1
      exact ⟨v, h1, h2.mono g (fun _ _ _ e => e) fun a hb => ⟨.inl hb.1, fun z => r.alloc a hb.1 z⟩⟩
    | _ => cases e
theorem RS.wipe (r : RS T K F ρ σ H) : ∀ is : List Nat, RS T K F (wipeS ρ is) (L2.wipe σ is) H
  | [] => r
  | i :: is => (r.wipe is).setUn
/-- public with respect to the borrowed frame: public -/
theorem borrow_same {p : Addr} : Same (pubH (fun a => Hid F.B ρ σ a ∨ a = p) (bAll ρ) σ H) (pubH (fun a => F.B a ∨ a = p) ρ σ H) := hideP_same (Same.refl H) fun a o _ h => by
  rcases h with (h | h) | h
  · exact .inl (.inl (.inl h))
  · exact .inl (.inr h)
  · exact .inl (.inl (.inr h))
end

/-! ### what is walked -/
/-- J yields the items ds, one after the other, at heaps that keep what was public at H1 and what was hidden -/
def ItOk (T : Tbl) (K : PySem.W.Frag) (B : Addr → Prop) (G H1 : Hp) (J : It) (ds : List D) : Prop :=
  ∀ (H' : Hp) (P : Addr → Prop), Same G (hideP H' P) → (∀ b, B b → H' b = H1 b) → (∀ b, P b → H' b ≠ none) → ∀ i : Nat,
    (i < ds.length → J.go i H') ∧ (ds.length ≤ i → J.stop i H') ∧ ∀ x H'' d, ds[i]? = some d → J.yld i H' x H'' → Same H' H'' ∧ Rep T K (hideP H'' P) x d
def tDI (T : Tbl) (K : PySem.W.Frag) (W : WX) (f : List S → R (List D)) : TI := fun σ H Q => ∃ F ρ, RS T K F ρ σ H ∧ Res T K W F ρ σ H (f ρ) fun ds => ∀ J H', Same H H' → RS T K F ρ σ H' → ItOk T K F.B (pubH F.B ρ σ H') H' J ds → Q J H'
structure DI (T : Tbl) (W : WX) (X : Cx) (tg e : Expr) (f : List S → R (List D)) : Prop where
  run : PI X tg e (tDI T X.K W f)
theorem PI.imp {X : Cx} {tg e : Expr} {t t' : TI} (h : PI X tg e t) (i : ∀ σ H Q, t' σ H Q → t σ H Q) : PI X tg e t' := ⟨fun pins s σ H Q I q => h.run pins s σ H Q I (i σ H Q q)⟩
section
variable {T : Tbl} {W : WX} {X : Cx} {tg e a b c : Expr} {f fa fb : List S → R D} {m : Md} {pos p tpos : Pos}
def iLst (f : List S → R D) (ρ : List S) : R (List D) := (f ρ).bind fun d => match d with
  | .lst ds => .ok ds
  | .scr ns => .ok (ns.map .int)
  | _ => .no
def iTupD (f : List S → R D) (ρ : List S) : R (List D) := (f ρ).bind fun d => match d with
  | .tup ds => .ok ds
  | _ => .no
theorem itl_ok {K : PySem.W.Frag} {B : Addr → Prop} {G H1 : Hp} {a : Addr} {vs : List V} {ds : List D} (r : Reps T K G vs ds) (h : ∀ (H' : Hp) (P : Addr → Prop), Same G (hideP H' P) → (∀ b, B b → H' b = H1 b) → H' a = some (.lst vs)) : ItOk T K B G H1 (Itl K a) ds := by
  intro H' P s hb _ i
  have hl := h H' P s hb
  refine ⟨fun hi => ?_, fun hi => ⟨vs, SqL.of hl, by rw [r.length]; exact hi⟩, fun x H'' d hd ⟨e, hy⟩ => ?_⟩
  · obtain ⟨v, hv, _⟩ := r.get (List.getElem?_eq_getElem hi)
    exact ⟨vs, v, SqL.of hl, hv⟩
  · subst e
    obtain ⟨v, hv, rv⟩ := r.get hd
    have e : x = v := Option.some.inj ((hy vs (SqL.of hl)).symm.trans hv)
    subst e
    exact ⟨Same.refl _, rv.mono s⟩
theorem di_list (he : DE T W .bor X e f) : DI T W X tg e (iLst f) := by
  refine ⟨PI.imp (pi_list he.run) fun σ H Q ⟨F, ρ, rs, q⟩ => ⟨F, ρ, rs, q.bind.imp fun d q1 v H1 s1 p1 => ?_⟩⟩
  match d, q1 with
  | .lst ds, q1 =>
    obtain ⟨r1, p1⟩ := p1
    rcases p1 with p1 | ⟨a, rfl, hb, vs, h, r⟩
    · cases p1 with
      | lst h r => exact ⟨_, rfl, ⟨_, SqL.of (pub_at h)⟩, q1 _ H1 s1 r1 (itl_ok r fun H' P s _ => (hideP_some (s _ _ h)).1)⟩
    · exact ⟨a, rfl, ⟨vs, SqL.of h⟩, q1 _ H1 s1 r1 (itl_ok r fun H' P s k => (k a hb).trans h)⟩
  | .scr ns, q1 =>
    obtain ⟨a, rfl, h⟩ := (Post.any_of_bor p1).scr
    obtain ⟨r1, p1⟩ := p1
    have hG : SqL X.K (pubH F.B ρ σ H1) a (ns.map V.int) := by
      rcases p1 with p1 | ⟨_, _, _, z⟩
      · cases p1 with | scr z => exact z
      · exact False.elim z
    refine ⟨a, rfl, ⟨_, h⟩, q1 _ H1 s1 r1 fun H' P s _ _ i => ?_⟩
    have hl : SqL X.K H' a (ns.map V.int) := Same.seq (fun b o z => (hideP_some z).1) (s.seq hG)
    refine ⟨fun hi => ?_, fun hi => ⟨_, hl, by rw [List.length_map] at hi ⊢; exact hi⟩, fun x H'' d hd ⟨e, hy⟩ => ?_⟩
    · rw [List.length_map] at hi
      exact ⟨_, .int ns[i], hl, by rw [List.getElem?_map, List.getElem?_eq_getElem hi]; rfl⟩
    · subst e
      refine ⟨Same.refl _, ?_⟩
      rw [List.getElem?_map, Option.map_eq_some_iff] at hd
      obtain ⟨n, hn, rfl⟩ := hd
      have e := hy _ hl
      rw [List.getElem?_map, hn] at e
      cases e
      exact .int n
theorem di_tup (he : DE T W .pub X e f) : DI T W X tg e (iTupD f) := by
  refine ⟨PI.imp (pi_tup he.run) fun σ H Q ⟨F, ρ, rs, q⟩ => ⟨F, ρ, rs, q.bind.imp fun d q1 v H1 s1 p1 => ?_⟩⟩
  match d, q1 with
  | .tup ds, q1 =>
    obtain ⟨r1, p1⟩ := p1
    cases p1 with
    | @tup a vs _ h r =>
      refine ⟨_, rfl, ⟨_, SqT.of (pub_at h)⟩, q1 _ H1 s1 r1 fun H' P s _ _ i => ?_⟩
      have hl : SqT X.K H' a vs := SqT.of (hideP_some (s _ _ h)).1
      refine ⟨fun hi => ?_, fun hi => ⟨vs, hl, by rw [r.length]; exact hi⟩, fun x H'' d hd ⟨e, hy⟩ => ?_⟩
      · obtain ⟨v, hv, _⟩ := r.get (List.getElem?_eq_getElem hi)
        exact ⟨vs, v, hl, hv⟩
      · subst e
        obtain ⟨v, hv, rv⟩ := r.get hd
        have e : x = v := Option.some.inj ((hy vs hl).symm.trans hv)
        subst e
        exact ⟨Same.refl _, rv.mono s⟩
/-- ranges -/
def rgL (lo : Int) (n : Nat) : List D := (List.range n).map fun (k : Nat) => D.int (lo + (k : Int))
theorem itr_ok {K : PySem.W.Frag} {B : Addr → Prop} {G H1 : Hp} {lo : Int} {n : Nat} : ItOk T K B G H1 (Itr lo n) (rgL lo n) := by
  intro H' P s hb _ i
  have hlen : (rgL lo n).length = n := by unfold rgL; rw [List.length_map, List.length_range]
  refine ⟨fun hi => by rw [hlen] at hi; exact hi, fun hi => by rw [hlen] at hi; exact hi, fun x H'' d hd ⟨e, hy⟩ => ?_⟩
  subst e
  subst hy
  unfold rgL at hd
  rw [List.getElem?_map, Option.map_eq_some_iff] at hd
  obtain ⟨k, hk, rfl⟩ := hd
  have hi : i < n := by
    have := (List.getElem?_eq_some_iff.mp hk).1
    rwa [List.length_range] at this
  rw [List.getElem?_range hi] at hk
  cases hk
  exact ⟨Same.refl _, .int _⟩
def rOk (i : Int) : Bool := decide (-(2 ^ 62) ≤ i) && decide (i < 2 ^ 62)
theorem rOk_some {i : Int} (h : rOk i = true) : -(2 ^ 62) ≤ i ∧ i < 2 ^ 62 := by
  unfold rOk at h
  rw [Bool.and_eq_true, decide_eq_true_eq, decide_eq_true_eq] at h
  exact h
def oRg1 : D → Option (List D)
  | .int j => if rOk j = true then some (rgL 0 j.toNat) else none
  | _ => none
def oRg2 : D → D → Option (List D)
  | .int i, .int j => if (rOk i && rOk j) = true then some (rgL i (j - i).toNat) else none
  | _, _ => none
def iRg1 (f : List S → R D) (ρ : List S) : R (List D) := (f ρ).bind fun d => ofO (oRg1 d)
def iRg2 (fa fb : List S → R D) (ρ : List S) : R (List D) := (fa ρ).bind fun d => (fb ρ).bind fun d' => ofO (oRg2 d d')
theorem di_range1 (hg : Gl X "range") (hm : X.mg "range" = none) (ha : DE T W m X a fa) (hs : starEach [a] X.env = [(false, eval a X.env)] := by rfl) : DI T W X tg (.Call (.Name "range" p) [a] [] pos) (iRg1 fa) := by
  refine ⟨PI.imp (pi_range1 hg hm (pa_cons ha.any.run pa_nil hs) hs) fun σ H Q ⟨F, ρ, rs, q⟩ => ⟨F, ρ, rs, q.bind.imp fun d q1 v H1 s1 p1 => ?_⟩⟩
  obtain ⟨ds, hd, k⟩ := q1.ofO
  match d, hd with
  | .int j, hd =>
    rw [oRg1] at hd
    split at hd
    · cases hd
      rw [p1.int]
      obtain ⟨h1, h2⟩ := rOk_some (by assumption : rOk j = true)
      exact ⟨j, rfl, h1, h2, k _ H1 s1 p1.1 itr_ok⟩
    · cases hd
theorem di_range2 (hg : Gl X "range") (hm : X.mg "range" = none) (ha : DE T W m X a fa) {m2 : Md} (hb : DE T W m2 X b fb) (hs : starEach [a, b] X.env = [(false, eval a X.env), (false, eval b X.env)] := by rfl) (hs2 : starEach [b] X.env = [(false, eval b X.env)] := by rfl) :
    DI T W X tg (.Call (.Name "range" p) [a, b] [] pos) (iRg2 fa fb) := by
  refine ⟨PI.imp (pi_range2 hg hm (pa_cons ha.any.run (pa_cons hb.any.run pa_nil hs2) (by rw [hs, hs2])) hs hs2) fun σ H Q ⟨F, ρ, rs, q⟩ => ⟨F, ρ, rs, q.bind.imp fun d q1 v H1 s1 p1 => ⟨F, ρ, p1.rs, (Res.grow q1.bind s1).imp fun d2 q2 v2 H2 s2 p2 => ?_⟩⟩⟩
  obtain ⟨ds, hd, k⟩ := q2.ofO
  match d, d2, hd with
  | .int i, .int j, hd =>
    rw [oRg2] at hd
    split at hd
    · rename_i hc
      cases hd
      rw [Bool.and_eq_true] at hc
      rw [p1.int, p2.int]
      obtain ⟨h1, h2⟩ := rOk_some hc.1
      obtain ⟨h3, h4⟩ := rOk_some hc.2
      exact ⟨i, j, rfl, ⟨h1, h2, h3, h4⟩, k _ H2 (s1.trans s2) p2.1 itr_ok⟩
    · cases hd
/-- enumerate(list) -/
def enumD : Nat → List D → List D
  | _, [] => []
  | k, d :: ds => .tup [.int (k : Int), d] :: enumD (k + 1) ds
theorem enumD_get : ∀ (ds : List D) (k i : Nat), (enumD k ds)[i]? = (ds[i]?).map fun d => .tup [.int ((k + i : Nat) : Int), d]
  | [], _, _ => by simp [enumD]
  | d :: ds, k, 0 => by simp [enumD]
  | d :: ds, k, i + 1 => by
    rw [enumD, List.getElem?_cons_succ, List.getElem?_cons_succ, enumD_get ds (k + 1) i]
    congr 1
    funext z
    rw [show k + 1 + i = k + (i + 1) by omega]
theorem enumD_length : ∀ (ds : List D) (k : Nat), (enumD k ds).length = ds.length
  | [], _ => rfl
  | d :: ds, k => congrArg (· + 1) (enumD_length ds (k + 1))
def iEnumD (f : List S → R D) (ρ : List S) : R (List D) := (f ρ).bind fun d => match d with
  | .lst ds => .ok (enumD 0 ds)
  | _ => .no
theorem di_enum {elts : List Expr} {kk : Nat} (hg : Gl X "enumerate") (hm : X.mg "enumerate" = none) (he : DE T W .bor X e f) (hs : starEach [e] X.env = [(false, eval e X.env)] := by rfl) :
    DI T W X (.Tuple elts kk tpos) (.Call (.Name "enumerate" p) [e] [] pos) (iEnumD f) := by
  refine ⟨PI.imp (pi_enum hg hm (pa_cons he.run pa_nil hs) hs) fun σ H Q ⟨F, ρ, rs, q⟩ => ⟨F, ρ, rs, q.bind.imp fun d q1 v H1 s1 p1 => ?_⟩⟩
  match d, q1 with
  | .lst ds, q1 =>
    have go : ∀ (a : Addr) (vs : List V), Reps T X.K (pubH F.B ρ σ H1) vs ds → (∀ (H' : Hp) (P : Addr → Prop), Same (pubH F.B ρ σ H1) (hideP H' P) → (∀ b, F.B b → H' b = H1 b) → H' a = some (.lst vs)) → ItOk T X.K F.B (pubH F.B ρ σ H1) H1 (Ite X.K a) (enumD 0 ds) := by
      intro a vs r h H' P s hb hP i
      have hl := h H' P s hb
      rw [enumD_length]
      refine ⟨fun hi => ?_, fun hi => ⟨vs, SqL.of hl, by rw [r.length]; exact hi⟩, fun x H'' d hd ⟨t, y, e, hn, e2, hy⟩ => ?_⟩
      · obtain ⟨v, hv, _⟩ := r.get (List.getElem?_eq_getElem hi)
        exact ⟨vs, v, SqL.of hl, hv⟩
      · subst e
        subst e2
        rw [enumD_get, Option.map_eq_some_iff] at hd
        obtain ⟨z, hz, rfl⟩ := hd
        obtain ⟨v, hv, rv⟩ := r.get hz
        have e : y = v := Option.some.inj ((hy vs (SqL.of hl)).symm.trans hv)
        subst e
        have st := upd_new_same (o := HO.tup [V.int (i : Nat), y]) hn
        refine ⟨st, .tup (hideP_of upd_same fun z => hP t z hn) (.cons ?_ (.one (rv.mono (s.trans (hideP_same st fun _ _ _ h => h)))))⟩
        rw [Nat.zero_add]
        exact .int _
    obtain ⟨r1, p1⟩ := p1
    rcases p1 with p1 | ⟨a, rfl, hb, vs, h, r⟩
    · cases p1 with
      | lst h r => exact ⟨_, _, rfl, SqL.of (pub_at h), q1 _ H1 s1 r1 (go _ _ r fun H' P s _ => (hideP_some (s _ _ h)).1)⟩
    · exact ⟨a, vs, rfl, SqL.of h, q1 _ H1 s1 r1 (go _ _ r fun H' P s k => (k a hb).trans h)⟩
end

/-! ### targets -/
def tDG (T : Tbl) (K : PySem.W.Frag) (is : List Nat) (g : D → List S → Option (List S)) : TG := fun v σ H Q => ∃ F ρ d ρ', RS T K F ρ σ H ∧ Rep T K (pubH F.B ρ σ H) v d ∧ g d ρ = some ρ' ∧
  ∀ σ', RS T K F ρ' σ' H → Keep F ρ σ H ρ' σ' H → L2.wipe σ' is = L2.wipe σ is → Q σ' H
structure DG (T : Tbl) (X : Cx) (is : List Nat) (tg : Expr) (g : D → List S → Option (List S)) : Prop where
  run : PG X tg (tDG T X.K is g)
theorem PG.imp {X : Cx} {tg : Expr} {t t' : TG} (h : PG X tg t) (i : ∀ v σ H Q, t' v σ H Q → t v σ H Q) : PG X tg t' := ⟨fun pins s σ H v u Q I r q => h.run pins s σ H v u Q I r (i v σ H Q q)⟩
def gN (i : Nat) (d : D) (ρ : List S) : Option (List S) := some (ρ.set i (.pu d))
def gNs : List Nat → List D → List S → Option (List S)
  | [], [], ρ => some ρ
  | i :: is, d :: ds, ρ => gNs is ds (ρ.set i (.pu d))
  | _, _, _ => none
def gT (is : List Nat) (d : D) (ρ : List S) : Option (List S) := match d with
  | .tup ds => gNs is ds ρ
  | _ => none
def gL (is : List Nat) (d : D) (ρ : List S) : Option (List S) := match d with
  | .lst ds => gNs is ds ρ
  | _ => none
section
variable {T : Tbl} {W : WX} {X : Cx} {tg : Expr} {pos : Pos} {i : Nat} {is : List Nat}
theorem dg_name (h : PG X tg (L2.gName i)) : DG T X [i] tg (gN i) := by
  refine ⟨PG.imp h fun v σ H Q ⟨F, ρ, d, ρ', rs, r, e, q⟩ => ?_⟩
  cases e
  refine q _ (rs.setPub r) (Keep.set fun _ z => by cases z) ?_
  show (σ.set i (some v)).set i none = σ.set i none
  rw [List.set_set]
theorem wipe_set (σ : L2.St) (i : Nat) (w : Option V) : ∀ is : List Nat, i ∈ is → L2.wipe (σ.set i w) is = L2.wipe σ is
  | [], h => nomatch h
  | j :: is, h => by
    by_cases hj : i = j
    · subst hj
      by_cases hm : i ∈ is
      · show (L2.wipe (σ.set i w) is).set i none = _
        rw [wipe_set σ i w is hm]
        rfl
      · show (L2.wipe (σ.set i w) is).set i none = (L2.wipe σ is).set i none
        have : ∀ is : List Nat, i ∉ is → L2.wipe (σ.set i w) is = (L2.wipe σ is).set i w := fun is => by
          induction is with
          | nil => intro _; rfl
          | cons k is ih =>
            intro hn
            show (L2.wipe (σ.set i w) is).set k none = ((L2.wipe σ is).set k none).set i w
            rw [ih fun z => hn (List.mem_cons_of_mem _ z)]
            exact List.set_comm _ _ fun z => hn (by rw [z]; exact List.mem_cons_self ..)
        rw [this is hm, List.set_set]
    · rcases List.mem_cons.mp h with h | h
      · exact absurd h hj
      · show (L2.wipe (σ.set i w) is).set j none = (L2.wipe σ is).set j none
        rw [wipe_set σ i w is h]
theorem wipe_wipe (σ : L2.St) (is : List Nat) : ∀ js : List Nat, (∀ j ∈ js, j ∈ is) → L2.wipe (L2.wipe σ js) is = L2.wipe σ is
  | [], _ => rfl
  | j :: js, h => by
    show L2.wipe ((L2.wipe σ js).set j none) is = _
    rw [wipe_set _ j none is (h j (List.mem_cons_self ..))]
    exact wipe_wipe σ is js fun k hk => h k (List.mem_cons_of_mem _ hk)
/-- names in a row -/
inductive GsN (X : Cx) : List Nat → List Expr → Prop
  | nil : GsN X [] []
  | cons {i : Nat} {is : List Nat} {e : Expr} {es : List Expr} : PG X e (L2.gName i) → GsN X is es → (assignEach (e :: es) X.env).map (·.2) = assign e X.env :: (assignEach es X.env).map (·.2) → GsN X (i :: is) (e :: es)
def tNs : List Nat → TGs
  | [] => gNil
  | i :: is => gCons (gName i) (tNs is)
theorem GsN.pgs : ∀ {is : List Nat} {es : List Expr}, GsN X is es → PGs X es (tNs is)
  | _, _, .nil => pgs_nil
  | _, _, .cons h r e => pgs_cons h r.pgs e
theorem gs_ok {K : PySem.W.Frag} {F : Fm} {H : Hp} {Q : L2.St → Hp → Prop} {js : List Nat} {σ0 : L2.St} {ρ0 : List S} : ∀ {is : List Nat} {vs : List V} {ds : List D} {ρ ρ' : List S} {σ : L2.St}, (∀ i ∈ is, i ∈ js) → RS T K F ρ σ H → Keep F ρ0 σ0 H ρ σ H → L2.wipe σ js = L2.wipe σ0 js → Reps T K (pubH F.B ρ σ H) vs ds → gNs is ds ρ = some ρ' →
    (∀ σ', RS T K F ρ' σ' H → Keep F ρ0 σ0 H ρ' σ' H → L2.wipe σ' js = L2.wipe σ0 js → Q σ' H) → tNs is vs σ H Q
  | [], _, _, ρ, ρ', σ, _, rs, kp, wp, .nil, e, q => by
    cases e
    exact ⟨rfl, q σ rs kp wp⟩
  | i :: is, _, _, ρ, ρ', σ, hj, rs, kp, wp, .cons (v := v) (d := d) a b, e, q => by
    refine ⟨v, _, rfl, gs_ok (is := is) (fun k hk => hj k (List.mem_cons_of_mem _ hk)) (rs.setPub a) (kp.trans (Keep.set fun _ z => by cases z)) ?_ (b.mono (set_same fun _ z => by cases z)) e q⟩
    rw [wipe_set σ i _ js (hj i (List.mem_cons_self ..))]
    exact wp
  | [], _, _, _, _, _, _, _, _, _, .cons _ _, e, _ => by cases e
  | _ :: _, _, _, _, _, _, _, _, _, _, .nil, e, _ => by cases e
theorem dg_tup {es : List Expr} {k : Nat} (hc : X.calm = true) (h : GsN X is es) (hn : (assignEach es X.env).length = is.length := by rfl) (hst : (assignEach es X.env).findIdx? (·.1) = none := by rfl) : DG T X is (.Tuple es k pos) (gT is) := by
  refine ⟨PG.imp (pg_tup hc h.pgs hn hst) fun v σ H Q ⟨F, ρ, d, ρ', rs, r, e, q⟩ => ?_⟩
  match d, e with
  | .tup ds, e =>
    cases r with
    | @tup a vs _ h r =>
      have hl : ∀ (is : List Nat) (ds : List D) (ρ ρ' : List S), gNs is ds ρ = some ρ' → ds.length = is.length := fun is => by
        induction is with
        | nil => intro ds ρ ρ' e; cases ds with | nil => rfl | cons _ _ => cases e
        | cons i is ih => intro ds ρ ρ' e; cases ds with | nil => cases e | cons d ds => exact congrArg (· + 1) (ih ds _ _ e)
      exact ⟨a, vs, rfl, SqT.of (pub_at h), by rw [r.length]; exact hl is ds _ _ e, gs_ok (fun i hi => hi) rs (Keep.refl ..) rfl r e q⟩
theorem dg_lst {es : List Expr} {k : Nat} (hc : X.calm = true) (h : GsN X is es) (hn : (assignEach es X.env).length = is.length := by rfl) (hst : (assignEach es X.env).findIdx? (·.1) = none := by rfl) : DG T X is (.Tuple es k pos) (gL is) := by
  refine ⟨PG.imp (pg_lst hc h.pgs hn hst) fun v σ H Q ⟨F, ρ, d, ρ', rs, r, e, q⟩ => ?_⟩
  match d, e with
  | .lst ds, e =>
    cases r with
    | @lst a vs _ h r =>
      have hl : ∀ (is : List Nat) (ds : List D) (ρ ρ' : List S), gNs is ds ρ = some ρ' → ds.length = is.length := fun is => by
        induction is with
        | nil => intro ds ρ ρ' e; cases ds with | nil => rfl | cons _ _ => cases e
        | cons i is ih => intro ds ρ ρ' e; cases ds with | nil => cases e | cons d ds => exact congrArg (· + 1) (ih ds _ _ e)
      exact ⟨a, vs, rfl, SqL.of (pub_at h), by rw [r.length]; exact hl is ds _ _ e, gs_ok (fun i hi => hi) rs (Keep.refl ..) rfl r e q⟩
end

/-- a list or a tuple, unpacked -/
def gS (is : List Nat) (d : D) (ρ : List S) : Option (List S) := match d with
  | .tup ds => gNs is ds ρ
  | .lst ds => gNs is ds ρ
  | _ => none
theorem dg_seq {T : Tbl} {X : Cx} {is : List Nat} {pos : Pos} {es : List Expr} {k : Nat} (hc : X.calm = true) (h : GsN X is es) (hn : (assignEach es X.env).length = is.length := by rfl) (hst : (assignEach es X.env).findIdx? (·.1) = none := by rfl) : DG T X is (.Tuple es k pos) (gS is) := by
  have h1 : DG T X is (.Tuple es k pos) (gT is) := dg_tup hc h hn hst
  have h2 : DG T X is (.Tuple es k pos) (gL is) := dg_lst hc h hn hst
  refine ⟨⟨fun pins s σ H v u Q I r ⟨F, ρ, d, ρ', rs, rp, e, q⟩ => ?_⟩⟩
  cases d with
  | tup ds => exact h1.run.run pins s σ H v u Q I r ⟨F, ρ, .tup ds, ρ', rs, rp, e, q⟩
  | lst ds => exact h2.run.run pins s σ H v u Q I r ⟨F, ρ, .lst ds, ρ', rs, rp, e, q⟩
  | _ => cases e

/-! ### comprehensions -/
def noX {α : Type} : R α → R α
  | .ok a => .ok a
  | _ => .no
def oCons : Option D → List D → List D
  | some y, r => y :: r
  | none, r => r
def lcGo (f : D → R (Option D)) : List D → R (List D)
  | [] => .ok []
  | d :: ds => (f d).bind fun o => (lcGo f ds).bind fun r => .ok (oCons o r)
def lcStep (g : D → List S → Option (List S)) (ft : List S → R Bool) (fe : List S → R D) (ρ : List S) (d : D) : R (Option D) := match g d ρ with
  | none => .no
  | some ρ' => (noX (ft ρ')).bind fun b => if b = true then (noX (fe ρ')).bind fun y => .ok (some y) else .ok none
def dLc (fi : List S → R (List D)) (g : D → List S → Option (List S)) (ft : List S → R Bool) (fe : List S → R D) (is : List Nat) (ρ : List S) : R D := (noX (fi (bAll ρ))).bind fun ds => if ds.length ≤ LIM then (noX (lcGo (lcStep g ft fe (wipeS (bAll ρ) is)) ds)).bind fun r => .ok (.lst r) else .no
theorem noX_some {α : Type} {T : Tbl} {K : PySem.W.Frag} {W : WX} {F : Fm} {ρ : List S} {σ : L2.St} {H : Hp} {r : R α} {k : α → Prop} (h : Res T K W F ρ σ H (noX r) k) : ∃ a, r = .ok a ∧ k a := by
  cases r with
  | ok a => exact ⟨a, rfl, h⟩
  | exc c fs => exact False.elim h
  | no => exact False.elim h
theorem lcGo_ok {f : D → R (Option D)} {ds : List D} {r : List D} (h : lcGo f ds = .ok r) : ∃ os : List (Option D), os.length = ds.length ∧ r = os.filterMap id ∧ ∀ (i : Nat) (d : D), ds[i]? = some d → ∃ o, os[i]? = some o ∧ f d = .ok o := by
  induction ds generalizing r with
  | nil => cases h; exact ⟨[], rfl, rfl, fun i d e => by simp at e⟩
  | cons d ds ih =>
    rw [lcGo] at h
    cases hf : f d with
    | exc c fs => rw [hf] at h; cases h
    | no => rw [hf] at h; cases h
    | ok o =>
      rw [hf] at h
      cases hg : lcGo f ds with
      | exc c fs => rw [hg] at h; cases h
      | no => rw [hg] at h; cases h
      | ok r' =>
        rw [hg] at h
        obtain ⟨os, h1, h2, h3⟩ := ih hg
        have h : r = oCons o r' := by cases h; rfl
        refine ⟨o :: os, congrArg (· + 1) h1, ?_, fun i d' e => ?_⟩
        · rw [h, List.filterMap_cons]
          cases o with
          | none => exact h2
          | some y => rw [h2]; rfl
        · cases i with
          | zero => cases e; exact ⟨o, rfl, hf⟩
          | succ i => exact h3 i d' (by simpa using e)
section
variable {T : Tbl} {W : WX} {X : Cx} {elt tg iter : Expr} {ifs : List Expr} {scope : Scope} {own : List (Str × Nat)} {pos : Pos} {fi : List S → R (List D)} {g : D → List S → Option (List S)} {ft : List S → R Bool} {fe : List S → R D}
abbrev W0 : WX := fun _ _ _ _ => False
/-- a clause's tests -/
structure DTs (T : Tbl) (X : Cx) (ifs : List Expr) (f : List S → R Bool) : Prop where
  run : PTs X ifs (tDT T X.K W0 f)
def tYesD (_ : List S) : R Bool := .ok true
theorem dts_nil {X : Cx} : DTs T X [] tYesD := ⟨⟨fun pins s σ H Q I ⟨F, ρ, rs, q⟩ => pts_nil.run pins s σ H Q I (q H (Same.refl H) rs)⟩⟩
theorem dts_one {X : Cx} {c : Expr} {f : List S → R Bool} (h : DT T W0 X c f) : DTs T X [c] f := ⟨pts_one h.run⟩
theorem lc_read {K : PySem.W.Frag} {σ : L2.St} {H : Hp} {Q : VK} {is : List Nat} (h : tD T K W .frs (dLc fi g ft fe is) σ H Q) : tLc (tDI T K W0 fi) (tDG T K is g) (tDT T K W0 ft) (tD T K W0 .pub fe) is σ H Q := by
  obtain ⟨F, ρ, rs, q⟩ := h
  obtain ⟨ds, hfi, q⟩ := noX_some q.bind
  refine ⟨⟨Hid F.B ρ σ, H⟩, bAll ρ, rs.borrow, ?_⟩
  rw [hfi]
  intro J H1 s1 r1 it L hL
  split at q
  · rename_i hlim
    obtain ⟨r, hgo, q⟩ := noX_some q.bind
    obtain ⟨os, hlen, hr, hos⟩ := lcGo_ok hgo
    have rF : RS T K F ρ σ H1 := rs.grow s1
    have nH : H L = none := s1.free hL
    -- the turns
    refine ⟨fun i m H' => i ≤ ds.length ∧ m = ds.length - i ∧ Same H1 H' ∧ ∃ vs, H' L = some (.lst vs) ∧ Reps T K (hideP H' fun a => Hid F.B ρ σ a ∨ a = L) vs ((os.take i).filterMap id), ⟨ds.length, Nat.zero_le _, rfl, upd_new_same hL, [], upd_same, ?_⟩, ?_⟩
    · rw [List.take_zero]
      exact .nil
    · rintro i m H' ⟨hi, rfl, s', vs, hD, rv⟩
      have kb : ∀ b, Hid F.B ρ σ b → H' b = H1 b := fun b hb => by
        cases e : H1 b with
        | none => exact absurd e (rF.hid hb)
        | some o => exact s' b o e
      have rL : RS T K ⟨fun a => Hid F.B ρ σ a ∨ a = L, H⟩ (bAll ρ) σ H' := RS.hide2 (F := ⟨Hid F.B ρ σ, H⟩) r1 hL s' (by rw [hD]; exact fun z => nomatch z)
      obtain ⟨hgo', hstop, hyld⟩ := it H' (fun a => Hid F.B ρ σ a ∨ a = L) (hideP_same s' fun a o e h => by
          rcases h with h | h
          · exact .inl h
          · subst h; rw [hL] at e; cases e) kb (fun b hb => by
          rcases hb with hb | hb
          · rw [kb b hb]; exact rF.hid hb
          · rw [hb, hD]; exact fun z => nomatch z) i
      by_cases hlt : i < ds.length
      · refine .inr ⟨hgo' hlt, fun H2 => i + 1 ≤ ds.length ∧ Same H1 H2 ∧ ∃ vs, H2 L = some (.lst vs) ∧ Reps T K (hideP H2 fun a => Hid F.B ρ σ a ∨ a = L) vs ((os.take (i + 1)).filterMap id), fun H2 ⟨e1, e2, e3⟩ => ⟨ds.length - (i + 1), by omega, e1, rfl, e2, e3⟩, fun x H2 hy => ?_⟩
        obtain ⟨d, hd⟩ : ∃ d, ds[i]? = some d := ⟨ds[i], List.getElem?_eq_getElem hlt⟩
        obtain ⟨s2, rx⟩ := hyld x H2 d hd hy
        obtain ⟨o, ho, hf⟩ := hos i d hd
        have rL2 := (rL.grow s2).wipe is
        unfold lcStep at hf
        cases hg : g d (wipeS (bAll ρ) is) with
        | none => rw [hg] at hf; cases hf
        | some ρ' =>
          rw [hg] at hf
          dsimp only at hf
          have hown : ∀ a, ¬ Own (wipeS (bAll ρ) is) (L2.wipe σ is) a := fun a => by
            have : ∀ is : List Nat, ¬ Own (wipeS (bAll ρ) is) (L2.wipe σ is) a := fun is => by
              induction is with
              | nil => exact bAll_own a
              | cons j is ih => exact fun z => ih (set_own (fun _ z => by cases z) a z)
            exact this is
          refine ⟨_, _, d, ρ', rL2, rx.mono (hideP_same (Same.refl H2) fun a o _ h => h.elim id fun h => absurd h (hown a)), hg, fun σ' r3 k3 w3 => ⟨w3.trans (wipe_wipe σ is is fun _ h => h), _, ρ', r3, ?_⟩⟩
          cases hft : ft ρ' with
          | exc c fs => rw [hft] at hf; cases hf
          | no => rw [hft] at hf; cases hf
          | ok b =>
            rw [hft] at hf
            intro H3 s3 r3'
            have eo : os.take (i + 1) = os.take i ++ [o] := by rw [List.take_add_one, ho]; rfl
            cases b with
            | false =>
              have hf : R.ok none = R.ok o := hf
              cases hf
              refine iteF ⟨hlt, s'.trans (s2.trans s3), vs, s3 _ _ (s2 _ _ hD), ?_⟩
              rw [eo, List.filterMap_append]
              show Reps T K _ vs (_ ++ [])
              rw [List.append_nil]
              exact rv.mono (hideP_same (s2.trans s3) fun _ _ _ h => h)
            | true =>
              refine iteT ⟨_, ρ', r3', ?_⟩
              cases hfe : fe ρ' with
              | exc c fs => rw [hfe] at hf; cases hf
              | no => rw [hfe] at hf; cases hf
              | ok y =>
                rw [hfe] at hf
                have hf : R.ok (some y) = R.ok o := hf
                cases hf
                intro yv H4 s4 p4
                have h4 : H4 L = some (.lst vs) := s4 _ _ (s3 _ _ (s2 _ _ hD))
                refine ⟨vs, h4, ?_, hlt, ?_, vs ++ [yv], upd_same, ?_⟩
                · rw [rv.length]
                  refine lim_lt (Nat.le_trans ?_ hlim)
                  refine Nat.le_trans (List.length_filterMap_le _ _) ?_
                  rw [List.length_take]
                  omega
                · intro b u e
                  have nb : b ≠ L := ne_of_none e hL
                  rw [upd_ne nb]
                  exact s4 _ _ (s3 _ _ (s2 _ _ (s' _ _ e)))
                · have sg : Same (hideP H4 fun a => Hid F.B ρ σ a ∨ a = L) (hideP (upd H4 L (.lst (vs ++ [yv]))) fun a => Hid F.B ρ σ a ∨ a = L) := fun b u e => by
                    obtain ⟨e1, n1⟩ := hideP_some e
                    exact hideP_of (by rw [upd_ne fun z => n1 (.inr z)]; exact e1) n1
                  rw [eo, List.filterMap_append]
                  refine Reps.append (rv.mono ((hideP_same (s2.trans (s3.trans s4)) fun _ _ _ h => h).trans sg)) (.one (p4.2.mono (Same.trans ?_ sg)))
                  exact hideP_same (Same.refl H4) fun a o _ h => .inl h
      · have ei : i = ds.length := by omega
        refine .inl ⟨hstop (by omega), q _ H' (s1.trans s') ⟨L, rfl, rs.same.free nH, fun z => rs.hid z nH, rs.hide2 nH (s1.trans s') (by rw [hD]; exact fun z => nomatch z), vs, hD, ?_⟩⟩
        rw [ei, List.take_of_length_le (by omega), ← hr] at rv
        exact rv.mono (hideP_same (Same.refl H') fun a o _ h => by
          rcases h with (h | h) | h
          · exact .inl (.inl h)
          · exact .inr h
          · exact .inl (.inr h))
  · exact False.elim q
theorem de_lc (hc : X.calm = true) (hN : X.N.Nodup) (hi : DI T W0 X tg iter fi) (ok : BlkOk X.N X.env.scope scope own)
    (hg : ∀ (s : Shared) (H : Hp) (C : Addr) (cl : List (Str × Addr)) (fp : List Addr), DG T (X.blk s H scope (compEnvC scope cl C X.env) fp) (own.map (·.2)) tg g) (ht : ∀ (s : Shared) (H : Hp) (C : Addr) (cl : List (Str × Addr)) (fp : List Addr), DTs T (X.blk s H scope (compEnvC scope cl C X.env) fp) ifs ft)
    (he : ∀ (s : Shared) (H : Hp) (C : Addr) (cl : List (Str × Addr)) (fp : List Addr), DE T W0 .pub (X.blk s H scope (compEnvC scope cl C X.env) fp) elt fe) (hs : ∀ x, foldedSetIterable iter X.env x = pure x := by intro _; rfl) :
    DE T W .frs X (.ListComp elt [⟨tg, iter, ifs, 0⟩] scope pos) (dLc fi g ft fe (own.map (·.2))) :=
  ⟨PE.imp (pe_lc hc hN hi.run ok (fun s H C cl fp => (hg s H C cl fp).run) (fun s H C cl fp => (ht s H C cl fp).run) (fun s H C cl fp => (he s H C cl fp).run) hs) fun σ H Q h => lc_read h⟩
end
end DL

namespace DL
open PySem PySem.Spec L2
open PyProof.Rows hiding St

inductive Out where
  | nx (ρ : List S) | rt (d : D) | bk (ρ : List S) | ct (ρ : List S) | exc (ρ : List S) (c : Nat) (fs : List D) | no
def R.out {α : Type} (r : R α) (ρ : List S) (k : α → Out) : Out := match r with
  | .ok a => k a
  | .exc c fs => .exc ρ c fs
  | .no => .no
def OutP (T : Tbl) (K : PySem.W.Frag) (W : WX) (fr : Bool) (F : Fm) (ρ : List S) (σ : L2.St) (H : Hp) (o : Out) (D : Ends) : Prop := match o with
  | .nx ρ' => ∀ σ' H', RS T K F ρ' σ' H' → Keep F ρ σ H ρ' σ' H' → D.nx σ' H'
  | .bk ρ' => ∀ σ' H', RS T K F ρ' σ' H' → Keep F ρ σ H ρ' σ' H' → D.bk σ' H'
  | .ct ρ' => ∀ σ' H', RS T K F ρ' σ' H' → Keep F ρ σ H ρ' σ' H' → D.ct σ' H'
  | .rt d => ∀ v H', Same F.H0 H' → RetR T K F.B F.H0 fr v d H' → D.rt v H'
  | .exc ρ' c fs => ∀ σ' dO H', RS T K F ρ' σ' H' → Keep F ρ σ H ρ' σ' H' → XRep T K (pubH F.B ρ' σ' H') H' c fs dO → W (.ref (T.cls c)) dO σ' H'
  | .no => False
def tS (T : Tbl) (K : PySem.W.Frag) (W : WX) (fr : Bool) (f : List S → Out) : TS := fun D σ H => ∃ F ρ, RS T K F ρ σ H ∧ OutP T K W fr F ρ σ H (f ρ) D
structure DS (T : Tbl) (W : WX) (fr : Bool) (X : Cx) (st : Stmt) (f : List S → Out) : Prop where
  run : PS X st (tS T X.K W fr f)
structure DSs (T : Tbl) (W : WX) (fr : Bool) (X : Cx) (st : List Stmt) (f : List S → Out) : Prop where
  run : PSs X st (tS T X.K W fr f)
section
variable {T : Tbl} {K : PySem.W.Frag} {W : WX} {fr : Bool} {F : Fm} {ρ ρ1 : List S} {σ σ1 : L2.St} {H H1 : Hp} {o : Out} {D : Ends}
theorem OutP.later (h : OutP T K W fr F ρ σ H o D) (k : Keep F ρ σ H ρ1 σ1 H1) : OutP T K W fr F ρ1 σ1 H1 o D := by
  cases o with
  | nx ρ' => exact fun σ' H' r k2 => h σ' H' r (k.trans k2)
  | bk ρ' => exact fun σ' H' r k2 => h σ' H' r (k.trans k2)
  | ct ρ' => exact fun σ' H' r k2 => h σ' H' r (k.trans k2)
  | rt d => exact h
  | exc ρ' c fs => exact fun σ' dO H' r k2 x => h σ' dO H' r (k.trans k2) x
  | no => exact h
/-- an expression within a statement -/
theorem OutP.res {α : Type} {r : R α} {k : α → Out} {kk : α → Prop} (rs : RS T K F ρ σ H) (h : OutP T K W fr F ρ σ H (r.out ρ k) D) (i : ∀ a, OutP T K W fr F ρ σ H (k a) D → kk a) : Res T K W F ρ σ H r kk := by
  cases r with
  | ok a => exact i a h
  | exc c fs => exact fun dO H' s rs' x => h σ dO H' rs' (Keep.grow rs s) x
  | no => exact h
end
section
variable {T : Tbl} {W : WX} {fr : Bool} {X : Cx} {st : Stmt} {rest : List Stmt} {e : Expr} {f g h : List S → Out} {fe : List S → R D} {m : Md} {pos : Pos} {i : Nat}
def sSeq (f g : List S → Out) (ρ : List S) : Out := match f ρ with
  | .nx ρ' => g ρ'
  | .rt d => .rt d
  | .bk ρ' => .bk ρ'
  | .ct ρ' => .ct ρ'
  | .exc ρ' c fs => .exc ρ' c fs
  | .no => .no
def sNil (ρ : List S) : Out := .nx ρ
theorem dss_nil : DSs T W fr X [] sNil := ⟨PSs.imp pss_nil fun D σ H ⟨F, ρ, rs, q⟩ => q σ H rs (Keep.refl ..)⟩
theorem dss_cons (h1 : DS T W fr X st f) (h2 : DSs T W fr X rest g) : DSs T W fr X (st :: rest) (sSeq f g) := by
  refine ⟨PSs.imp (pss_cons h1.run h2.run) fun D σ H ⟨F, ρ, rs, q⟩ => ⟨F, ρ, rs, ?_⟩⟩
  unfold sSeq at q
  cases hf : f ρ with
  | nx ρ' =>
    rw [hf] at q
    exact fun σ' H' r k => ⟨F, ρ', r, OutP.later q k⟩
  | rt d => rw [hf] at q; exact q
  | bk ρ' => rw [hf] at q; exact q
  | ct ρ' => rw [hf] at q; exact q
  | exc ρ' c fs => rw [hf] at q; exact q
  | no => rw [hf] at q; exact q
theorem dss_one (h1 : DS T W fr X st f) : DSs T W fr X [st] f := ⟨pss_one h1.run⟩
/-- ghost: what the slot owned is public from here on -/
def frz (i : Nat) (ρ : List S) : List S := match ρ[i]? with
  | some (.ow d) => ρ.set i (.pu d)
  | _ => ρ
theorem RS.freeze {K : PySem.W.Frag} {F : Fm} {ρ : List S} {σ : L2.St} {H : Hp} (r : RS T K F ρ σ H) : RS T K F (frz i ρ) σ H ∧ Keep F ρ σ H (frz i ρ) σ H := by
  unfold frz
  split
  · rename_i d hd
    obtain ⟨a, h1, h2, h3, h4⟩ := r.own i d hd
    have es : σ.set i (some (V.ref a)) = σ := by
      apply List.ext_getElem?
      intro j
      rw [List.getElem?_set]
      split
      · rename_i e
        subst e
        split
        · exact h1.symm
        · rename_i hl
          rw [List.getElem?_eq_none (by omega)]
      · rfl
    have k : Keep F ρ σ H (ρ.set i (.pu d)) σ H := by
      have := Keep.set (F := F) (ρ := ρ) (σ := σ) (H := H) (i := i) (s := .pu d) (w := some (V.ref a)) (fun _ z => by cases z)
      rwa [es] at this
    refine ⟨?_, k⟩
    have n : ¬ Hid F.B (ρ.set i (.pu d)) σ a := fun z => by
      rcases z with z | ⟨j, d', z1, z2⟩
      · exact h3 z
      · rcases get_set z1 with ⟨_, e, _⟩ | ⟨nj, z1⟩
        · cases e
        · exact nj (r.inj j i d' d a z1 hd z2 h1)
    have hr : Rep T K (pubH F.B (ρ.set i (.pu d)) σ H) (.ref a) d := h4.rep k.1 fun o e => hideP_of e n
    have r2 := r.set (i := i) (s := .pu d) (w := some (V.ref a)) (fun _ z => by cases z) (fun d' e => by cases e; exact ⟨_, rfl, by rw [es]; exact hr⟩) fun _ z => by cases z
    rwa [es] at r2
  · exact ⟨r, Keep.refl ..⟩
def sFrz (i : Nat) (g : List S → Out) (ρ : List S) : Out := g (frz i ρ)
theorem dss_frz (i : Nat) (h2 : DSs T W fr X rest g) : DSs T W fr X rest (sFrz i g) := by
  refine ⟨PSs.imp h2.run fun D σ H ⟨F, ρ, rs, q⟩ => ?_⟩
  obtain ⟨r2, k⟩ := rs.freeze (i := i)
  exact ⟨F, _, r2, OutP.later q k⟩
def sPass (ρ : List S) : Out := .nx ρ
def sBrk (ρ : List S) : Out := .bk ρ
def sCnt (ρ : List S) : Out := .ct ρ
theorem ds_pass : DS T W fr X (.Pass pos) sPass := ⟨PS.imp ps_pass fun D σ H ⟨F, ρ, rs, q⟩ => q σ H rs (Keep.refl ..)⟩
theorem ds_break : DS T W fr X (.Break pos) sBrk := ⟨PS.imp ps_break fun D σ H ⟨F, ρ, rs, q⟩ => q σ H rs (Keep.refl ..)⟩
theorem ds_continue : DS T W fr X (.Continue pos) sCnt := ⟨PS.imp ps_continue fun D σ H ⟨F, ρ, rs, q⟩ => q σ H rs (Keep.refl ..)⟩
/-- never reached -/
def sNo (_ : List S) : Out := .no
theorem ds_never : DS T W fr X st sNo := ⟨PS.imp ps_never fun D σ H ⟨F, ρ, rs, q⟩ => q⟩
def sExp (fe : List S → R D) (ρ : List S) : Out := (fe ρ).out ρ fun _ => .nx ρ
theorem ds_expr (he : DE T W m X e fe) (hs : swapsWith e none pos.line X.env = pure false := by rfl) : DS T W fr X (.Expr e pos) (sExp fe) :=
  ⟨PS.imp (ps_expr he.run hs) fun D σ H ⟨F, ρ, rs, q⟩ => ⟨F, ρ, rs, OutP.res rs q fun d q v H' s p => q σ H' p.rs (Keep.grow rs s)⟩⟩
def sRet (fe : List S → R D) (ρ : List S) : Out := (fe ρ).out ρ fun d => .rt d
theorem ds_ret (he : DE T W .pub X e fe) : DS T W false X (.Return (some e) pos) (sRet fe) :=
  ⟨PS.imp (ps_ret he.run) fun D σ H ⟨F, ρ, rs, q⟩ => ⟨F, ρ, rs, OutP.res rs q fun d q v H' s p => q v H' p.1.same (p.2.mono (hideP_same (Same.refl _) fun _ _ _ h => .inl h))⟩⟩
theorem ds_retF (he : DE T W .frs X e fe) : DS T W true X (.Return (some e) pos) (sRet fe) :=
  ⟨PS.imp (ps_ret he.run) fun D σ H ⟨F, ρ, rs, q⟩ => ⟨F, ρ, rs, OutP.res rs q fun d q v H' s p => by
    obtain ⟨a, e, h0, n, r, w⟩ := p
    refine q v H' r.same ⟨a, e, h0, fun z => n (.inl z), w.mono (hideP_same (Same.refl _) fun _ _ _ h => ?_) fun o e => e⟩
    exact .inl h⟩⟩
/-- return x, x owned by the frame: a fresh object for the caller -/
def sRetO (i : Nat) (ρ : List S) : Out := match ρ[i]? with
  | some (.ow d) => .rt d
  | _ => .no
theorem ds_retO (he : PE X e (tVar i)) : DS T W true X (.Return (some e) pos) (sRetO i) := by
  refine ⟨PS.imp (ps_ret he) fun D σ H ⟨F, ρ, rs, q⟩ => ?_⟩
  unfold sRetO at q
  split at q
  · rename_i d hd
    obtain ⟨a, h1, h2, h3, h4⟩ := rs.own i d hd
    refine ⟨.ref a, h1, q _ H rs.same ⟨a, rfl, h2, h3, h4.mono (hideP_same (Same.refl _) fun b _ _ h => ?_) fun o e => e⟩⟩
    rcases h with h | h
    · exact .inl h
    · subst h
      exact .inr ⟨i, d, hd, h1⟩
  · exact False.elim q
def sRetN (ρ : List S) : Out := .rt .non
theorem ds_retN : DS T W false X (.Return none pos) sRetN := ⟨PS.imp ps_retN fun D σ H ⟨F, ρ, rs, q⟩ => q .non H rs.same .non⟩
def sIf (t : List S → R Bool) (f g : List S → Out) (ρ : List S) : Out := (t ρ).out ρ fun b => if b = true then f ρ else g ρ
theorem ds_if {c : Expr} {a b : List Stmt} {t : List S → R Bool} (hc : DT T W X c t) (ha : DSs T W fr X a f) (hb : DSs T W fr X b g) : DS T W fr X (.If c a b pos) (sIf t f g) := by
  refine ⟨PS.imp (ps_if hc.run ha.run hb.run) fun D σ H ⟨F, ρ, rs, q⟩ => ⟨F, ρ, rs, OutP.res rs q fun k q H1 s1 r1 => ?_⟩⟩
  cases k with
  | true => exact iteT ⟨F, ρ, r1, OutP.later q (Keep.grow rs s1)⟩
  | false => exact iteF ⟨F, ρ, r1, OutP.later q (Keep.grow rs s1)⟩
/-- target = e, what is handed to the target is public -/
def sAsg (fe : List S → R D) (g : D → List S → Option (List S)) (ρ : List S) : Out := (fe ρ).out ρ fun d => match g d ρ with
  | some ρ' => .nx ρ'
  | none => .no
theorem asg_read {K : PySem.W.Frag} {is : List Nat} {gg : D → List S → Option (List S)} {D : Ends} {σ : L2.St} {H : Hp} (h : tS T K W fr (sAsg fe gg) D σ H) : tAsg (tD T K W .pub fe) (tDG T K is gg) D σ H := by
  obtain ⟨F, ρ, rs, q⟩ := h
  refine ⟨F, ρ, rs, OutP.res rs q fun d q v H' s p => ?_⟩
  cases hg : gg d ρ with
  | none => rw [hg] at q; exact False.elim q
  | some ρ' =>
    rw [hg] at q
    exact ⟨F, ρ, d, ρ', p.1, p.2, hg, fun σ' r k _ => q σ' H' r ((Keep.grow rs s).trans k)⟩
theorem ds_asg {tg : Expr} {is : List Nat} {gg : D → List S → Option (List S)} (he : DE T W .pub X e fe) (hg : DG T X is tg gg) (hs : swapsWithSole [tg] e pos.line X.env = pure false := by rfl) (hw : swappedStores [tg] e X.env = pure none := by rfl)
    (h1 : (assignEach [tg] X.env).map (·.2) = [assign tg X.env] := by rfl) : DS T W fr X (.Assign [tg] e pos) (sAsg fe gg) :=
  ⟨PS.imp (ps_asg he.run hg.run hs hw h1) fun D σ H h => asg_read h⟩
/-- x = e, a fresh object that the frame owns -/
def sOwn (i : Nat) (fe : List S → R D) (ρ : List S) : Out := (fe (bAll ρ)).out ρ fun d => .nx (ρ.set i (.ow d))
theorem own_of {K : PySem.W.Frag} {F : Fm} {ρ : List S} {σ : L2.St} {H H' : Hp} {v : V} {d : D} (r : RS T K F ρ σ H) (s : Same H H') (h : Post T K .frs ⟨Hid F.B ρ σ, H⟩ (bAll ρ) σ v d H') : RS T K F (ρ.set i (.ow d)) (σ.set i (some v)) H' ∧ Keep F ρ σ H (ρ.set i (.ow d)) (σ.set i (some v)) H' := by
  obtain ⟨p, rfl, h0, n, r2, w⟩ := h
  have h0 : H p = none := h0
  obtain ⟨o, ho⟩ := w.there
  have n' : ¬ Hid F.B ρ σ p := fun z => r.hid z h0
  have g : Same (pubH (fun a => Hid F.B ρ σ a ∨ a = p) (bAll ρ) σ H') (pubH (fun a => F.B a ∨ a = p) ρ σ H') := borrow_same
  have q : Post T K .frs F ρ σ (.ref p) d H' := ⟨p, rfl, r.same.free h0, n', r.hide2 h0 s (fun z => by rw [ho] at z; cases z), w.mono g fun o e => e⟩
  refine ⟨r.setOwn s q, fun a o e => ?_, (Keep.grow (F := F) r s).2⟩
  obtain ⟨e1, n1⟩ := hideP_some e
  refine hideP_of (s a o e1) fun z => ?_
  rcases z with z | ⟨j, d', z1, z2⟩
  · exact n1 (.inl z)
  · rcases get_set z2 with ⟨_, e3, _⟩ | ⟨nj, z2⟩
    · cases e3
      rw [h0] at e1
      cases e1
    · rcases get_set z1 with ⟨e2, _⟩ | ⟨_, z1⟩
      · exact nj e2
      · exact n1 (.inr ⟨j, d', z1, z2⟩)
/-- in the borrowed frame -/
theorem OutP.resB {K : PySem.W.Frag} {F : Fm} {ρ : List S} {σ : L2.St} {H : Hp} {D : Ends} {α : Type} {r : R α} {k : α → Out} {kk : α → Prop} (rs : RS T K F ρ σ H) (h : OutP T K W fr F ρ σ H (r.out ρ k) D) (i : ∀ a, OutP T K W fr F ρ σ H (k a) D → kk a) : Res T K W ⟨Hid F.B ρ σ, H⟩ (bAll ρ) σ H r kk := by
  cases r with
  | ok a => exact i a h
  | exc c fs =>
    refine fun dO H' s rs' x => h σ dO H' (rs.grow s) (Keep.grow rs s) (x.mono (hideP_same (Same.refl H') fun a o _ z => .inl z) (Same.refl H'))
  | no => exact h
theorem own_read {K : PySem.W.Frag} {te : TE} {D : Ends} {σ : L2.St} {H : Hp} (ht : ∀ Q, tD T K W .frs fe σ H Q → te σ H Q) (h : tS T K W fr (sOwn i fe) D σ H) : tAsg te (L2.gName i) D σ H := by
  obtain ⟨F, ρ, rs, q⟩ := h
  refine ht _ ⟨⟨Hid F.B ρ σ, H⟩, bAll ρ, rs.borrow, OutP.resB rs q fun d q v H' s p => ?_⟩
  obtain ⟨h1, h2⟩ := own_of (i := i) rs s p
  exact q _ H' h1 h2
theorem ds_own {tg : Expr} (he : DE T W .frs X e fe) (hg : PG X tg (L2.gName i)) (hs : swapsWithSole [tg] e pos.line X.env = pure false := by rfl) (hw : swappedStores [tg] e X.env = pure none := by rfl)
    (h1 : (assignEach [tg] X.env).map (·.2) = [assign tg X.env] := by rfl) : DS T W fr X (.Assign [tg] e pos) (sOwn i fe) :=
  ⟨PS.imp (ps_asg he.run hg hs hw h1) fun D σ H h => own_read (fun _ z => z) h⟩
/-! x = [.. for ..], owned; public -/
section
variable {elt tg iter : Expr} {ifs : List Expr} {scope : Scope} {own : List (Str × Nat)} {fi : List S → R (List D)} {gg : D → List S → Option (List S)} {ft : List S → R Bool} {y : Str} {py spos : Pos}
theorem ds_ownLc (hc : X.calm = true) (hN : X.N.Nodup) (hy : X.N[i]? = some y) (hyl : X.env.scope.names.lookup y = some .local)
    (hsw : swapsWith (.ListComp elt [⟨tg, iter, ifs, 0⟩] scope pos) (some (.Name y py)) spos.line X.env = pure true) (hi : DI T W0 X tg iter fi) (ok : BlkOk X.N X.env.scope scope own)
    (hg : ∀ (s : Shared) (H : Hp) (C : Addr) (cl : List (Str × Addr)) (fp : List Addr), DG T (X.blk s H scope (compEnvC scope cl C X.env) fp) (own.map (·.2)) tg gg) (ht : ∀ (s : Shared) (H : Hp) (C : Addr) (cl : List (Str × Addr)) (fp : List Addr), DTs T (X.blk s H scope (compEnvC scope cl C X.env) fp) ifs ft)
    (he : ∀ (s : Shared) (H : Hp) (C : Addr) (cl : List (Str × Addr)) (fp : List Addr), DE T W0 .pub (X.blk s H scope (compEnvC scope cl C X.env) fp) elt fe) (hs : ∀ x, foldedSetIterable iter X.env x = pure x := by intro _; rfl) :
    DS T W fr X (.Assign [.Name y py] (.ListComp elt [⟨tg, iter, ifs, 0⟩] scope pos) spos) (sOwn i (dLc fi gg ft fe (own.map (·.2)))) :=
  ⟨PS.imp (ps_setLc hc hN hy hyl hsw hi.run ok (fun s H C cl fp => (hg s H C cl fp).run) (fun s H C cl fp => (ht s H C cl fp).run) (fun s H C cl fp => (he s H C cl fp).run) hs) fun D σ H h => own_read (fun _ z => lc_read z) h⟩
theorem ds_setLc (hc : X.calm = true) (hN : X.N.Nodup) (hy : X.N[i]? = some y) (hyl : X.env.scope.names.lookup y = some .local)
    (hsw : swapsWith (.ListComp elt [⟨tg, iter, ifs, 0⟩] scope pos) (some (.Name y py)) spos.line X.env = pure true) (hi : DI T W0 X tg iter fi) (ok : BlkOk X.N X.env.scope scope own)
    (hg : ∀ (s : Shared) (H : Hp) (C : Addr) (cl : List (Str × Addr)) (fp : List Addr), DG T (X.blk s H scope (compEnvC scope cl C X.env) fp) (own.map (·.2)) tg gg) (ht : ∀ (s : Shared) (H : Hp) (C : Addr) (cl : List (Str × Addr)) (fp : List Addr), DTs T (X.blk s H scope (compEnvC scope cl C X.env) fp) ifs ft)
    (he : ∀ (s : Shared) (H : Hp) (C : Addr) (cl : List (Str × Addr)) (fp : List Addr), DE T W0 .pub (X.blk s H scope (compEnvC scope cl C X.env) fp) elt fe) (hs : ∀ x, foldedSetIterable iter X.env x = pure x := by intro _; rfl) :
    DS T W fr X (.Assign [.Name y py] (.ListComp elt [⟨tg, iter, ifs, 0⟩] scope pos) spos) (sAsg (dLc fi gg ft fe (own.map (·.2))) (gN i)) :=
  ⟨PS.imp (ps_setLc hc hN hy hyl hsw hi.run ok (fun s H C cl fp => (hg s H C cl fp).run) (fun s H C cl fp => (ht s H C cl fp).run) (fun s H C cl fp => (he s H C cl fp).run) hs) fun D σ H ⟨F, ρ, rs, q⟩ =>
    lc_read ⟨F, ρ, rs, OutP.res rs q fun d q v H' s p => q _ H' (p.pub_of_frs.1.setPub p.pub_of_frs.2) ((Keep.grow rs s).trans (Keep.set fun _ z => by cases z))⟩⟩
end

/-! ### loops -/
def forL (g : D → List S → Option (List S)) (body : List S → Out) : List D → List S → Out
  | [], ρ => .nx ρ
  | d :: ds, ρ => match g d ρ with
    | none => .no
    | some ρ1 => match body ρ1 with
      | .nx ρ2 => forL g body ds ρ2
      | .ct ρ2 => forL g body ds ρ2
      | .bk ρ2 => .nx ρ2
      | .rt d => .rt d
      | .exc ρ2 c fs => .exc ρ2 c fs
      | .no => .no
def sFor (fi : List S → R (List D)) (g : D → List S → Option (List S)) (body : List S → Out) (ρ : List S) : Out := (fi ρ).out ρ fun ds => forL g body ds ρ
theorem ds_for {tg iter : Expr} {body : List Stmt} {fi : List S → R (List D)} {is : List Nat} {gg : D → List S → Option (List S)} (hp : PassesOwn (model X.prog X.w) X.A X.env X.xe) (hc : X.calm = true) (hi : DI T W X tg iter fi) (hg : DG T X is tg gg) (hb : DSs T W fr X body f)
    (hs : ∀ x, foldedSetIterable iter X.env x = pure x := by intro _; rfl) : DS T W fr X (.For tg iter body [] pos) (sFor fi gg f) := by
  refine ⟨PS.imp (ps_for hp hc hi.run hg.run hb.run hs) fun D σ H ⟨F, ρ, rs, q⟩ => ⟨F, ρ, rs, OutP.res rs q fun ds q J H1 s1 r1 it => ?_⟩⟩
  refine ⟨fun i m σ' H' => i ≤ ds.length ∧ m = ds.length - i ∧ ∃ ρ', RS T X.K F ρ' σ' H' ∧ Keep F ρ σ H1 ρ' σ' H' ∧ OutP T X.K W fr F ρ' σ' H' (forL gg f (ds.drop i) ρ') D, ⟨ds.length, Nat.zero_le _, rfl, ρ, r1, Keep.refl .., OutP.later q (Keep.grow rs s1)⟩, ?_⟩
  rintro i m σ' H' ⟨hi, rfl, ρ', r', k', q'⟩
  obtain ⟨hgo, hstop, hy⟩ := it H' (Hid F.B ρ' σ') k'.1 k'.2 (fun b hb => r'.hid hb) i
  by_cases hlt : i < ds.length
  · refine .inr ⟨hgo hlt, fun σ2 H2 => i + 1 ≤ ds.length ∧ ∃ ρ2, RS T X.K F ρ2 σ2 H2 ∧ Keep F ρ σ H1 ρ2 σ2 H2 ∧ OutP T X.K W fr F ρ2 σ2 H2 (forL gg f (ds.drop (i + 1)) ρ2) D, fun σ2 H2 ⟨e1, e2⟩ => ⟨ds.length - (i + 1), by omega, e1, rfl, e2⟩, fun x H2 hyx => ?_⟩
    have hd : ds[i]? = some ds[i] := List.getElem?_eq_getElem hlt
    obtain ⟨s2, rx⟩ := hy x H2 _ hd hyx
    have r2 := r'.grow s2
    rw [List.drop_eq_getElem_cons hlt, forL] at q'
    cases hgd : gg ds[i] ρ' with
    | none => rw [hgd] at q'; exact False.elim q'
    | some ρ1 =>
      rw [hgd] at q'
      dsimp only at q'
      refine ⟨F, ρ', ds[i], ρ1, r2, rx, hgd, fun σ3 r3 k3 _ => ⟨F, ρ1, r3, ?_⟩⟩
      have kk : Keep F ρ σ H1 ρ1 σ3 H2 := k'.trans ((Keep.grow r' s2).trans k3)
      have q3 := OutP.later q' ((Keep.grow r' s2).trans k3)
      cases hf : f ρ1 with
      | nx ρ2 => rw [hf] at q3; exact fun σ4 H4 r4 k4 => ⟨hlt, ρ2, r4, kk.trans k4, OutP.later q3 k4⟩
      | ct ρ2 => rw [hf] at q3; exact fun σ4 H4 r4 k4 => ⟨hlt, ρ2, r4, kk.trans k4, OutP.later q3 k4⟩
      | bk ρ2 => rw [hf] at q3; exact q3
      | rt d => rw [hf] at q3; exact q3
      | exc ρ2 c fs => rw [hf] at q3; exact q3
      | no => rw [hf] at q3; exact q3
  · rw [List.drop_of_length_le (by omega)] at q'
    exact .inl ⟨hstop (by omega), q' σ' H' r' (Keep.refl ..)⟩
def whileL (t : List S → R Bool) (body : List S → Out) : Nat → List S → Out
  | 0, _ => .no
  | n + 1, ρ => (t ρ).out ρ fun b => if b = true then (match body ρ with
      | .nx ρ2 => whileL t body n ρ2
      | .ct ρ2 => whileL t body n ρ2
      | .bk ρ2 => .nx ρ2
      | .rt d => .rt d
      | .exc ρ2 c fs => .exc ρ2 c fs
      | .no => .no) else .nx ρ
theorem tDT_mono {K : PySem.W.Frag} {t : List S → R Bool} {σ : L2.St} {H : Hp} {Q Q' : Bool → Hp → Prop} (i : ∀ b H1, Q b H1 → Q' b H1) (h : tDT T K W t σ H Q) : tDT T K W t σ H Q' := by
  obtain ⟨F, ρ, rs, q⟩ := h
  exact ⟨F, ρ, rs, q.imp fun b q H' s r => i _ _ (q H' s r)⟩
theorem ds_while {c : Expr} {body : List Stmt} {t : List S → R Bool} (n : Nat) (hp : PassesOwn (model X.prog X.w) X.A X.env X.xe) (hc : DT T W X c t) (hb : DSs T W fr X body f) : DS T W fr X (.While c body [] pos) (whileL t f n) := by
  refine ⟨PS.imp (ps_while hp hc.run hb.run) fun D σ H ⟨F, ρ, rs, q⟩ => ?_⟩
  refine ⟨fun m σ' H' => ∃ ρ', RS T X.K F ρ' σ' H' ∧ OutP T X.K W fr F ρ' σ' H' (whileL t f m ρ') D, ⟨n, ρ, rs, q⟩, ?_⟩
  rintro m σ' H' ⟨ρ', r', q'⟩
  cases m with
  | zero => exact False.elim q'
  | succ m =>
    rw [whileL] at q'
    refine ⟨F, ρ', r', OutP.res r' q' fun b q2 H2 s2 r2 => ?_⟩
    have q3 := OutP.later q2 (Keep.grow r' s2)
    cases b with
    | false => exact iteF (q3 σ' H2 r2 (Keep.refl ..))
    | true =>
      refine iteT ⟨fun σ3 H3 => ∃ ρ3, RS T X.K F ρ3 σ3 H3 ∧ OutP T X.K W fr F ρ3 σ3 H3 (whileL t f m ρ3) D, fun σ3 H3 h3 => ⟨m, Nat.lt_succ_self _, h3⟩, F, ρ', r2, ?_⟩
      simp only [if_true] at q3
      cases hf : f ρ' with
      | nx ρ2 => rw [hf] at q3; exact fun σ4 H4 r4 k4 => ⟨ρ2, r4, OutP.later q3 k4⟩
      | ct ρ2 => rw [hf] at q3; exact fun σ4 H4 r4 k4 => ⟨ρ2, r4, OutP.later q3 k4⟩
      | bk ρ2 => rw [hf] at q3; exact q3
      | rt d => rw [hf] at q3; exact q3
      | exc ρ2 c fs => rw [hf] at q3; exact q3
      | no => rw [hf] at q3; exact q3
end

/-! ### a def -/
def startS (n : Nat) : List Bool → List D → List S
  | m :: ms, d :: ds => (if m = true then S.pu d else S.bo d) :: startS (n - 1) ms ds
  | _, _ => List.replicate n .un
def denOf (n : Nat) (ms : List Bool) (f : List S → Out) (ds : List D) : R D := match f (startS n ms ds) with
  | .nx _ => .ok .non
  | .rt d => .ok d
  | .exc _ c fs => .exc c fs
  | _ => .no
section
variable {T : Tbl} {K : PySem.W.Frag}
theorem startS_get : ∀ {n : Nat} {ms : List Bool} {ds : List D} {i : Nat} {s : S}, (startS n ms ds)[i]? = some s → ds.length = ms.length → (i < ds.length ∧ ∃ m d, ms[i]? = some m ∧ ds[i]? = some d ∧ s = if m = true then S.pu d else S.bo d) ∨ s = .un
  | n, [], [], i, s, h, _ => by
    unfold startS at h
    rw [List.getElem?_replicate] at h
    split at h
    · cases h; exact .inr rfl
    · cases h
  | n, m :: ms, d :: ds, 0, s, h, _ => by
    cases h
    exact .inl ⟨Nat.zero_lt_succ _, m, d, rfl, rfl, rfl⟩
  | n, m :: ms, d :: ds, i + 1, s, h, hl => by
    rcases startS_get (n := n - 1) (ms := ms) (ds := ds) (i := i) (by simpa [startS] using h) (by simpa using hl) with ⟨h1, m', d', e1, e2, e3⟩ | h
    · exact .inl ⟨by simpa using h1, m', d', by simpa using e1, by simpa using e2, e3⟩
    · exact .inr h
  | _, [], _ :: _, _, _, _, hl => by cases hl
  | _, _ :: _, [], _, _, _, hl => by cases hl
theorem startS_length : ∀ {n : Nat} {ms : List Bool} {ds : List D}, ds.length = ms.length → ms.length ≤ n → (startS n ms ds).length = n
  | n, [], [], _, _ => by unfold startS; rw [List.length_replicate]
  | n, m :: ms, d :: ds, h, hl => by
    unfold startS
    rw [List.length_cons, startS_length (by simpa using h) (by simp at hl; omega)]
    simp at hl
    omega
  | _, [], _ :: _, hl, _ => by cases hl
  | _, _ :: _, [], hl, _ => by cases hl
theorem ArgR.get {B : Addr → Prop} {H : Hp} : ∀ {ms : List Bool} {vs : List V} {ds : List D} {i : Nat} {m : Bool} {d : D}, ArgR T K B H ms vs ds → ms[i]? = some m → ds[i]? = some d → ∃ v, vs[i]? = some v ∧ (Rep T K (hideP H B) v d ∨ m = false ∧ RepB T K B (hideP H B) H v d)
  | [], [], [], _, _, _, _, h, _ => by simp at h
  | m :: ms, v :: vs, d :: ds, 0, _, _, h, e1, e2 => by cases e1; cases e2; exact ⟨v, rfl, h.1⟩
  | m :: ms, v :: vs, d :: ds, i + 1, _, _, h, e1, e2 => by
    obtain ⟨w, h1, h2⟩ := ArgR.get (i := i) h.2 (by simpa using e1) (by simpa using e2)
    exact ⟨w, by simpa using h1, h2⟩
  | [], [], _ :: _, _, _, _, h, _, _ => h.elim
  | [], _ :: _, _, _, _, _, h, _, _ => h.elim
  | _ :: _, [], _, _, _, _, h, _, _ => h.elim
  | _ :: _, _ :: _, [], _, _, _, h, _, _ => h.elim
theorem rs_start {N : List Str} {B : Addr → Prop} {H : Hp} {ms : List Bool} {vs : List V} {ds : List D} (hB : ∀ b, B b → H b ≠ none) (h : ArgR T K B H ms vs ds) (hl : ms.length ≤ N.length) : RS T K ⟨B, H⟩ (startS N.length ms ds) (L2.start N vs) H := by
  obtain ⟨l1, l2⟩ := h.len
  have no : ∀ (i : Nat) (d : D), ¬ (startS N.length ms ds)[i]? = some (.ow d) := fun i d e => by
    rcases startS_get e l2 with ⟨_, m, d', _, _, e3⟩ | e3
    · split at e3 <;> cases e3
    · cases e3
  have at_ : ∀ (i : Nat) (v : V), vs[i]? = some v → (L2.start N vs)[i]? = some (some v) := fun i v e => by
    unfold L2.start
    have hi : i < vs.length := (List.getElem?_eq_some_iff.mp e).1
    rw [List.getElem?_append_left (by simpa using hi), List.getElem?_map, e]
    rfl
  have g : Same (hideP H B) (pubH B (startS N.length ms ds) (L2.start N vs) H) := hideP_same (Same.refl H) fun a o _ z => z.elim id fun ⟨i, d, z, _⟩ => absurd z (no i d)
  refine ⟨Same.refl H, ?_, hB, fun i d e => absurd e (no i d), fun i j d e a h1 => absurd h1 (no i d), fun i d e => ?_, fun i d e => ?_⟩
  · rw [startS_length l2 hl]
    unfold L2.start
    rw [List.length_append, List.length_map, List.length_replicate, l1]
    omega
  · rcases startS_get e l2 with ⟨_, m, d', e1, e2, e3⟩ | e3
    · obtain ⟨v, h1, h2⟩ := h.get e1 e2
      cases m with
      | false => cases e3
      | true =>
        cases e3
        rcases h2 with h2 | ⟨z, _⟩
        · exact ⟨v, at_ i v h1, h2.mono g⟩
        · cases z
    · cases e3
  · rcases startS_get e l2 with ⟨_, m, d', e1, e2, e3⟩ | e3
    · obtain ⟨v, h1, h2⟩ := h.get e1 e2
      cases m with
      | true => cases e3
      | false =>
        cases e3
        refine ⟨v, at_ i v h1, ?_⟩
        rcases h2 with h2 | ⟨_, h2⟩
        · exact .inl (h2.mono g)
        · exact h2.mono g (fun _ _ _ e => e) fun a hb => ⟨hb, hB a hb⟩
    · cases e3
/-- THE RULE of a def: its body's denotation -/
theorem fn_den {P : Program} {w : World} {mg : Str → Option Value} {base : Heap} {x qual : Str} {st : Stmt} {f : Addr} {fd : FuncData} {N ps : List Str} {k : Nat} {ms : List Bool} {fr : Bool} {g : List S → Out} (F : Fun K x qual st f fd) (Sc : FnScope N ps (defScope st)) (hl : ms.length = ps.length) (hn : ms.length ≤ N.length) (hnf : fr = true → ∀ ds ρ', g (startS N.length ms ds) ≠ .nx ρ')
    (hbody : ∀ (cdv : Value) (A : Around) (outer : List Env) (s : Shared) (H : Hp) (E : XK), Room k (A.deeper (envOfC qual (defScope st) s.heap.objs.size f cdv)) → Takes (cxOf (L2.CX P w) P w K mg base N qual (defScope st) f cdv A outer s H E) (fun cls d _ H => E cls d H) →
      PassesOwn (model P w) (cxOf (L2.CX P w) P w K mg base N qual (defScope st) f cdv A outer s H E).A (cxOf (L2.CX P w) P w K mg base N qual (defScope st) f cdv A outer s H E).env (cxOf (L2.CX P w) P w K mg base N qual (defScope st) f cdv A outer s H E).xe →
      DSs T (fun cls d _ H => E cls d H) fr (cxOf (L2.CX P w) P w K mg base N qual (defScope st) f cdv A outer s H E) (defBody st) g) :
    FnOk P w K mg base (L2.CX P w) (k + 1) f fd ps (spD T K ms fr (denOf N.length ms g)) := by
  refine F.okX Sc (spD.len hl) fun cdv A outer s H vs Q E hr h => ?_
  obtain ⟨B, ds, hB, ha, h⟩ := h
  refine ⟨_, (hbody cdv A outer s H E hr (takes_of rfl rfl rfl rfl) (passes_of (X := cxOf (L2.CX P w) P w K mg base N qual (defScope st) f cdv A outer s H E) rfl)).run, ⟨B, H⟩, startS N.length ms ds, rs_start hB ha hn, ?_⟩
  unfold denOf at h
  cases hg : g (startS N.length ms ds) with
  | nx ρ' =>
    rw [hg] at h
    intro σ' H' r k'
    refine h .non H' r.same ?_
    cases fr with
    | false => exact Rep.non
    | true => exact absurd hg (hnf rfl ds ρ')
  | rt d => rw [hg] at h; exact fun v H' s r => h v H' s r
  | bk ρ' => rw [hg] at h; exact False.elim h
  | ct ρ' => rw [hg] at h; exact False.elim h
  | exc ρ' c fs =>
    rw [hg] at h
    exact fun σ' dO H' r k x => h dO H' r.same (x.mono (hideP_same (Same.refl H') fun _ _ _ z => .inl z) (Same.refl H'))
  | no => rw [hg] at h; exact False.elim h
end
end DL

namespace DL
open PySem PySem.Spec L2
open PyProof.Rows hiding St

/-! ### is True, is False -/
def oIs : D → D → Option D
  | .bl a, .bl b => some (.bl (decide (a = b)))
  | _, _ => none
def oIsNot : D → D → Option D
  | .bl a, .bl b => some (.bl (!decide (a = b)))
  | _, _ => none
section
variable {T : Tbl} {K : PySem.W.Frag}
theorem isb_ok : R2Ok T K .pub (fun x y H Q => ∃ a b, x = .bl a ∧ y = .bl b ∧ Q (.bl (decide (a = b))) H) oIs := by
  intro F ρ σ H x y dx dy d Q px py e k
  match dx, dy, e with
  | .bl a, .bl b, e =>
    cases e
    rw [px.bl, py.bl]
    exact ⟨a, b, rfl, rfl, k _ H (Same.refl H) ⟨px.1, .bl _⟩⟩
theorem isnb_ok : R2Ok T K .pub (fun x y H Q => ∃ a b, x = .bl a ∧ y = .bl b ∧ Q (.bl (!decide (a = b))) H) oIsNot := by
  intro F ρ σ H x y dx dy d Q px py e k
  match dx, dy, e with
  | .bl a, .bl b, e =>
    cases e
    rw [px.bl, py.bl]
    exact ⟨a, b, rfl, rfl, k _ H (Same.refl H) ⟨px.1, .bl _⟩⟩
/-! ### isinstance with a built-in class -/
def tyOf : D → String
  | .non => "NoneType"
  | .bl _ => "bool"
  | .int _ => "int"
  | .str _ => "str"
  | .lst _ => "list"
  | .tup _ => "tuple"
  | .dic _ _ => "dict"
  | .obj _ _ => ""
  | .scr _ => ""
def isiB (t c : String) : Option Bool := if t = "" then none else match c with
  | "int" => some (t == "int" || t == "bool")
  | "bool" => some (t == "bool")
  | "list" => some (t == "list")
  | "tuple" => some (t == "tuple")
  | "str" => some (t == "str")
  | _ => none
theorem kit_b {d : D} {c : String} {b : Bool} (h : isiB (tyOf d) c = some b) : PySem.W.kitOne K (.type (tyOf d)) (.type c) = some b := by
  unfold isiB at h
  split at h
  · cases h
  · split at h
    · cases h; cases d <;> first | rfl | (rename_i n; exact absurd rfl n)
    · cases h; cases d <;> first | rfl | (rename_i n; exact absurd rfl n)
    · cases h; cases d <;> first | rfl | (rename_i n; exact absurd rfl n)
    · cases h; cases d <;> first | rfl | (rename_i n; exact absurd rfl n)
    · cases h; cases d <;> first | rfl | (rename_i n; exact absurd rfl n)
    · cases h
theorem Post.ty {F : Fm} {ρ : List S} {σ : L2.St} {x : V} {d : D} {H : Hp} (h : Post T K .any F ρ σ x d H) (n : tyOf d ≠ "") : TyX K H x (.type (tyOf d)) := by
  cases d with
  | non => rw [h.non]; exact .base .non
  | bl b => rw [h.bl]; exact .base (.bl b)
  | int i => rw [h.int]; exact .base (.int i)
  | str i => rw [h.str]; exact .base (.str i)
  | lst ds => obtain ⟨a, vs, rfl, e, _⟩ := h.lst; exact .base (.lst e)
  | tup ds => obtain ⟨a, vs, rfl, e, _⟩ := h.tup; exact .base (.tup e)
  | dic ks ds =>
    obtain ⟨a, vs, rfl, e, _⟩ := h.dic
    rcases e with e | ⟨o, e⟩
    · exact .base (.dK e)
    · exact .fDict e
  | obj c ds => exact absurd rfl n
  | scr ns => exact absurd rfl n
def oIsi (c : String) (d : D) : Option D := (isiB (tyOf d) c).map .bl
end
section
variable {T : Tbl} {W : WX} {fr : Bool} {X : Cx} {e o a b : Expr} {f fa fb : List S → R D} {fe fk : List S → R D} {m m2 : Md} {pos p p2 apos cpos : Pos} {i : Nat}
theorem de_isi {c : String} {y : Str} (hg : Gl X "isinstance") (hm : X.mg "isinstance" = none) (ha : DE T W m X a fa) (hgc : Gl X y) (hmc : X.mg y = none) (hbc : bootBuiltins y = some (.type c)) (hyn : y ≠ "__name__" := by decide) (hyd : (y == ("__debug__" : Str)) = false := by decide)
    (he : starEach [a, .Name y p2] X.env = (false, eval a X.env) :: starEach [.Name y p2] X.env := by rfl) (hs2 : starEach [.Name y p2] X.env = (false, eval (.Name y p2) X.env) :: starEach [] X.env := by rfl) (hpl : (backTo pos (starEach [.Name y p2] X.env)).any (·.1) = false := by rfl) :
    DE T W .pub X (.Call (.Name "isinstance" p) [a, .Name y p2] [] pos) (op1 (oIsi c) fa) := by
  refine ⟨PE.imp (pe_callB call_isi hg hm (by decide +kernel) (pa_cons ha.any.run (pa_cons (pe_bltn (v := .ty c) hgc hmc hbc rfl hyn hyd) pa_nil hs2) he) (by decide) (by decide) he hpl) fun σ H Q ⟨F, ρ, rs, q⟩ => ⟨F, ρ, rs, q.bind.imp fun d q1 v H1 s1 p1 => ?_⟩⟩
  obtain ⟨d', hd, k⟩ := q1.ofO
  unfold oIsi at hd
  rw [Option.map_eq_some_iff] at hd
  obtain ⟨b, hb, rfl⟩ := hd
  have hn : tyOf d ≠ "" := fun z => by unfold isiB at hb; rw [if_pos z] at hb; cases hb
  exact ⟨v, .ty c, _, _, b, rfl, .ty c, p1.ty hn, kit_b hb, k _ H1 s1 ⟨p1.1, .bl _⟩⟩

/-! ### a list that the frame owns is changed -/
/-- slot i holds an owned list; what becomes of it -/
def lsUpd (i : Nat) (ρ : List S) (k : List D → Option (List D)) : Out := match ρ[i]? with
  | some (.ow (.lst ds)) => match k ds with
    | some ds' => .nx (ρ.set i (.ow (.lst ds')))
    | none => .no
  | _ => .no
theorem upd_own {K : PySem.W.Frag} {F : Fm} {ρ : List S} {σ : L2.St} {H : Hp} {d d' : D} {a : Addr} {u : HO} (r : RS T K F ρ σ H) (hi : ρ[i]? = some (.ow d)) (hs : σ[i]? = some (some (V.ref a))) (w : OwnAt T K (pubH F.B ρ σ H) (upd H a u) a d') :
    RS T K F (ρ.set i (.ow d')) σ (upd H a u) ∧ Keep F ρ σ H (ρ.set i (.ow d')) σ (upd H a u) := by
  obtain ⟨a', e1, e2, e3, e4⟩ := r.own i d hi
  rw [hs] at e1
  cases e1
  have hOwn : ∀ b, Own (ρ.set i (.ow d')) σ b ↔ Own ρ σ b := fun b => ⟨fun ⟨j, z, z1, z2⟩ => by
      rcases get_set z1 with ⟨e, _, _⟩ | ⟨_, z1⟩
      · rw [e] at z2; exact ⟨i, d, hi, z2⟩
      · exact ⟨j, z, z1, z2⟩, fun ⟨j, z, z1, z2⟩ => by
      by_cases hj : j = i
      · subst hj
        exact ⟨j, d', by rw [List.getElem?_set_self (List.getElem?_eq_some_iff.mp hi).1], z2⟩
      · exact ⟨j, z, by rw [List.getElem?_set_ne (Ne.symm hj)]; exact z1, z2⟩⟩
  have hid : Own ρ σ a := ⟨i, d, hi, hs⟩
  have g : Same (pubH F.B ρ σ H) (pubH F.B (ρ.set i (.ow d')) σ (upd H a u)) := fun b o e => by
    obtain ⟨h1, h2⟩ := hideP_some e
    have nb : b ≠ a := fun z => h2 (.inr (by rw [z]; exact hid))
    refine hideP_of (by rw [upd_ne nb]; exact h1) fun z => h2 ?_
    rcases z with z | z
    · exact .inl z
    · exact .inr ((hOwn b).mp z)
  have keepB : ∀ b, F.B b → upd H a u b = H b := fun b hb => upd_ne fun z => e3 (by rw [← z]; exact hb)
  refine ⟨⟨fun b o e => ?_, by rw [List.length_set]; exact r.len, fun b hb => by rw [keepB b hb]; exact r.alloc b hb, fun j z h => ?_, fun j l z z' b h1 h2 h3 h4 => ?_, fun j z h => ?_, fun j z h => ?_⟩, g, keepB⟩
  · rw [upd_ne (ne_of_none e e2)]
    exact r.same b o e
  · rcases get_set h with ⟨e, ez, _⟩ | ⟨nj, h⟩
    · cases ez
      subst e
      exact ⟨a, hs, e2, e3, w.mono g fun o e => e⟩
    · obtain ⟨b, h1, h2, h3, h4⟩ := r.own j z h
      have nb : b ≠ a := fun q => nj (r.inj j i z d a h hi (by rw [h1, q]) hs)
      exact ⟨b, h1, h2, h3, h4.mono g fun o e => by rw [upd_ne nb]; exact e⟩
  · have old : ∀ {j : Nat} {z : D} {b : Addr}, (ρ.set i (S.ow d'))[j]? = some (S.ow z) → ∃ z', ρ[j]? = some (S.ow z') := fun {j z b} h => by
      rcases get_set h with ⟨e, _, _⟩ | ⟨_, h⟩
      · exact ⟨d, by rw [e]; exact hi⟩
      · exact ⟨z, h⟩
    obtain ⟨y, hy⟩ := old (b := b) h1
    obtain ⟨y', hy'⟩ := old (b := b) h2
    exact r.inj j l y y' b hy hy' h3 h4
  · rcases get_set h with ⟨_, ez, _⟩ | ⟨_, h⟩
    · cases ez
    · obtain ⟨v, h1, h2⟩ := r.pub j z h
      exact ⟨v, h1, h2.mono g⟩
  · rcases get_set h with ⟨_, ez, _⟩ | ⟨_, h⟩
    · cases ez
    · obtain ⟨v, h1, h2⟩ := r.bor j z h
      exact ⟨v, h1, h2.mono g (fun b o hb e => by rw [keepB b hb.1]; exact e) fun _ h => h⟩
/-- x.m(..) for a method that changes the list -/
theorem own_at {K : PySem.W.Frag} {F : Fm} {ρ : List S} {σ : L2.St} {H : Hp} {ds : List D} (r : RS T K F ρ σ H) (hi : ρ[i]? = some (.ow (.lst ds))) : ∃ a vs, σ[i]? = some (some (V.ref a)) ∧ H a = some (.lst vs) ∧ Reps T K (pubH F.B ρ σ H) vs ds := by
  obtain ⟨a, h1, _, _, vs, h2, h3⟩ := r.own i _ hi
  exact ⟨a, vs, h1, h2, h3⟩
def sApp (i : Nat) (fe : List S → R D) (ρ : List S) : Out := match ρ[i]? with
  | some (.ow (.lst ds)) => (fe ρ).out ρ fun d => if ds.length < LIM then .nx (ρ.set i (.ow (.lst (ds ++ [d])))) else .no
  | _ => .no
theorem ds_append (ho : PE X o (tVar i)) (he : DE T W .pub X e fe) (hbase : attributeBase o "append" X.env (eval o X.env) = eval o X.env := by rfl)
    (hfew : ((backTo cpos (starEach [e] X.env)).all (fun x => !x.1) && (backToKw cpos (keywordEach [] X.env)).all (fun x => x.1.isSome)
      && decide (([e] : List Expr).length + ([] : List Keyword).length + (if ([] : List Keyword).isEmpty then 0 else 1) < 30)) = true := by rfl)
    (hline : (apos.endLine == cpos.line) = true := by rfl) (hs : starEach [e] X.env = (false, eval e X.env) :: starEach [] X.env := by rfl) (hplain : (backTo cpos (starEach [] X.env)).any (·.1) = false := by rfl)
    (hsw : swapsWith (.Call (.Attribute o "append" apos) [e] [] cpos) none pos.line X.env = pure false := by rfl) :
    DS T W fr X (.Expr (.Call (.Attribute o "append" apos) [e] [] cpos) pos) (sApp i fe) := by
  refine ⟨PS.imp (ps_expr (pe_bm PySem.F.plainAttrs_list PySem.F.slot_list_append PySem.F.type_list_append mt_append ho (pa_cons he.run pa_nil hs) hbase hfew hline hs hplain) hsw) fun D σ H ⟨F, ρ, rs, q⟩ => ?_⟩
  unfold sApp at q
  split at q
  · rename_i ds hi
    obtain ⟨a, vs, h1, h2, h3⟩ := own_at rs hi
    refine ⟨.ref a, h1, .inl ⟨rfl, vs, SqL.of h2⟩, F, ρ, rs, OutP.res rs q fun d q v H' s p => ?_⟩
    split at q
    · rename_i hl
      have h2' := s _ _ h2
      have h3' := h3.mono (pubH_same (B := F.B) (ρ := ρ) (σ := σ) s)
      obtain ⟨r', k'⟩ := upd_own (d' := .lst (ds ++ [d])) p.1 hi h1 ⟨vs ++ [v], upd_same (o := HO.lst (vs ++ [v])), h3'.append (.one p.2)⟩
      exact ⟨a, vs, v, rfl, rfl, h2', by rw [h3.length]; exact lim_lt (Nat.le_of_lt hl), q σ _ r' ((Keep.grow rs s).trans k')⟩
    · exact False.elim q
  · exact False.elim q
def sIns (i : Nat) (fk fe : List S → R D) (ρ : List S) : Out := match ρ[i]? with
  | some (.ow (.lst ds)) => (fk ρ).out ρ fun k => match k with
    | .int n => (fe ρ).out ρ fun d => if ds.length < LIM ∧ 0 ≤ n ∧ n < 2 ^ 62 then .nx (ρ.set i (.ow (.lst (ds.take n.toNat ++ d :: ds.drop n.toNat)))) else .no
    | _ => .no
  | _ => .no
theorem ds_insert (ho : PE X o (tVar i)) (hk : DE T W m X a fk) (he : DE T W .pub X e fe) (hbase : attributeBase o "insert" X.env (eval o X.env) = eval o X.env := by rfl)
    (hfew : ((backTo cpos (starEach [a, e] X.env)).all (fun x => !x.1) && (backToKw cpos (keywordEach [] X.env)).all (fun x => x.1.isSome)
      && decide (([a, e] : List Expr).length + ([] : List Keyword).length + (if ([] : List Keyword).isEmpty then 0 else 1) < 30)) = true := by rfl)
    (hline : (apos.endLine == cpos.line) = true := by rfl) (hs : starEach [a, e] X.env = (false, eval a X.env) :: starEach [e] X.env := by rfl) (hs2 : starEach [e] X.env = (false, eval e X.env) :: starEach [] X.env := by rfl) (hplain : (backTo cpos (starEach [e] X.env)).any (·.1) = false := by rfl)
    (hsw : swapsWith (.Call (.Attribute o "insert" apos) [a, e] [] cpos) none pos.line X.env = pure false := by rfl) :
    DS T W fr X (.Expr (.Call (.Attribute o "insert" apos) [a, e] [] cpos) pos) (sIns i fk fe) := by
  refine ⟨PS.imp (ps_expr (pe_bm PySem.F.plainAttrs_list PySem.F.slot_list_insert PySem.F.type_list_insert mt_insert ho (pa_cons hk.any.run (pa_cons he.run pa_nil hs2) hs) hbase hfew hline hs hplain) hsw) fun D σ H ⟨F, ρ, rs, q⟩ => ?_⟩
  unfold sIns at q
  split at q
  · rename_i ds hi
    obtain ⟨a, vs, h1, h2, h3⟩ := own_at rs hi
    refine ⟨.ref a, h1, .inl ⟨rfl, vs, SqL.of h2⟩, F, ρ, rs, OutP.res rs q fun dk q vk H1 s1 p1 => ?_⟩
    match dk, q, p1 with
    | .int n, q, p1 =>
      refine ⟨F, ρ, p1.1, OutP.res p1.1 (OutP.later q (Keep.grow rs s1)) fun d q v H' s2 p => ?_⟩
      split at q
      · rename_i hl
        have s := s1.trans s2
        have h2' := s _ _ h2
        have h3' := h3.mono (pubH_same (B := F.B) (ρ := ρ) (σ := σ) s)
        obtain ⟨r', k'⟩ := upd_own (d' := .lst (ds.take n.toNat ++ d :: ds.drop n.toNat)) p.1 hi h1 ⟨vs.take n.toNat ++ [v] ++ vs.drop n.toNat, upd_same (o := HO.lst (vs.take n.toNat ++ [v] ++ vs.drop n.toNat)), by
          rw [List.append_assoc]
          exact (h3'.take _).append (.cons p.2 (h3'.drop _))⟩
        rw [p1.int]
        refine ⟨a, vs, n, v, rfl, rfl, h2', by rw [h3.length]; exact lim_lt (Nat.le_of_lt hl.1), hl.2.1, Int.lt_trans hl.2.2 (by decide), ?_⟩
        exact OutP.later q (Keep.grow p1.1 s2) σ _ r' k'
      · exact False.elim q
  · exact False.elim q
/-- x[k] = e, x an owned list -/
def sPut (i : Nat) (fe fk : List S → R D) (ρ : List S) : Out := (fe ρ).out ρ fun d => match ρ[i]? with
  | some (.ow (.lst ds)) => (fk ρ).out ρ fun k => match k with
    | .int n => match ixN ds.length n with
      | some j => .nx (ρ.set i (.ow (.lst (ds.set j d))))
      | none => .no
    | _ => .no
  | _ => .no
theorem ds_put (he : DE T W .pub X e fe) (ho : PE X o (tVar i)) (hk : DE T W m X a fk)
    (ha : ∀ v, assign (.Subscript o a p) X.env v = (do
      let ov ← holding [v] (eval o X.env)
      let iv ← holding [v, ov] (eval a X.env)
      standAt p
      holding [v, ov, iv] (setItem ov iv v)
      release [v, ov, iv] []) := by intro _; rfl)
    (hs : swapsWithSole [.Subscript o a p] e pos.line X.env = pure false := by rfl) (hw : swappedStores [.Subscript o a p] e X.env = pure none := by rfl)
    (h1 : (assignEach [.Subscript o a p] X.env).map (·.2) = [assign (.Subscript o a p) X.env] := by rfl) : DS T W fr X (.Assign [.Subscript o a p] e pos) (sPut i fe fk) := by
  refine ⟨PS.imp (ps_asg he.run (pg_sub ho hk.any.run set_list ha) hs hw h1) fun D σ H ⟨F, ρ, rs, q⟩ => ⟨F, ρ, rs, OutP.res rs q fun d q v H1 s1 p1 => ?_⟩⟩
  split at q
  · rename_i ds hi
    obtain ⟨a, vs, h1, h2, h3⟩ := own_at p1.1 hi
    refine ⟨.ref a, h1, F, ρ, p1.1, OutP.res p1.1 (OutP.later q (Keep.grow rs s1)) fun dk q vk H' s p => ?_⟩
    match dk, q, p with
    | .int n, q, p =>
      dsimp only at q
      split at q
      · rename_i j hj
        have h3' := h3.mono (pubH_same (B := F.B) (ρ := ρ) (σ := σ) s)
        obtain ⟨r', k'⟩ := upd_own (d' := .lst (ds.set j d)) p.1 hi h1 ⟨vs.set j v, upd_same (o := HO.lst (vs.set j v)), h3'.set (p1.grow s).2 j⟩
        rw [p.int]
        exact ⟨a, vs, n, j, rfl, rfl, s _ _ h2, by rw [h3.length]; exact hj, OutP.later q (Keep.grow p1.1 s) σ _ r' k'⟩
      · exact False.elim q
  · exact False.elim q
end
end DL

namespace DL
open PySem PySem.Spec L2
open PyProof.Rows hiding St

/-- the def at f keeps the promise of its denotation -/
def Ok (P : Program) (w : World) (K : PySem.W.Frag) (mg : Str → Option Value) (base : Heap) (T : Tbl) (k : Nat) (f : Addr) (ps : List Str) (ms : List Bool) (fr : Bool) (den : List D → R D) : Prop :=
  ∃ fd, FnOk P w K mg base (L2.CX P w) k f fd ps (spD T K ms fr den) ∧ Binds K fd ps [] ∧ PySem.W.keepIn K (.ref f) = true
section
variable {T : Tbl} {W : WX} {X : Cx} {e o : Expr} {es : List Expr} {fs : List S → R (List D)} {f : List S → R D} {m : Md} {ms : List Bool} {fr : Bool} {pos p apos : Pos} {j k : Nat} {g C : Addr} {fd : FuncData} {ps : List Str} {den : List D → R D} {x mn : Str}
theorem de_callO (hO : Ok X.prog X.w X.K X.mg X.base T j g ps ms fr den) (hr : Room k X.A) (hj : j ≤ k) (tk : Takes X W) (hm : X.mg x = some (.ref g)) (ha : DA T W ms X (e :: es) fs) (hg : Gl X x)
    (hdb : (x == ("__debug__" : Str)) = false := by decide) (he : starEach (e :: es) X.env = (false, eval e X.env) :: starEach es X.env := by rfl) (hpl : (backTo pos (starEach es X.env)).any (·.1) = false := by rfl) :
    DE T W (mdOf fr) X (.Call (.Name x p) (e :: es) [] pos) (dCall den fs) := by
  obtain ⟨fd, F, b, kp⟩ := hO
  exact de_call F (hr.mono hj) tk hg hm kp b ha hdb he hpl
/-- the same with a borrowed frame's or a comprehension's wish: nothing may be raised -/
def noXd (den : List D → R D) (ds : List D) : R D := noX (den ds)
theorem takes00 {X : Cx} : Takes X W0 := takes0

/-! ### methods -/
def tMethSD (C : Addr) (m : Str) (sp : Sp) (E : L2.St → XK) (ta : TE) (t : TA) : TE := fun σ H Q => ta σ H fun x H1 => ∃ a dx fs, x = .ref a ∧ H1 a = some (.ins C dx fs) ∧ fs.lookup m = none ∧
  t σ H1 fun vs H2 => sp (x :: vs) H2 Q (E σ)
variable {sp : Sp} {ta : TE} {t : TA} {E : L2.St → XK}
theorem pe_methSD {pl : Sem Bool} (he : PE X o ta) (c : Cls X.K C) (hm : Meth X.K C mn g) (F : FnOk X.prog X.w X.K X.mg X.base (L2.CX X.prog X.w) k g fd ps sp) (hr : Room k X.A) (hb : Binds X.K fd ps []) (hx : ∀ σ, PassesAt (L2.CX X.prog X.w) X σ (E σ)) (ha : PA X (e :: es) t)
    (hst : starEach (e :: es) X.env = (false, eval e X.env) :: starEach es X.env := by rfl) (hpl : (backTo pos (starEach es X.env)).any (·.1) = false := by rfl)
    (ht : eval (.Call (.Attribute o mn apos) (e :: es) [] pos) X.env = (do
      let ov ← eval o X.env
      standAt apos.atName
      let (f, first) ← holding [ov] (getMethod ov mn pl)
      callWith pos f first (backTo pos (starEach (e :: es) X.env)) (backToKw pos (keywordEach [] X.env))) := by rfl) :
    PE X (.Call (.Attribute o mn apos) (e :: es) [] pos) (tMethSD C mn sp E ta t) := by
  refine ⟨fun pins s σ H Q I h => ?_⟩
  refine PySem.W.methodCall_KW (pl := pl) (thn (he.run pins s σ H _ I h) fun u s1 ⟨x, H1, I1, rx, a, dx, fs, ex, ea, l, q⟩ => ?_) ht
  subst ex
  obtain rfl : u = Value.ref a := rx
  refine getmeth_ok I1 ea c hm l ?_
  refine PySem.W.callWith_K (first := [.ref a]) (h₀ := X.base) I.ok.mod.kin hm.kp (thn (ha.run pos pins s1 σ H1 _ I1 q) fun us s2 ⟨vs, H2, I2, r, q2⟩ => ⟨I2.kIn, ?_⟩) hst hpl
  exact run_fnSD (us := .ref a :: us) (vs := .ref a :: vs) (dvs := []) (ds := []) F hr hb .nil (hx σ) I2 (.cons rfl r) (by rw [List.append_nil]; exact q2)
theorem pe_meth0SD {pl : Sem Bool} (he : PE X o ta) (c : Cls X.K C) (hm : Meth X.K C mn g) (F : FnOk X.prog X.w X.K X.mg X.base (L2.CX X.prog X.w) k g fd ps sp) (hr : Room k X.A) (hb : Binds X.K fd ps []) (hx : ∀ σ, PassesAt (L2.CX X.prog X.w) X σ (E σ))
    (ht : eval (.Call (.Attribute o mn apos) [] [] pos) X.env = (do
      let ov ← eval o X.env
      standAt apos.atName
      let (f, first) ← holding [ov] (getMethod ov mn pl)
      callWith pos f first (backTo pos (starEach [] X.env)) (backToKw pos (keywordEach [] X.env))) := by rfl) :
    PE X (.Call (.Attribute o mn apos) [] [] pos) (tMethSD C mn sp E ta tNil) := by
  refine ⟨fun pins s σ H Q I h => ?_⟩
  refine PySem.W.methodCall_KW (pl := pl) (thn (he.run pins s σ H _ I h) fun u s1 ⟨x, H1, I1, rx, a, dx, fs, ex, ea, l, q⟩ => ?_) ht
  subst ex
  obtain rfl : u = Value.ref a := rx
  refine getmeth_ok I1 ea c hm l ?_
  exact PySem.W.callWith_K0 (first := [.ref a]) I1.kIn hm.kp (run_fnSD (us := [.ref a]) (vs := [.ref a]) (dvs := []) (ds := []) F hr hb .nil (hx σ) I1 (.cons rfl .nil) q)
def isObj (c : Nat) (d : D) : Bool := match d with
  | .obj c' _ => c' == c
  | _ => false
/-- o.m(..): o an instance of the class c, handed on as borrowed -/
def dMeth (c : Nat) (den : List D → R D) (f : List S → R D) (fs : List S → R (List D)) (ρ : List S) : R D := (f ρ).bind fun d => if isObj c d = true then (fs ρ).bind fun ds => den (d :: ds) else .no
theorem obj_of {c : Nat} {d : D} (h : isObj c d = true) : ∃ ds, d = .obj c ds := by
  cases d with
  | obj c' ds => exact ⟨ds, by rw [beq_iff_eq.mp h]⟩
  | _ => cases h
theorem de_methO {c : Nat} {pl : Sem Bool} (hO : Ok X.prog X.w X.K X.mg X.base T j g ps (false :: ms) fr den) (hr : Room k X.A) (hj : j ≤ k) (tk : Takes X W) (he : DE T W m X o f) (cl : Cls X.K (T.cls c)) (hm : Meth X.K (T.cls c) mn g) (hn : mn ∉ T.flds c) (ha : DA T W ms X (e :: es) fs)
    (hst : starEach (e :: es) X.env = (false, eval e X.env) :: starEach es X.env := by rfl) (hpl : (backTo pos (starEach es X.env)).any (·.1) = false := by rfl)
    (ht : eval (.Call (.Attribute o mn apos) (e :: es) [] pos) X.env = (do
      let ov ← eval o X.env
      standAt apos.atName
      let (f, first) ← holding [ov] (getMethod ov mn pl)
      callWith pos f first (backTo pos (starEach (e :: es) X.env)) (backToKw pos (keywordEach [] X.env))) := by rfl) :
    DE T W (mdOf fr) X (.Call (.Attribute o mn apos) (e :: es) [] pos) (dMeth c den f fs) := by
  obtain ⟨fd, F, b, kp⟩ := hO
  refine ⟨PE.imp (pe_methSD (E := WE W) he.any.run cl hm F (hr.mono hj) b (passAt tk) ha.run hst hpl ht) fun σ H Q ⟨F, ρ, rs, q⟩ => ⟨F, ρ, rs, q.bind.imp fun d q1 v H1 s1 p1 => ?_⟩⟩
  split at q1
  · rename_i hd
    obtain ⟨ds, rfl⟩ := obj_of hd
    obtain ⟨a, dx, vs, fs', rfl, h, fo, r⟩ := p1.obj
    refine ⟨a, dx, fs', rfl, h, fo.non mn fun z => hn (List.mem_of_mem_take z), F, ρ, p1.1, (Res.grow q1.bind s1).imp fun es q2 ws H2 s2 r2 p2 => ?_⟩
    exact spD_of (ms := false :: ms) (ds := .obj c ds :: es) r2 ⟨.inr ⟨rfl, (p1.grow s2).2⟩, p2⟩ ((Res.grow (Res.grow q2 s1) s2).imp fun d k v H' s p => k v H' (s1.trans (s2.trans s)) p)
  · exact False.elim q1
theorem de_meth0O {c : Nat} {pl : Sem Bool} (hO : Ok X.prog X.w X.K X.mg X.base T j g ps [false] fr den) (hr : Room k X.A) (hj : j ≤ k) (tk : Takes X W) (he : DE T W m X o f) (cl : Cls X.K (T.cls c)) (hm : Meth X.K (T.cls c) mn g) (hn : mn ∉ T.flds c)
    (ht : eval (.Call (.Attribute o mn apos) [] [] pos) X.env = (do
      let ov ← eval o X.env
      standAt apos.atName
      let (f, first) ← holding [ov] (getMethod ov mn pl)
      callWith pos f first (backTo pos (starEach [] X.env)) (backToKw pos (keywordEach [] X.env))) := by rfl) :
    DE T W (mdOf fr) X (.Call (.Attribute o mn apos) [] [] pos) (dMeth c den f aNil) := by
  obtain ⟨fd, F, b, kp⟩ := hO
  refine ⟨PE.imp (pe_meth0SD (E := WE W) he.any.run cl hm F (hr.mono hj) b (passAt tk) ht) fun σ H Q ⟨F, ρ, rs, q⟩ => ⟨F, ρ, rs, q.bind.imp fun d q1 v H1 s1 p1 => ?_⟩⟩
  split at q1
  · rename_i hd
    obtain ⟨ds, rfl⟩ := obj_of hd
    obtain ⟨a, dx, vs, fs', rfl, h, fo, r⟩ := p1.obj
    refine ⟨a, dx, fs', rfl, h, fo.non mn fun z => hn (List.mem_of_mem_take z), ?_⟩
    have q2 : Res T X.K W F ρ σ H (den [.obj c ds]) fun d => ∀ v H', Same H H' → Post T X.K (mdOf fr) F ρ σ v d H' → Q v H' := q1
    exact spD_of (ms := [false]) (ds := [.obj c ds]) p1.1 ⟨.inr ⟨rfl, p1.2⟩, True.intro⟩ ((Res.grow q2 s1).imp fun d k v H' s p => k v H' (s1.trans s) p)
  · exact False.elim q1

/-! ### C(e, ..) -/
/-- __init__'s promise: the object, new and empty, is the frame's own; it becomes d -/
def spI (T : Tbl) (K : PySem.W.Frag) (c : Nat) (ms : List Bool) (den : List D → R D) : Sp := fun vs H Q E => ∃ B ds ws x dx, vs = .ref x :: ws ∧ (∀ b, B b → H b ≠ none) ∧ H x = some (.ins (T.cls c) dx []) ∧ B x ∧ ArgR T K B H ms ws ds ∧ match den ds with
  | .ok d => ∀ H', (∀ b o, b ≠ x → H b = some o → H' b = some o) → OwnAt T K (hideP H' B) H' x d → Q .non H'
  | .exc c fs => ∀ dO H', (∀ b o, b ≠ x → H b = some o → H' b = some o) → XRep T K (hideP H' B) H' c fs dO → E (.ref (T.cls c)) dO H'
  | .no => False
def OkI (P : Program) (w : World) (K : PySem.W.Frag) (mg : Str → Option Value) (base : Heap) (T : Tbl) (k : Nat) (c : Nat) (f : Addr) (ps : List Str) (ms : List Bool) (den : List D → R D) : Prop :=
  ∃ fd, FnOk P w K mg base (L2.CX P w) k f fd ps (spI T K c ms den) ∧ Binds K fd ps [] ∧ Mk K (T.cls c) f
def tMakeSD (C : Addr) (sp : Sp) (E : L2.St → XK) (t : TA) : TE := fun σ H Q => t σ H fun vs H1 => ∀ x dx, H1 x = none → H1 dx = none → dx ≠ x →
  sp (.ref x :: vs) (upd (upd H1 dx (.own x)) x (.ins C dx [])) (fun v H2 => v = .non ∧ Q (.ref x) H2) (E σ)
theorem run_makeSD {pins : List (Addr × Obj)} {σ : L2.St} {H : Hp} {s : Shared} {Q : VK} {us : List Value} {vs : List V} (M : Mk X.K C g) (F : FnOk X.prog X.w X.K X.mg X.base (L2.CX X.prog X.w) k g fd ps sp) (hr : Room (k + 1) X.A) (hb : Binds X.K fd ps [])
    (hx : ∀ σ, PassesAt (L2.CX X.prog X.w) X σ (E σ)) (I : Inv X pins σ H s) (r : Vals vs us)
    (h : ∀ x dx, H x = none → H dx = none → dx ≠ x → sp (.ref x :: vs) (upd (upd H dx (.own x)) x (.ins C dx [])) (fun v H2 => v = .non ∧ Q (.ref x) H2) (E σ)) :
    wpAny (model X.prog X.w) X.A (call (.ref C) us) (EP X pins σ Q) X.xe s := by
  have hq := h (s.heap.objs.size + 1) s.heap.objs.size (I.hok.fresh (Nat.le_succ _)) (I.hok.fresh (Nat.le_refl _)) (Nat.ne_of_lt (Nat.lt_succ_self _))
  have I2 := Inv.made (C := C) I
  have r2 : Vals (V.ref (s.heap.objs.size + 1) :: vs) (Value.ref (s.heap.objs.size + 1) :: us) := .cons rfl r
  have hl : (Value.ref (s.heap.objs.size + 1) :: us ++ []).length = ps.length := by
    have e := r2.length
    rw [F.len _ _ _ _ hq] at e
    rw [List.append_nil]
    exact e.symm
  have hbb := hb _ (Value.ref (s.heap.objs.size + 1) :: us) I2.kIn hl
  rw [List.append_nil] at hbb
  refine wpAny_call (make_map (f := g) I.kIn M.makes M.init (beq_iff_eq.mp M.fn) (codeAny_mono (F.run _ X.stack _ _ ⟨Value.ref (s.heap.objs.size + 1) :: us, []⟩ (Value.ref (s.heap.objs.size + 1) :: us) _ _ (E σ) (hr.make C us [])
    (I2.env0.make C us []) hbb r2 hq) fun r s' hq' => ?_))
  cases r with
  | error e => exact hx σ pins _ _ e s' I2 hq'
  | ok fl =>
    cases fl with
    | ret u =>
      obtain ⟨v, H', I3, rv, ev, q3⟩ := I2.after hq'
      subst ev
      exact ⟨rv, ⟨V.ref (s.heap.objs.size + 1), H', I3, rfl, q3⟩⟩
    | next => exact False.elim hq'
    | brk => exact False.elim hq'
    | cont => exact False.elim hq'
theorem pe_makeSD (M : Mk X.K C g) (F : FnOk X.prog X.w X.K X.mg X.base (L2.CX X.prog X.w) k g fd ps sp) (hr : Room (k + 1) X.A) (hg : Gl X x) (hm : X.mg x = some (.ref C)) (hb : Binds X.K fd ps []) (hx : ∀ σ, PassesAt (L2.CX X.prog X.w) X σ (E σ))
    (ha : PA X (e :: es) t) (hdb : (x == ("__debug__" : Str)) = false := by decide) (he : starEach (e :: es) X.env = (false, eval e X.env) :: starEach es X.env := by rfl) (hpl : (backTo pos (starEach es X.env)).any (·.1) = false := by rfl) :
    PE X (.Call (.Name x p) (e :: es) [] pos) (tMakeSD C sp E t) := by
  refine ⟨fun pins s σ H Q I h => ?_⟩
  refine wpAny_Call_Name_kw (ld_glob I hg hm ?_ hdb)
  refine PySem.W.callWith_K (h₀ := X.base) I.ok.mod.kin M.kp (thn (ha.run pos pins s σ H _ I h) fun us s1 ⟨vs, H1, I1, r, q⟩ => ⟨I1.kIn, ?_⟩) he hpl
  exact run_makeSD M F hr hb hx I1 r q
theorem ArgR.mono {T : Tbl} {K : PySem.W.Frag} {B B' : Addr → Prop} {H H' : Hp} (g : Same (hideP H B) (hideP H' B')) (e : ∀ a o, B a → H a = some o → H' a = some o) (b : ∀ a, B a → B' a) : ∀ {ms : List Bool} {vs : List V} {ds : List D}, ArgR T K B H ms vs ds → ArgR T K B' H' ms vs ds
  | [], [], [], _ => True.intro
  | m :: ms, v :: vs, d :: ds, h => ⟨h.1.elim (fun z => .inl (z.mono g)) fun ⟨z1, z⟩ => .inr ⟨z1, z.mono g e b⟩, ArgR.mono g e b h.2⟩
  | [], [], _ :: _, h => h.elim
  | [], _ :: _, _, h => h.elim
  | _ :: _, [], _, h => h.elim
  | _ :: _, _ :: _, [], h => h.elim
/-- a new instance, for the frame alone -/
theorem de_makeO {c : Nat} (hO : OkI X.prog X.w X.K X.mg X.base T j c g ps ms den) (hr : Room k X.A) (hj : j + 1 ≤ k) (tk : Takes X W) (hm : X.mg x = some (.ref (T.cls c))) (ha : DA T W ms X (e :: es) fs) (hg : Gl X x)
    (hdb : (x == ("__debug__" : Str)) = false := by decide) (he : starEach (e :: es) X.env = (false, eval e X.env) :: starEach es X.env := by rfl) (hpl : (backTo pos (starEach es X.env)).any (·.1) = false := by rfl) :
    DE T W .frs X (.Call (.Name x p) (e :: es) [] pos) (dCall den fs) := by
  obtain ⟨fd, F, b, M⟩ := hO
  refine ⟨PE.imp (pe_makeSD (E := WE W) M F (hr.mono hj) hg hm b (passAt tk) ha.run hdb he hpl) fun σ H Q ⟨F, ρ, rs, q⟩ => ⟨F, ρ, rs, q.bind.imp fun ds q1 vs H1 s1 r1 p1 => ?_⟩⟩
  intro x dx nx ndx ne
  have nd2 : upd H1 dx (HO.own x) x = none := by rw [upd_ne (Ne.symm ne)]; exact nx
  have s2 : Same H1 (upd (upd H1 dx (.own x)) x (.ins (T.cls c) dx [])) := (upd_new_same ndx).trans (upd_new_same nd2)
  have nh : ¬ Hid F.B ρ σ x := fun z => r1.hid z nx
  have nhd : ¬ Hid F.B ρ σ dx := fun z => r1.hid z ndx
  refine ⟨fun a => Hid F.B ρ σ a ∨ a = x, ds, vs, x, dx, rfl, fun a ha => ?_, upd_same, .inr rfl, ?_, ?_⟩
  · rcases ha with ha | ha
    · intro z; exact r1.hid ha (s2.free z)
    · rw [ha, upd_same]; exact fun z => nomatch z
  · refine (p1.arg).mono (hideP_same s2 fun a o e z => ?_) (fun a o _ e => s2 a o e) fun a z => .inl z
    rcases z with z | z
    · exact z
    · subst z; rw [nx] at e; cases e
  · have back : ∀ H', (∀ b o, b ≠ x → upd (upd H1 dx (.own x)) x (.ins (T.cls c) dx []) b = some o → H' b = some o) → Same H1 H' := fun H' h b o e => h b o (ne_of_none e nx) (s2 b o e)
    cases hd : den ds with
    | ok d =>
      rw [hd] at q1
      intro H' kp w
      refine ⟨rfl, q1 _ H' (s1.trans (back H' kp)) ⟨x, rfl, r1.same.free nx, nh, r1.hide2 nx (back H' kp) (fun z => by obtain ⟨o, ho⟩ := w.there; rw [ho] at z; cases z), w.mono (hideP_same (Same.refl H') fun a o _ z => ?_) fun o e => e⟩⟩
      rcases z with (z | z) | z
      · exact .inl (.inl z)
      · exact .inr z
      · exact .inl (.inr z)
    | exc c2 fs2 =>
      rw [hd] at q1
      intro dO H' kp xr
      exact q1 dO H' (s1.trans (back H' kp)) (rs.grow (s1.trans (back H' kp))) (xr.mono (hideP_same (Same.refl H') fun a o _ z => .inl z) (Same.refl H'))
    | no => rw [hd] at q1; exact False.elim q1

/-! ### properties -/
def dProp (c : Nat) (den : List D → R D) (f : List S → R D) (ρ : List S) : R D := (f ρ).bind fun d => if isObj c d = true then noX (den [d]) else .no
theorem de_propO {c : Nat} {pa : Addr} (hO : Ok X.prog X.w X.K X.mg X.base T j g ps [false] false den) (hr : Room k X.A) (hj : j + 1 ≤ k) (he : DE T W m X e f) (cl : Cls X.K (T.cls c)) (hp : PropOf X.K (T.cls c) x pa g) (hab : attributeBase e x X.env (eval e X.env) = eval e X.env := by rfl) :
    DE T W .pub X (.Attribute e x pos) (dProp c den f) := by
  obtain ⟨fd, F, b, kp⟩ := hO
  refine ⟨PE.imp (pe_prop (E := E0) he.any.run cl hp F (hr.mono hj) b .nil passL hab) fun σ H Q ⟨F, ρ, rs, q⟩ => ⟨F, ρ, rs, q.bind.imp fun d q1 v H1 s1 p1 => ?_⟩⟩
  split at q1
  · rename_i hd
    obtain ⟨ds, rfl⟩ := obj_of hd
    obtain ⟨a, dx, vs, fs', rfl, h, fo, r⟩ := p1.obj
    obtain ⟨d', hd', q2⟩ := noX_some q1
    refine ⟨a, dx, fs', rfl, h, Hid F.B ρ σ, [.obj c ds], fun b hb => p1.1.hid hb, ⟨.inr ⟨rfl, p1.2⟩, True.intro⟩, ?_⟩
    rw [hd']
    exact fun v H' s rr => q2 v H' (s1.trans s) ⟨p1.1.grow s, rr⟩
  · exact False.elim q1

/-! ### str of an int -/
def oStr : D → Option D
  | .int i => if i.natAbs.log2 < 1920 then some (.str (toString i)) else none
  | _ => none
theorem str_ok {K : PySem.W.Frag} : R1Ok T K .pub (fun v H Q => ∃ i, [v] = [V.int i] ∧ i.natAbs.log2 < 1920 ∧ Q (.str (toString i)) H) oStr := by
  intro F ρ σ H x dx d Q px e k
  match dx, e with
  | .int a, e =>
    rw [oStr] at e
    split at e
    · rename_i hl
      cases e
      rw [px.int]
      exact ⟨a, rfl, hl, k _ H (Same.refl H) ⟨px.1, .str _⟩⟩
    · cases e
end

/-! ### a def, over FunD -/
section
variable {T : Tbl} {K : PySem.W.Frag} {P : Program} {w : World} {mg : Str → Option Value} {base : Heap} {x qual : Str} {params : Arguments} {body : List Stmt} {scope : Scope} {f : Addr} {fd : FuncData} {N ps : List Str} {k : Nat} {ms : List Bool} {fr : Bool} {g : List S → Out}
/-- the context of a def's body -/
abbrev cxD (P : Program) (w : World) (K : PySem.W.Frag) (mg : Str → Option Value) (base : Heap) (N : List Str) (qual : Str) (scope : Scope) (f : Addr) (cdv : Value) (A : Around) (outer : List Env) (s : Shared) (H : Hp) (E : XK) : Cx := cxOf (L2.CX P w) P w K mg base N qual scope f cdv A outer s H E
abbrev WD (E : XK) : WX := fun cls d _ H => E cls d H
theorem takesD {cdv : Value} {A : Around} {outer : List Env} {s : Shared} {H : Hp} {E : XK} : Takes (cxD P w K mg base N qual scope f cdv A outer s H E) (WD E) := takes_of rfl rfl rfl rfl
theorem passesD {cdv : Value} {A : Around} {outer : List Env} {s : Shared} {H : Hp} {E : XK} : PassesOwn (model P w) (cxD P w K mg base N qual scope f cdv A outer s H E).A (cxD P w K mg base N qual scope f cdv A outer s H E).env (cxD P w K mg base N qual scope f cdv A outer s H E).xe := passes_of (X := cxD P w K mg base N qual scope f cdv A outer s H E) rfl
theorem fnOkD (F : FunD K x qual params body scope [] [] f fd) (Sc : FnScope N ps scope) (hl : ms.length = ps.length) (hn : ms.length ≤ N.length) (hnf : fr = true → ∀ ds ρ', g (startS N.length ms ds) ≠ .nx ρ')
    (hbody : ∀ (cdv : Value) (A : Around) (outer : List Env) (s : Shared) (H : Hp) (E : XK), Room k (A.deeper (envOfC qual scope s.heap.objs.size f cdv)) → DSs T (WD E) fr (cxD P w K mg base N qual scope f cdv A outer s H E) body g) :
    FnOk P w K mg base (L2.CX P w) (k + 1) f fd ps (spD T K ms fr (denOf N.length ms g)) := by
  refine F.ok Sc (spD.len hl) fun cdv A outer s H vs Q E hr h => ?_
  obtain ⟨B, ds, hB, ha, h⟩ := h
  refine ⟨_, (hbody cdv A outer s H E hr).run, ⟨B, H⟩, startS N.length ms ds, rs_start hB ha hn, ?_⟩
  unfold denOf at h
  cases hg : g (startS N.length ms ds) with
  | nx ρ' =>
    rw [hg] at h
    intro σ' H' r k'
    refine h .non H' r.same ?_
    cases fr with
    | false => exact Rep.non
    | true => exact absurd hg (hnf rfl ds ρ')
  | rt d => rw [hg] at h; exact fun v H' s r => h v H' s r
  | bk ρ' => rw [hg] at h; exact False.elim h
  | ct ρ' => rw [hg] at h; exact False.elim h
  | exc ρ' c fs =>
    rw [hg] at h
    exact fun σ' dO H' r k x => h dO H' r.same (x.mono (hideP_same (Same.refl H') fun _ _ _ z => .inl z) (Same.refl H'))
  | no => rw [hg] at h; exact False.elim h
theorem okD (hF : ∃ fd, FunD K x qual params body scope [] [] f fd) (Sc : FnScope N ps scope) (hl : ms.length = ps.length) (hn : ms.length ≤ N.length) (hnf : fr = true → ∀ ds ρ', g (startS N.length ms ds) ≠ .nx ρ')
    (hbd : ∀ (kV doc pm : Value) (an : Option Addr) (cdv ct : Value) (us : List Value), us.length = ps.length → bindArgs (PySem.W.fnOf x qual params body scope .none kV doc pm an cdv ct) ⟨us, []⟩ = pure (ps.zip us))
    (hbody : ∀ (cdv : Value) (A : Around) (outer : List Env) (s : Shared) (H : Hp) (E : XK), Room k (A.deeper (envOfC qual scope s.heap.objs.size f cdv)) → DSs T (WD E) fr (cxD P w K mg base N qual scope f cdv A outer s H E) body g) :
    Ok P w K mg base T (k + 1) f ps ms fr (denOf N.length ms g) := by
  obtain ⟨fd, F⟩ := hF
  exact ⟨fd, fnOkD F Sc hl hn hnf hbody, F.bindsN hbd, F.kp⟩
end
end DL

namespace DL
open PySem PySem.Spec L2
open PyProof.Rows hiding St
section
variable {T : Tbl} {W : WX} {fr : Bool} {X : Cx} {e o a b : Expr} {f fa fb fe : List S → R D} {m m2 : Md} {pos p p2 apos cpos : Pos} {i j : Nat}
/-! ### a, b = e1, e2 of two local names -/
def sPar (i j : Nat) (fa fb : List S → R D) (ρ : List S) : Out := (fa ρ).out ρ fun x => (fb ρ).out ρ fun y => .nx ((ρ.set i (.pu x)).set j (.pu y))
theorem ds_par {x y : Str} {px py pt : Pos} {kt k2 : Nat} {pt2 : Pos} (hc : X.calm = true) (hN : X.N.Nodup) (hi : X.N[i]? = some x) (hj : X.N[j]? = some y) (hij : i ≠ j)
    (hx : X.env.scope.names.lookup x = some .local) (hy : X.env.scope.names.lookup y = some .local) (ha : DE T W .pub X a fa) (hb : DE T W .pub X b fb)
    (hw : swappedStores [.Tuple [.Name x px, .Name y py] kt pt] (.Tuple [a, b] k2 pt2) X.env = pure (some [x, y]))
    (hs : swapsWithSole [.Tuple [.Name x px, .Name y py] kt pt] (.Tuple [a, b] k2 pt2) pos.line X.env = pure false := by rfl) (hs1 : starEach [a, b] X.env = (false, eval a X.env) :: starEach [b] X.env := by rfl) (hs2 : starEach [b] X.env = (false, eval b X.env) :: starEach [] X.env := by rfl) :
    DS T W fr X (.Assign [.Tuple [.Name x px, .Name y py] kt pt] (.Tuple [a, b] k2 pt2) pos) (sPar i j fa fb) := by
  refine ⟨PS.imp (ps_par hc hN hi hj hij hx hy (pa_cons ha.run (pa_cons hb.run pa_nil hs2) hs1) hw hs) fun D σ H ⟨F, ρ, rs, q⟩ => ⟨F, ρ, rs, OutP.res rs q fun d q v H1 s1 p1 => ⟨F, ρ, p1.1, OutP.res p1.1 (OutP.later q (Keep.grow rs s1)) fun d2 q2 v2 H2 s2 p2 => ⟨v, v2, rfl, ?_⟩⟩⟩⟩
  have r1 := (p1.grow s2).1.setPub (i := i) (p1.grow s2).2
  have r2 := r1.setPub (i := j) (v := v2) (d := d2) (p2.2.mono (set_same fun _ z => by cases z))
  exact q2 _ H2 r2 ((Keep.grow p1.1 s2).trans ((Keep.set fun _ z => by cases z).trans (Keep.set fun _ z => by cases z)))
/-! ### x += e, x -= e of ints -/
def sAug (g : Int → Int → Int) (i : Nat) (fe : List S → R D) (ρ : List S) : Out := match ρ[i]? with
  | some (.pu (.int a)) => (fe ρ).out ρ fun d => match d with
    | .int b => .nx (ρ.set i (.pu (.int (g a b))))
    | _ => .no
  | _ => .no
theorem ds_aug {x : Str} {px : Pos} {op : Operator} {g : Int → Int → Int} (hN : X.N.Nodup) (hi : X.N[i]? = some x) (hx : Loc X.env.scope x) (he : DE T W m X e fe) (hop : PIp X op (ipI g))
    (hf : X.fn x = true ∨ X.env.scope.names.lookup x = some .local := by first | exact .inl rfl | exact .inr rfl) : DS T W fr X (.AugAssign (.Name x px) op e pos) (sAug g i fe) := by
  refine ⟨PS.imp (ps_aug hN hi hx he.any.run hop hf) fun D σ H ⟨F, ρ, rs, q⟩ => ?_⟩
  unfold sAug at q
  split at q
  · rename_i a hi
    obtain ⟨v, h1, h2⟩ := rs.pub i _ hi
    cases h2
    refine ⟨_, h1, F, ρ, rs, OutP.res rs q fun d q w H1 s1 p1 => ?_⟩
    match d, q, p1 with
    | .int b, q, p1 =>
      rw [p1.int]
      exact ⟨a, b, rfl, rfl, q _ H1 (p1.1.setPub (.int _)) ((Keep.grow rs s1).trans (Keep.set fun _ z => by cases z))⟩
  · exact False.elim q
end
end DL

namespace DL
open PySem PySem.Spec L2
open PyProof.Rows hiding St

/-! ### what the top leaves -/
/-- a def behind the top: where it stands, what it is -/
structure DefZ where
  ad : PySem.W.Frag → Addr
  name : Str
  qual : Str
  params : Arguments
  body : List Stmt
  scope : Scope
def DefZ.val (d : DefZ) : He.FnW := some (d.name, d.qual, d.params, .stmts d.body, d.scope, mainGlobals, [], builtinsNs)
def fnZ (K : PySem.W.Frag) (a : Addr) : He.FnW := match K.lookup a with
  | some ⟨_, _, .func fd, _⟩ => some (fd.name, fd.qualname, fd.params, fd.body, fd.scope, fd.globals, fd.closure, fd.builtins)
  | _ => none
def DefZ.ok (K : PySem.W.Frag) (d : DefZ) : Bool := PySem.W.keepIn K (.ref (d.ad K)) && (match K.lookup (d.ad K) with
  | some ⟨_, _, .func fd, _⟩ => PySem.W.codeIn K fd.code d.qual && (He.dflB K fd.defaults [] && He.kwdB K fd.kwdefaults [])
  | _ => false)
theorem DefZ.funD {K : PySem.W.Frag} {d : DefZ} (e : fnZ K (d.ad K) = d.val) (c : d.ok K = true) : ∃ fd, FunD K d.name d.qual d.params d.body d.scope [] [] (d.ad K) fd := by
  obtain ⟨kp, c2⟩ := He.ba c
  unfold fnZ at e
  cases q : K.lookup (d.ad K) with
  | none => rw [q] at c2; cases c2
  | some o =>
    obtain ⟨oc, od, dt, osl⟩ := o
    rw [q] at c2 e
    cases dt with
    | func fd =>
      obtain ⟨n1, n2, n3, n4, n5, n6, n7, n8, n9, n10, n11, n12, n13, n14, n15⟩ := fd
      have e2 : (some (n1, n2, n3, n4, n5, n6, n7, n15) : He.FnW) = some (d.name, d.qual, d.params, .stmts d.body, d.scope, mainGlobals, [], builtinsNs) := e
      simp only [Option.some.injEq, Prod.mk.injEq] at e2
      obtain ⟨h1, h2, h3, h4, h5, h6, h7, h8⟩ := e2
      subst h1 h2 h3 h4 h5 h6 h7 h8
      have c3 : (PySem.W.codeIn K n13 d.qual && (He.dflB K n8 [] && He.kwdB K n9 [])) = true := c2
      obtain ⟨k1, k2⟩ := He.ba c3
      obtain ⟨k3, k4⟩ := He.ba k2
      exact ⟨_, ⟨oc, od, n8, n9, n10, n11, n12, n13, n14, osl, rfl, q, k1, He.dflB_ok k3, He.kwdB_ok k4⟩, kp⟩
    | _ => cases c2
def obsZ (fa : List He.Fa) (ex : PySem.W.Frag → Bool) (fn : List DefZ) (K : PySem.W.Frag) : He.AlD := ((fa.all fun f => f.ok K) && (ex K && fn.all fun d => d.ok K), fn.map fun d => fnZ K (d.ad K))
def valZ (fn : List DefZ) : He.AlD := (true, fn.map DefZ.val)
def SaysZ (fa : List He.Fa) (ex : PySem.W.Frag → Bool) (fn : List DefZ) (K : PySem.W.Frag) : Prop := obsZ fa ex fn K = valZ fn
def obsZG (n : Nat) (fa : List He.Fa) (ex : PySem.W.Frag → Bool) (fn : List DefZ) (g : Addr → Option Obj) : He.AlD := obsZ fa ex fn (He.frG g (He.asD g n))
def hookZ (n : Nat) (fa : List He.Fa) (ex : PySem.W.Frag → Bool) (fn : List DefZ) : PySem.W.Hook where
  α := He.AlD
  obs := fun s => obsZG n fa ex fn s.heap.get?
  val := fun _ => valZ fn
  says := fun _ h => ∃ K : PySem.W.Frag, K.In h ∧ SaysZ fa ex fn K
  of := fun _ _ e => ⟨_, He.frG_in, e⟩
  keeps := fun _ _ _ ⟨K, hK, c⟩ k => ⟨K, PySem.W.Frag.In.keeps hK k, c⟩
theorem obsZG_eq {n : Nat} {fa : List He.Fa} {ex : PySem.W.Frag → Bool} {fn : List DefZ} {g : Addr → Option Obj} {s : Shared} (h : ∀ a, g a = s.heap.get? a) : obsZG n fa ex fn g = (hookZ n fa ex fn).obs s := by
  have e : g = s.heap.get? := funext h
  rw [e] <;> rfl
section
variable {fa : List He.Fa} {ex : PySem.W.Frag → Bool} {fn : List DefZ} {K : PySem.W.Frag}
theorem SaysZ.fact (c : SaysZ fa ex fn K) (i : Nat) {f : He.Fa} (h : fa[i]? = some f := by rfl) : f.ok K = true := by
  have c1 := (He.ba (show ((fa.all fun f => f.ok K) && (ex K && fn.all fun d => d.ok K)) = true from congrArg (fun z : He.AlD => z.1) c)).1
  exact List.all_eq_true.mp c1 f (List.mem_of_getElem? h)
theorem SaysZ.more (c : SaysZ fa ex fn K) : ex K = true :=
  (He.ba (He.ba (show ((fa.all fun f => f.ok K) && (ex K && fn.all fun d => d.ok K)) = true from congrArg (fun z : He.AlD => z.1) c)).2).1
theorem SaysZ.def_ (c : SaysZ fa ex fn K) (i : Nat) {d : DefZ} (h : fn[i]? = some d := by rfl) : ∃ fd, FunD K d.name d.qual d.params d.body d.scope [] [] (d.ad K) fd := by
  have c2 := (He.ba (He.ba (show ((fa.all fun f => f.ok K) && (ex K && fn.all fun d => d.ok K)) = true from congrArg (fun z : He.AlD => z.1) c)).2).2
  have e : fn.map (fun d => fnZ K (d.ad K)) = fn.map DefZ.val := congrArg (fun z : He.AlD => z.2) c
  have e2 : (fn.map fun d => fnZ K (d.ad K))[i]? = (fn.map DefZ.val)[i]? := by rw [e]
  rw [List.getElem?_map, List.getElem?_map, h] at e2
  exact DefZ.funD (Option.some.inj e2) (List.all_eq_true.mp c2 d (List.mem_of_getElem? h))
end

/-! ### a body that does not run off its end -/
def NoNx (f : List S → Out) : Prop := ∀ ρ ρ', f ρ ≠ .nx ρ'
theorem noNx_seq {f g : List S → Out} (h : NoNx g) : NoNx (sSeq f g) := fun ρ ρ' e => by
  unfold sSeq at e
  cases hf : f ρ with
  | nx ρ1 => rw [hf] at e; exact h ρ1 ρ' e
  | _ => rw [hf] at e; cases e
theorem noNx_frz {i : Nat} {g : List S → Out} (h : NoNx g) : NoNx (sFrz i g) := fun ρ ρ' e => h (frz i ρ) ρ' e
theorem noNx_out {α : Type} {r : R α} {ρ ρ' : List S} {k : α → Out} (h : ∀ a, k a ≠ .nx ρ') : r.out ρ k ≠ .nx ρ' := by
  cases r with
  | ok a => exact h a
  | _ => exact fun e => nomatch e
theorem noNx_ret {fe : List S → R D} : NoNx (sRet fe) := fun ρ ρ' => noNx_out fun _ e => nomatch e
theorem noNx_retO {i : Nat} : NoNx (sRetO i) := fun ρ ρ' e => by
  unfold sRetO at e
  split at e <;> cases e
theorem noNx_retN : NoNx sRetN := fun ρ ρ' e => nomatch e
theorem noNx_no : NoNx sNo := fun ρ ρ' e => nomatch e
theorem noNx_if {t : List S → R Bool} {f g : List S → Out} (h1 : NoNx f) (h2 : NoNx g) : NoNx (sIf t f g) := fun ρ ρ' => noNx_out fun b => by
  cases b
  · exact h2 ρ ρ'
  · exact h1 ρ ρ'

theorem units65 {k : Nat} {A : Around} (r : Room k A) : A.units + 65 < cLine := by have := r.un; omega
/-! ### the law's end -/
theorem law_sp {T : Tbl} {K : PySem.W.Frag} {den : List D → R D} {n : Nat} (h : ∀ ns : List Int, ns.length ≤ n → den [.scr ns] = .ok (.bl true)) (H : Hp) (a : Addr) (ns : List Int) (hl : ns.length ≤ n) (hS : SqL K H a (ns.map V.int)) :
    spD T K [true] false den [.ref a] H (fun v _ => v = .bl true) fun _ _ _ => False := by
  have g : Same H (hideP H fun _ => False) := fun b o e => hideP_of e id
  refine ⟨fun _ => False, [.scr ns], fun _ z => z.elim, ⟨.inl (.scr (g.seq hS)), True.intro⟩, ?_⟩
  rw [h ns hl]
  intro v H' _ r
  have r : Rep T K (hideP H' fun _ => False) v (.bl true) := r
  cases r
  rfl
theorem law_cx {P : Program} {w : World} (H : Hp) (s : Shared) (e : Value) (s' : Shared) (h : L2.CX P w [] H s (fun _ _ _ => False) e s') : False := by
  obtain ⟨_, _, _, _, _, _, _, _, _, _, _, _, z⟩ := h
  exact z
/-- the law's def -/
theorem okLaw {P : Program} {w : World} {K : PySem.W.Frag} {mg : Str → Option Value} {base : Heap} {x y qual : Str} {params : Arguments} {body : List Stmt} {scope : Scope} {f : Addr} {T : Tbl} {N : List Str} {k : Nat} {g : List S → Out} {fd : FuncData} (F : FunD K x qual params body scope [] [] f fd) (Sc : FnScope N [y] scope) (hn : 1 ≤ N.length)
    (hbody : ∀ (cdv : Value) (A : Around) (outer : List Env) (s : Shared) (H : Hp) (E : XK), Room k (A.deeper (envOfC qual scope s.heap.objs.size f cdv)) → DSs T (WD E) false (cxD P w K mg base N qual scope f cdv A outer s H E) body g) :
    FnOk P w K mg base (L2.CX P w) (k + 1) f fd [y] (spD T K [true] false (denOf N.length [true] g)) := fnOkD F Sc rfl hn (fun e => nomatch e) hbody
theorem walk_dl {l : PySem.W.OpenLaw} {q : Program} {loose : List Str} {XP : (Str → Option Value) → Heap → Prop} {YP : World → Heap → Prop} {d : DefRec} {k : Nat} {x : Str} {den : List D → R D}
    (hn : l.most = some 63) (hdf : d.params.defaults = []) (hr : Room k callerA) (hden : ∀ ns : List Int, ns.length ≤ 63 → den [.scr ns] = .ok (.bl true))
    (F : ∀ (w : World) (mg : Str → Option Value) (fa : Addr) (h : Heap), YP w h → h.Ns mainGlobals mg → mg d.name = some (.ref fa) →
      ∃ (K : PySem.W.Frag) (fd : FuncData) (T : Tbl), K.In h ∧ (∀ (s : Shared) (u : Value), BindsTo s fd ⟨[u], []⟩ [(x, u)]) ∧
        ∀ base : Heap, K.In base → base.Ns mainGlobals mg → FnOk l.prog w K mg base (L2.CX l.prog w) k fa fd [x] (spD T K [true] false den)) :
    PySem.W.WalkO q loose XP YP l.row.toRowW d [] (fun f vs => PySem.call f vs) := by
  refine Att.attach_call hn hdf fun w s₀ s₁ mg mb fa o pm cd doc a vs ns G Y ho hd hcd hmg hobj hints hlen hg => ?_
  obtain ⟨K, fd, T, KX, hb, hF⟩ := F w mg fa _ Y G.T.g hmg
  exact law_call KX G.T.g G.T.b G.T.builtins G.T.nolimit hg hobj hints (Nat.le_trans hlen (by decide)) hr hF hb (fun H hO hS => law_sp hden H a ns hlen hS) fun H e s' => law_cx H s₁ e s'
end DL

namespace DL
open PySem PySem.Spec L2
open PyProof.Rows hiding St

/-! ### running a denotation -/
/-- a proof by rfl that simp is not to take for one -/
theorem nrfl {α : Type} {a b : α} (h : a = b) : a = b := h
def Out.then (o : Out) (g : List S → Out) : Out := match o with
  | .nx ρ' => g ρ'
  | .rt d => .rt d
  | .bk ρ' => .bk ρ'
  | .ct ρ' => .ct ρ'
  | .exc ρ' c fs => .exc ρ' c fs
  | .no => .no
def Out.ofO : Option (List S) → Out
  | some ρ => .nx ρ
  | none => .no
def Out.den : Out → R D
  | .nx _ => .ok .non
  | .rt d => .ok d
  | .exc _ c fs => .exc c fs
  | _ => .no
section
variable {α β : Type} {f g : List S → Out} {fa fb fe fk : List S → R D} {ρ ρ' : List S} {d x y : D} {a : α}
theorem e_bind (k : α → R β) : R.bind (.ok a) k = k a := nrfl rfl
theorem e_out (k : α → Out) : R.out (.ok a) ρ k = k a := nrfl rfl
theorem e_then_nx : Out.then (.nx ρ') g = g ρ' := nrfl rfl
theorem e_then_rt : Out.then (.rt d) g = .rt d := nrfl rfl
theorem e_ofO_some {a : α} : DL.ofO (some a) = .ok a := nrfl rfl
theorem e_OofO : Out.ofO (some ρ) = .nx ρ := nrfl rfl
theorem e_seq : sSeq f g ρ = (f ρ).then g := nrfl rfl
theorem e_nil : sNil ρ = .nx ρ := nrfl rfl
theorem e_asg {gg : D → List S → Option (List S)} : sAsg fe gg ρ = (fe ρ).out ρ fun d => Out.ofO (gg d ρ) := by
  unfold sAsg Out.ofO
  rfl
theorem e_own {i : Nat} : sOwn i fe ρ = (fe (bAll ρ)).out ρ fun d => .nx (ρ.set i (.ow d)) := nrfl rfl
theorem e_par {i j : Nat} : sPar i j fa fb ρ = (fa ρ).out ρ fun x => (fb ρ).out ρ fun y => .nx ((ρ.set i (.pu x)).set j (.pu y)) := nrfl rfl
theorem e_if {t : List S → R Bool} : sIf t f g ρ = (t ρ).out ρ fun b => if b = true then f ρ else g ρ := nrfl rfl
theorem e_ret : sRet fe ρ = (fe ρ).out ρ fun d => .rt d := nrfl rfl
theorem e_retN : sRetN ρ = .rt .non := nrfl rfl
theorem e_exp : sExp fe ρ = (fe ρ).out ρ fun _ => .nx ρ := nrfl rfl
theorem e_frz {i : Nat} : sFrz i g ρ = g (frz i ρ) := nrfl rfl
theorem e_for {fi : List S → R (List D)} {gg : D → List S → Option (List S)} : sFor fi gg f ρ = (fi ρ).out ρ fun ds => forL gg f ds ρ := nrfl rfl
theorem e_gN {i : Nat} : gN i d ρ = some (ρ.set i (.pu d)) := nrfl rfl
theorem e_op1 {o : D → Option D} : op1 o fa ρ = (fa ρ).bind fun x => DL.ofO (o x) := nrfl rfl
theorem e_op2 {o : D → D → Option D} : op2 o fa fb ρ = (fa ρ).bind fun x => (fb ρ).bind fun y => DL.ofO (o x y) := nrfl rfl
theorem e_cD : cD d ρ = .ok d := nrfl rfl
theorem e_aNil : aNil ρ = .ok [] := nrfl rfl
theorem e_aCons {fs : List S → R (List D)} : aCons fa fs ρ = (fa ρ).bind fun d => (fs ρ).bind fun ds => .ok (d :: ds) := nrfl rfl
theorem e_call {den : List D → R D} {fs : List S → R (List D)} : dCall den fs ρ = (fs ρ).bind den := nrfl rfl
theorem e_lst {fs : List S → R (List D)} : dLst fs ρ = (fs ρ).bind fun ds => DL.ofO (oLst ds) := nrfl rfl
theorem p_lst {ds : List D} (h : ds.length ≤ LIM) : oLst ds = some (.lst ds) := if_pos h
theorem p_tup {ds : List D} (h : ds.length ≤ LIM) : oTup ds = some (.tup ds) := if_pos h
theorem e_tup {fs : List S → R (List D)} : dTup fs ρ = (fs ρ).bind fun ds => DL.ofO (oTup ds) := nrfl rfl
theorem e_tB : tB fe ρ = (fe ρ).bind fun d => match d with | .bl b => .ok b | _ => .no := nrfl rfl
theorem e_tTr : tTr fe ρ = (fe ρ).bind fun d => DL.ofO (truD d) := nrfl rfl
theorem e_tAnd {p q : List S → R Bool} : tAnd p q ρ = (p ρ).bind fun b => if b = true then q ρ else .ok false := nrfl rfl
theorem e_tOr {p q : List S → R Bool} : tOr p q ρ = (p ρ).bind fun b => if b = true then .ok true else q ρ := nrfl rfl
theorem e_tNot {p : List S → R Bool} : tNot p ρ = (p ρ).bind fun b => .ok (!b) := nrfl rfl
theorem e_sNone : sNone ρ = .ok none := nrfl rfl
theorem e_sSome : sSome fe ρ = (fe ρ).bind fun d => match d with | .int i => .ok (some i) | _ => .no := nrfl rfl
theorem e_iLst : iLst fe ρ = (fe ρ).bind fun d => match d with | .lst ds => .ok ds | .scr ns => .ok (ns.map .int) | _ => .no := nrfl rfl
theorem e_iRg1 : iRg1 fe ρ = (fe ρ).bind fun d => DL.ofO (oRg1 d) := nrfl rfl
theorem e_iRg2 : iRg2 fa fb ρ = (fa ρ).bind fun d => (fb ρ).bind fun d' => DL.ofO (oRg2 d d') := nrfl rfl
theorem u_vPub {i : Nat} : vPub i ρ = match ρ[i]? with | some (.pu d) => .ok d | _ => .no := nrfl rfl
theorem u_vAny {i : Nat} : vAny i ρ = match ρ[i]? with | some (.pu d) => .ok d | some (.bo d) => .ok d | some (.ow d) => .ok d | _ => .no := nrfl rfl
theorem u_vBor {i : Nat} : vBor i ρ = match ρ[i]? with | some (.pu d) => .ok d | some (.bo d) => .ok d | _ => .no := nrfl rfl
theorem u_retO {i : Nat} : sRetO i ρ = match ρ[i]? with | some (.ow d) => .rt d | _ => .no := nrfl rfl
theorem u_app {i : Nat} : sApp i fe ρ = match ρ[i]? with | some (.ow (.lst ds)) => (fe ρ).out ρ fun d => if ds.length < LIM then .nx (ρ.set i (.ow (.lst (ds ++ [d])))) else .no | _ => .no := nrfl rfl
theorem u_put {i : Nat} : sPut i fe fk ρ = (fe ρ).out ρ fun d => match ρ[i]? with | some (.ow (.lst ds)) => (fk ρ).out ρ fun k => (match k with | .int n => (match ixN ds.length n with | some j => .nx (ρ.set i (.ow (.lst (ds.set j d)))) | none => .no) | _ => .no) | _ => .no := nrfl rfl
theorem u_frz {i : Nat} : frz i ρ = match ρ[i]? with | some (.ow d) => ρ.set i (.pu d) | _ => ρ := nrfl rfl
theorem e_vPub {i : Nat} (h : ρ[i]? = some (.pu d)) : vPub i ρ = .ok d := by unfold vPub; rw [h]
theorem e_vAnyP {i : Nat} (h : ρ[i]? = some (.pu d)) : vAny i ρ = .ok d := by unfold vAny; rw [h]
theorem e_vAnyO {i : Nat} (h : ρ[i]? = some (.ow d)) : vAny i ρ = .ok d := by unfold vAny; rw [h]
theorem e_vAnyB {i : Nat} (h : ρ[i]? = some (.bo d)) : vAny i ρ = .ok d := by unfold vAny; rw [h]
theorem e_vBorP {i : Nat} (h : ρ[i]? = some (.pu d)) : vBor i ρ = .ok d := by unfold vBor; rw [h]
theorem e_vBorB {i : Nat} (h : ρ[i]? = some (.bo d)) : vBor i ρ = .ok d := by unfold vBor; rw [h]
theorem e_retO {i : Nat} (h : ρ[i]? = some (.ow d)) : sRetO i ρ = .rt d := by unfold sRetO; rw [h]
theorem e_app {i : Nat} {ds : List D} (h : ρ[i]? = some (.ow (.lst ds))) : sApp i fe ρ = (fe ρ).out ρ fun d => if ds.length < LIM then .nx (ρ.set i (.ow (.lst (ds ++ [d])))) else .no := by unfold sApp; rw [h]
theorem e_frzO {i : Nat} (h : ρ[i]? = some (.ow d)) : frz i ρ = ρ.set i (.pu d) := by unfold frz; rw [h]
theorem e_denOf {n : Nat} {ms : List Bool} {ds : List D} : denOf n ms f ds = (f (startS n ms ds)).den := by
  unfold denOf
  cases f (startS n ms ds) <;> rfl
theorem e_den_rt : Out.den (.rt d) = .ok d := nrfl rfl
theorem e_den_nx : Out.den (.nx ρ) = .ok .non := nrfl rfl
/-- one statement, then the rest -/
theorem seq_nx (h : f ρ = .nx ρ') : sSeq f g ρ = g ρ' := by unfold sSeq; rw [h]
theorem seq_rt (h : f ρ = .rt d) : sSeq f g ρ = .rt d := by unfold sSeq; rw [h]
/-! ### comparisons -/
theorem shp_int {i : Int} : shp (.int i) = some (.int i) := by
  unfold shp toPy
  rfl
theorem shp_bl {b : Bool} : shp (.bl b) = some (.bool b) := by
  unfold shp toPy
  rfl
theorem eq_int {i j : Int} : oEq (.int i) (.int j) = some (.bl (decide (i = j))) := by
  unfold oEq eqO
  rw [shp_int, shp_int]
  show some (D.bl (PyData.eqv (.int i) (.int j))) = _
  rw [PyData.eqv]
  rfl
theorem ne_int {i j : Int} : oNe (.int i) (.int j) = some (.bl (!decide (i = j))) := by
  unfold oNe eqO
  rw [shp_int, shp_int]
  show some (D.bl (!PyData.eqv (.int i) (.int j))) = _
  rw [PyData.eqv]
  rfl
theorem eq_bl {i j : Bool} : oEq (.bl i) (.bl j) = some (.bl (decide (i = j))) := by
  unfold oEq eqO
  rw [shp_bl, shp_bl]
  show some (D.bl (PyData.eqv (.bool i) (.bool j))) = _
  rw [PyData.eqv]
  cases i <;> cases j <;> rfl
theorem ne_bl {i j : Bool} : oNe (.bl i) (.bl j) = some (.bl (!decide (i = j))) := by
  unfold oNe eqO
  rw [shp_bl, shp_bl]
  show some (D.bl (!PyData.eqv (.bool i) (.bool j))) = _
  rw [PyData.eqv]
  cases i <;> cases j <;> rfl
end

/-! ### loops -/
theorem forL_inv {g : D → List S → Option (List S)} {body : List S → Out} (I : Nat → List S → Prop) : ∀ {ds : List D} {ρ : List S} (k : Nat), I k ρ → (∀ (i : Nat) (d : D) (ρ : List S), ds[i]? = some d → I (k + i) ρ → ∃ ρ1 ρ2, g d ρ = some ρ1 ∧ (body ρ1 = .nx ρ2 ∨ body ρ1 = .ct ρ2) ∧ I (k + i + 1) ρ2) →
    ∃ ρ', forL g body ds ρ = .nx ρ' ∧ I (k + ds.length) ρ'
  | [], ρ, k, h, _ => ⟨ρ, rfl, h⟩
  | d :: ds, ρ, k, h, st => by
    obtain ⟨ρ1, ρ2, h1, h2, h3⟩ := st 0 d ρ rfl h
    obtain ⟨ρ', h4, h5⟩ := forL_inv (g := g) (body := body) I (ds := ds) (ρ := ρ2) (k + 1) h3 fun i d' ρ e hi => by
      have := st (i + 1) d' ρ (by simpa using e) (by rw [show k + (i + 1) = k + 1 + i by omega]; exact hi)
      rw [show k + (i + 1) + 1 = k + 1 + i + 1 by omega] at this
      exact this
    refine ⟨ρ', ?_, ?_⟩
    · rw [forL, h1]
      rcases h2 with h2 | h2 <;> (simp only [h2]; exact h4)
    · rw [List.length_cons, show k + (ds.length + 1) = k + 1 + ds.length by omega]
      exact h5
theorem forL_nx {g : D → List S → Option (List S)} {body : List S → Out} (I : Nat → List S → Prop) {ds : List D} {ρ : List S} (h0 : I 0 ρ) (st : ∀ (i : Nat) (d : D) (ρ : List S), ds[i]? = some d → I i ρ → ∃ ρ1 ρ2, g d ρ = some ρ1 ∧ body ρ1 = .nx ρ2 ∧ I (i + 1) ρ2) : ∃ ρ', forL g body ds ρ = .nx ρ' ∧ I ds.length ρ' := by
  have := forL_inv (g := g) (body := body) I (ds := ds) (ρ := ρ) 0 h0 fun i d ρ e hi => by
    rw [Nat.zero_add] at hi ⊢
    obtain ⟨ρ1, ρ2, h1, h2, h3⟩ := st i d ρ e hi
    exact ⟨ρ1, ρ2, h1, .inl h2, h3⟩
  rwa [Nat.zero_add] at this
/-! ### comprehensions -/
theorem lcGo_opt {f : D → R (Option D)} {o : D → Option D} : ∀ {ds : List D}, (∀ d ∈ ds, f d = .ok (o d)) → lcGo f ds = .ok (ds.filterMap o)
  | [], _ => rfl
  | d :: ds, h => by
    rw [lcGo, h d (List.mem_cons_self ..), e_bind, lcGo_opt fun d hd => h d (List.mem_cons_of_mem _ hd), e_bind, List.filterMap_cons]
    cases o d <;> rfl
theorem lcGo_map {α : Type} {f : D → R (Option D)} {e : α → D} {h : α → D} {xs : List α} (hf : ∀ x ∈ xs, f (e x) = .ok (some (h x))) : lcGo f (xs.map e) = .ok (xs.map h) := by
  induction xs with
  | nil => rfl
  | cons x xs ih =>
    rw [List.map_cons, lcGo, hf x (List.mem_cons_self ..), e_bind, ih fun y hy => hf y (List.mem_cons_of_mem _ hy), e_bind]
    rfl
theorem lcGo_fil {α : Type} {f : D → R (Option D)} {e : α → D} {p : α → Bool} {h : α → D} {xs : List α} (hf : ∀ x ∈ xs, f (e x) = .ok (if p x = true then some (h x) else none)) : lcGo f (xs.map e) = .ok ((xs.filter p).map h) := by
  induction xs with
  | nil => rfl
  | cons x xs ih =>
    rw [List.map_cons, lcGo, hf x (List.mem_cons_self ..), e_bind, ih fun y hy => hf y (List.mem_cons_of_mem _ hy), e_bind, List.filter_cons]
    cases p x <;> rfl
theorem lc_eq {fi : List S → R (List D)} {g : D → List S → Option (List S)} {ft : List S → R Bool} {fe : List S → R D} {is : List Nat} {ρ : List S} {ds r : List D} (h1 : fi (bAll ρ) = .ok ds) (h2 : ds.length ≤ LIM) (h3 : lcGo (lcStep g ft fe (wipeS (bAll ρ) is)) ds = .ok r) : dLc fi g ft fe is ρ = .ok (.lst r) := by
  unfold dLc
  rw [h1]
  show (if ds.length ≤ LIM then _ else _) = _
  rw [if_pos h2, h3]
  rfl
theorem lcStep_eq {g : D → List S → Option (List S)} {ft : List S → R Bool} {fe : List S → R D} {ρ ρ' : List S} {d y : D} {b : Bool} (h1 : g d ρ = some ρ') (h2 : ft ρ' = .ok b) (h3 : b = true → fe ρ' = .ok y) : lcStep g ft fe ρ d = .ok (if b = true then some y else none) := by
  unfold lcStep
  rw [h1]
  show (noX (ft ρ')).bind _ = _
  rw [h2]
  show (if b = true then _ else _) = _
  cases b with
  | false => rfl
  | true => rw [if_pos rfl, h3 rfl]; rfl
end DL
namespace DL
open PySem PySem.Spec L2
/-! ### rows of ints -/
abbrev dints (ns : List Int) : List D := ns.map D.int
theorem atI_nn {α : Type} {xs : List α} {k : Int} (h0 : 0 ≤ k) (h1 : k < xs.length) : atI xs k = some (xs[k.toNat]'(by omega)) := by
  unfold atI ixN
  rw [if_pos h0, if_pos h1]
  show xs[k.toNat]? = _
  rw [List.getElem?_eq_getElem]
theorem idx_ints {ns : List Int} {k : Int} (h0 : 0 ≤ k) (h1 : k < ns.length) : oIdx (.lst (dints ns)) (.int k) = some (.int (ns.getD k.toNat 0)) := by
  show atI (dints ns) k = _
  have h2 : k < (dints ns).length := by rw [List.length_map]; exact h1
  rw [atI_nn h0 h2]
  have h3 : k.toNat < ns.length := by omega
  simp [List.getD, List.getElem?_eq_getElem h3]
theorem idx_scr {ns : List Int} {k : Int} (h0 : 0 ≤ k) (h1 : k < ns.length) : oIdx (.scr ns) (.int k) = some (.int (ns.getD k.toNat 0)) := by
  show (atI ns k).map D.int = _
  rw [atI_nn h0 h1]
  have h3 : k.toNat < ns.length := by omega
  simp [List.getD, List.getElem?_eq_getElem h3]
theorem mod_pos {i j : Int} (h : 0 < j) : oMod (.int i) (.int j) = some (.int (i % j)) := by
  show (if j ≠ 0 then some (D.int (i.fmod j)) else none) = _
  rw [if_pos (by omega), Int.fmod_eq_emod_of_nonneg _ (by omega)]
theorem fdiv_pos {i j : Int} (h : 0 < j) (h2 : j < 1073741824) : oFdiv (.int i) (.int j) = some (.int (i / j)) := by
  show (if CDivN i j then some (D.int (i.fdiv j)) else none) = _
  rw [if_pos ⟨by omega, by omega⟩, Int.fdiv_eq_ediv_of_nonneg _ (by omega)]
theorem mul_l {i j : Int} (h : -(2 ^ 64) < i) (h2 : i < 2 ^ 64) : oMul (.int i) (.int j) = some (.int (i * j)) := by
  show (if CMul i j then some (D.int (i * j)) else none) = _
  rw [if_pos (.inl ⟨h, h2⟩)]
theorem mul_r {i j : Int} (h : -(2 ^ 64) < j) (h2 : j < 2 ^ 64) : oMul (.int i) (.int j) = some (.int (i * j)) := by
  show (if CMul i j then some (D.int (i * j)) else none) = _
  rw [if_pos (.inr ⟨h, h2⟩)]
theorem pow_s {i j : Int} (h : 0 ≤ j) (h2 : j ≤ 1000000) (h3 : i.natAbs < 2 ^ 64) : oPow (.int i) (.int j) = some (.int (i ^ j.toNat)) := by
  show (if CPow i j then some (D.int (i ^ j.toNat)) else none) = _
  rw [if_pos ⟨h, h2, h3⟩]
theorem rgL_get {lo : Int} {n i : Nat} {d : D} (h : (rgL lo n)[i]? = some d) : i < n ∧ d = .int (lo + i) := by
  unfold rgL at h
  rw [List.getElem?_map, Option.map_eq_some_iff] at h
  obtain ⟨k, hk, rfl⟩ := h
  have hi : i < n := by
    have := (List.getElem?_eq_some_iff.mp hk).1
    rwa [List.length_range] at this
  rw [List.getElem?_range hi] at hk
  cases hk
  exact ⟨hi, rfl⟩
theorem rgL_length {lo : Int} {n : Nat} : (rgL lo n).length = n := by unfold rgL; rw [List.length_map, List.length_range]
theorem rOk_of {i : Int} (h : -(2 ^ 62) ≤ i) (h2 : i < 2 ^ 62) : rOk i = true := by
  unfold rOk
  rw [decide_eq_true h, decide_eq_true h2]
  rfl
end DL
namespace DL
open PySem PySem.Spec L2
/-! ### primitives on data -/
section
variable {i j : Int} {a b : List D} {p q : Bool} {ns : List Int}
theorem p_add : oAdd (.int i) (.int j) = some (.int (i + j)) := nrfl rfl
theorem p_addL (h : a.length + b.length ≤ LIM) : oAdd (.lst a) (.lst b) = some (.lst (a ++ b)) := if_pos h
theorem p_cat (h : a.length + b.length ≤ LIM) : oCat (.lst a) (.lst b) = some (.lst (a ++ b)) := if_pos h
theorem p_sub : oSub (.int i) (.int j) = some (.int (i - j)) := nrfl rfl
theorem p_lt : oLt (.int i) (.int j) = some (.bl (decide (i < j))) := nrfl rfl
theorem p_le : oLe (.int i) (.int j) = some (.bl (decide (i ≤ j))) := nrfl rfl
theorem p_gt : oGt (.int i) (.int j) = some (.bl (decide (j < i))) := nrfl rfl
theorem p_ge : oGe (.int i) (.int j) = some (.bl (decide (j ≤ i))) := nrfl rfl
theorem p_eq : oEq (.int i) (.int j) = some (.bl (decide (i = j))) := eq_int
theorem p_ne : oNe (.int i) (.int j) = some (.bl (!decide (i = j))) := ne_int
theorem p_eqb : oEq (.bl p) (.bl q) = some (.bl (decide (p = q))) := eq_bl
theorem p_neb : oNe (.bl p) (.bl q) = some (.bl (!decide (p = q))) := ne_bl
theorem p_neg : oNeg (.int i) = some (.int (-i)) := nrfl rfl
theorem p_not : oNot (.bl p) = some (.bl !p) := nrfl rfl
theorem p_lenL : oLen (.lst a) = some (.int a.length) := nrfl rfl
theorem p_lenT : oLen (.tup a) = some (.int a.length) := nrfl rfl
theorem p_lenS : oLen (.scr ns) = some (.int ns.length) := nrfl rfl
theorem p_abs : oAbs (.int i) = some (.int (if i < 0 then -i else i)) := nrfl rfl
theorem p_intI : oInt (.int i) = some (.int i) := nrfl rfl
theorem p_intB : oInt (.bl p) = some (.int (if p then 1 else 0)) := nrfl rfl
theorem p_listL : oList (.lst a) = some (.lst a) := nrfl rfl
theorem p_listT : oList (.tup a) = some (.lst a) := nrfl rfl
theorem p_tuple : oTuple (.lst a) = some (.tup a) := nrfl rfl
theorem p_max2 : oMax2 (.int i) (.int j) = some (.int (if j > i then j else i)) := nrfl rfl
theorem p_min2 : oMin2 (.int i) (.int j) = some (.int (if j < i then j else i)) := nrfl rfl
theorem p_truB : truD (.bl p) = some p := nrfl rfl
theorem p_truI : truD (.int i) = some (i != 0) := nrfl rfl
theorem p_truL : truD (.lst a) = some (!a.isEmpty) := nrfl rfl
theorem p_isB : oIs (.bl p) (.bl q) = some (.bl (decide (p = q))) := nrfl rfl
theorem p_isNB : oIsNot (.bl p) (.bl q) = some (.bl (!decide (p = q))) := nrfl rfl
theorem p_sum : oSum (.lst (dints ns)) = some (.int ns.sum) := by
  show (intsOf (ns.map D.int)).map _ = _
  rw [intsOf_ints]
  rfl
end
theorem p_rg1 {j : Int} (h : -(2 ^ 62) ≤ j) (h2 : j < 2 ^ 62) : oRg1 (.int j) = some (rgL 0 j.toNat) := by
  show (if rOk j = true then some (rgL 0 j.toNat) else none) = _
  rw [if_pos (rOk_of h h2)]
theorem p_rg2 {i j : Int} (h : -(2 ^ 62) ≤ i) (h2 : i < 2 ^ 62) (h3 : -(2 ^ 62) ≤ j) (h4 : j < 2 ^ 62) : oRg2 (.int i) (.int j) = some (rgL i (j - i).toNat) := by
  show (if (rOk i && rOk j) = true then some (rgL i (j - i).toNat) else none) = _
  rw [if_pos (by rw [rOk_of h h2, rOk_of h3 h4]; rfl)]
/-! ### promises over outcomes -/
structure Runs (o : Out) (post : D → Prop) : Prop where
  den : ∃ d, o.den = .ok d ∧ post d
structure NxP (o : Out) (P : List S → Prop) : Prop where
  ex : ∃ ρ', o = .nx ρ' ∧ P ρ'
section
variable {o : Out} {P : List S → Prop} {g : List S → Out} {post post' : D → Prop} {c : Prop} [Decidable c] {a b : Out} {d : D} {ρ : List S}
theorem Runs.ok {n : Nat} {ms : List Bool} {ds : List D} {f : List S → Out} (h : Runs (f (startS n ms ds)) post) : ∃ d, denOf n ms f ds = .ok d ∧ post d := by
  rw [e_denOf]
  exact h.den
theorem Runs.eq {n : Nat} {ms : List Bool} {ds : List D} {f : List S → Out} {d : D} (h : Runs (f (startS n ms ds)) fun x => x = d) : denOf n ms f ds = .ok d := by
  obtain ⟨x, h1, rfl⟩ := h.ok
  exact h1
theorem runs_then (h : NxP o P) (k : ∀ ρ', P ρ' → Runs (g ρ') post) : Runs (o.then g) post := by
  obtain ⟨ρ', rfl, p⟩ := h.ex
  exact k ρ' p
theorem nx_then {P' : List S → Prop} (h : NxP o P) (k : ∀ ρ', P ρ' → NxP (g ρ') P') : NxP (o.then g) P' := by
  obtain ⟨ρ', rfl, p⟩ := h.ex
  exact k ρ' p
theorem runs_rt (h : post d) : Runs (.rt d) post := ⟨d, rfl, h⟩
theorem runs_nx (h : post .non) : Runs (.nx ρ) post := ⟨_, rfl, h⟩
theorem nx_nx (h : P ρ) : NxP (.nx ρ) P := ⟨⟨ρ, rfl, h⟩⟩
theorem runs_ite (h1 : c → Runs (a.then g) post) (h2 : ¬c → Runs (b.then g) post) : Runs ((if c then a else b).then g) post := by
  by_cases h : c
  · rw [if_pos h]; exact h1 h
  · rw [if_neg h]; exact h2 h
theorem nx_ite {Q : List S → Prop} (h1 : c → NxP a Q) (h2 : ¬c → NxP b Q) : NxP (if c then a else b) Q := by
  by_cases h : c
  · rw [if_pos h]; exact h1 h
  · rw [if_neg h]; exact h2 h
/-- a loop that runs through -/
theorem nx_for {gg : D → List S → Option (List S)} {body : List S → Out} (I : Nat → List S → Prop) {ds : List D} {ρ : List S} (h0 : I 0 ρ) (st : ∀ (i : Nat) (d : D) (ρ : List S), ds[i]? = some d → I i ρ → ∃ ρ1, gg d ρ = some ρ1 ∧ NxP (body ρ1) (I (i + 1))) : NxP (forL gg body ds ρ) (I ds.length) :=
  ⟨forL_nx I h0 fun i d ρ e hi => by
    obtain ⟨ρ1, h1, h⟩ := st i d ρ e hi
    obtain ⟨ρ2, h2, h3⟩ := h.ex
    exact ⟨ρ1, ρ2, h1, h2, h3⟩⟩
/-- a loop that may return -/
theorem runs_for {gg : D → List S → Option (List S)} {body : List S → Out} (I : Nat → List S → Prop) : ∀ {ds : List D} {ρ : List S} (k : Nat), I k ρ → (∀ (i : Nat) (d : D) (ρ : List S), ds[i]? = some d → I (k + i) ρ → ∃ ρ1, gg d ρ = some ρ1 ∧ (NxP (body ρ1) (I (k + i + 1)) ∨ ∃ x, body ρ1 = .rt x ∧ post x)) →
    (∀ ρ', I (k + ds.length) ρ' → Runs (g ρ') post) → Runs ((forL gg body ds ρ).then g) post
  | [], ρ, k, h, _, e => e ρ h
  | d :: ds, ρ, k, h, st, e => by
    obtain ⟨ρ1, h1, h2⟩ := st 0 d ρ rfl h
    rw [forL, h1]
    dsimp only
    rcases h2 with ⟨ρ2, h2, h3⟩ | ⟨x, h2, h3⟩
    · rw [h2]
      refine runs_for (gg := gg) (body := body) I (ds := ds) (ρ := ρ2) (k + 1) h3 (fun i d' ρ e hi => ?_) fun ρ' hp => e ρ' (by rw [List.length_cons, show k + (ds.length + 1) = k + 1 + ds.length by omega]; exact hp)
      have := st (i + 1) d' ρ (by simpa using e) (by rw [show k + (i + 1) = k + 1 + i by omega]; exact hi)
      rw [show k + (i + 1) + 1 = k + 1 + i + 1 by omega] at this
      exact this
    · rw [h2]
      exact runs_rt h3
end
end DL
namespace DL
theorem getD_lt {l : List Int} {i : Nat} (h : i < l.length) : l.getD i 0 = l[i] := by simp [List.getD, List.getElem?_eq_getElem h]
theorem getD_mem {l : List Int} {i : Nat} (h : i < l.length) : l.getD i 0 ∈ l := by rw [getD_lt h]; exact List.getElem_mem h
theorem getD_app_lt {l m : List Int} {i : Nat} (h : i < l.length) : (l ++ m).getD i 0 = l.getD i 0 := by
  simp [List.getD, List.getElem?_append_left h]
theorem getD_app_eq {l : List Int} {v : Int} {i : Nat} (h : i = l.length) : (l ++ [v]).getD i 0 = v := by
  subst h
  simp [List.getD]
theorem dints_app (l : List Int) (v : Int) : dints l ++ [.int v] = dints (l ++ [v]) := by simp [dints]
theorem dints_length (l : List Int) : (dints l).length = l.length := by simp [dints]
end DL
namespace DL
open PySem PySem.Spec L2
/-! ### slices, texts -/
def oSl : D → Option Int → Option Int → Option D
  | .lst ds, lo, hi => some (.lst (cutD ds lo hi))
  | _, _, _ => none
theorem e_sl {f : List S → R D} {l h : List S → R (Option Int)} {ρ : List S} : dSl f l h ρ = (f ρ).bind fun d => (l ρ).bind fun lo => (h ρ).bind fun hi => DL.ofO (oSl d lo hi) := by
  unfold dSl
  congr 1
  funext d
  congr 1
  funext lo
  congr 1
  funext hi
  cases d <;> rfl
theorem p_sl {ds : List D} {lo hi : Option Int} : oSl (.lst ds) lo hi = some (.lst (cutD ds lo hi)) := nrfl rfl
theorem sIx_nn {n d : Nat} {k : Int} (h : 0 ≤ k) : HT.sIx n d (some k) = min k.toNat n := by
  obtain ⟨m, rfl⟩ : ∃ m : Nat, k = (m : Int) := ⟨k.toNat, by omega⟩
  rw [HT.sIx_nat]
  simp
theorem cut_dints {ns : List Int} {a b : Int} (h0 : 0 ≤ a) (h1 : a ≤ b) (h2 : b ≤ ns.length) : cutD (dints ns) (some a) (some b) = dints ((ns.drop a.toNat).take (b.toNat - a.toNat)) := by
  unfold cutD
  rw [sIx_nn h0, sIx_nn (by omega), dints_length, Nat.min_eq_left (by omega), Nat.min_eq_left (by omega), ← List.map_drop, ← List.map_take]
/-- the text of an int that is not negative: its signs -/
theorem str_len {z : Str} : z.length = z.cps.toList.length := by
  show z.cps.size = _
  simp
theorem p_str {i : Int} (h : i.natAbs < 10 ^ 30) : oStr (.int i) = some (.str (toString i)) := by
  show (if i.natAbs.log2 < 1920 then some (D.str (toString i)) else none) = _
  rw [if_pos]
  by_cases h0 : i.natAbs = 0
  · rw [h0]
    decide
  · have : i.natAbs.log2 < 100 := (Nat.log2_lt h0).mpr (Nat.lt_of_lt_of_le h (by decide))
    omega
theorem str_num {i : Int} (h : 0 ≤ i) : (Str.ofString (toString i)).cps.toList = TL.numL i.natAbs := by
  obtain ⟨m, rfl⟩ : ∃ m : Nat, i = (m : Int) := ⟨i.toNat, by omega⟩
  exact TL.tl_num m
theorem idx_str {z : Str} {k : Int} (h0 : 0 ≤ k) (h1 : k < z.cps.toList.length) (h2 : z.cps.toList.length ≤ LIM) : oIdx (.str z) (.int k) = some (.str ⟨#[z.cps.toList.getD k.toNat 0]⟩) := by
  show (if z.length ≤ LIM then (atI z.cps.toList k).map (fun c => D.str ⟨#[c]⟩) else none) = _
  rw [if_pos (by rw [str_len]; exact h2), atI_nn h0 h1]
  have h3 : k.toNat < z.cps.toList.length := by omega
  simp [List.getD, List.getElem?_eq_getElem h3]
theorem shp_str {z : Str} (h : PyData.strOk z = true) : shp (.str z) = some (.str z) := by
  unfold shp toPy
  show (if SeqAt.shaped (PyData.str z) = true then some (PyData.str z) else none) = _
  rw [if_pos]
  show (PyData.canLay0 (.str z) && decide (PyData.depth (.str z) ≤ 64)) = true
  rw [PyData.canLay0, PyData.depth, h]
  rfl
theorem ne_chr {c d : Nat} (hc : c < 1114112) (hd : d < 1114112) : oNe (.str ⟨#[c]⟩) (.str ⟨#[d]⟩) = some (.bl (!decide (c = d))) := by
  have ok : ∀ c : Nat, c < 1114112 → PyData.strOk ⟨#[c]⟩ = true := fun c h => by
    show (#[c].all (· < 0x110000)) = true
    simp [h]
  unfold oNe eqO
  rw [shp_str (ok c hc), shp_str (ok d hd)]
  show some (D.bl (!PyData.eqv (.str ⟨#[c]⟩) (.str ⟨#[d]⟩))) = _
  rw [PyData.eqv]
  congr 3
  by_cases h : c = d
  · subst h; simp
  · rw [decide_eq_false h]
    exact beq_eq_false_iff_ne.mpr (fun e => h (by injection e with e; simpa using e))
theorem p_lenStr {z : Str} (h : z.cps.toList.length ≤ LIM) : oLen (.str z) = some (.int z.cps.toList.length) := by
  show (if z.length ≤ LIM then some (D.int z.length) else none) = _
  rw [if_pos (by rw [str_len]; exact h), str_len]
end DL
namespace DL
theorem dints_set (l : List Int) (j : Nat) (v : Int) : (dints l).set j (.int v) = dints (l.set j v) := by simp [dints, List.map_set]
theorem e_isi {c : String} {d : D} : oIsi c d = (isiB (tyOf d) c).map .bl := nrfl rfl
theorem p_isiBB {b : Bool} : oIsi "bool" (.bl b) = some (.bl true) := nrfl rfl
theorem p_isiII {i : Int} : oIsi "int" (.int i) = some (.bl true) := nrfl rfl
theorem p_isiBI {i : Int} : oIsi "bool" (.int i) = some (.bl false) := nrfl rfl
theorem p_isiIB {b : Bool} : oIsi "int" (.bl b) = some (.bl true) := nrfl rfl
theorem p_isiLL {a : List D} : oIsi "list" (.lst a) = some (.bl true) := nrfl rfl
theorem p_isiLT {a : List D} : oIsi "list" (.tup a) = some (.bl false) := nrfl rfl
theorem p_isiTL {a : List D} : oIsi "tuple" (.lst a) = some (.bl false) := nrfl rfl
theorem p_isiTT {a : List D} : oIsi "tuple" (.tup a) = some (.bl true) := nrfl rfl
theorem p_isiLI {i : Int} : oIsi "list" (.int i) = some (.bl false) := nrfl rfl
theorem p_isiTI {i : Int} : oIsi "tuple" (.int i) = some (.bl false) := nrfl rfl
theorem p_isiSI {i : Int} : oIsi "str" (.int i) = some (.bl false) := nrfl rfl
theorem p_isiSL {a : List D} : oIsi "str" (.lst a) = some (.bl false) := nrfl rfl
theorem p_isiST {a : List D} : oIsi "str" (.tup a) = some (.bl false) := nrfl rfl
theorem p_isiSS {z : PySem.Str} : oIsi "str" (.str z) = some (.bl true) := nrfl rfl
theorem p_isiLS {z : PySem.Str} : oIsi "list" (.str z) = some (.bl false) := nrfl rfl
theorem p_isiTS {z : PySem.Str} : oIsi "tuple" (.str z) = some (.bl false) := nrfl rfl
end DL
namespace DL
def boolK (d : D) (x y : R D) : R D := match d with
  | .bl b => if b = true then x else y
  | _ => .no
theorem p_boolK {b : Bool} {x y : R D} : boolK (.bl b) x y = if b = true then x else y := nrfl rfl
theorem e_eAnd {f g : List S → R D} {ρ : List S} : eAnd f g ρ = (f ρ).bind fun d => boolK d (g ρ) (.ok (.bl false)) := by
  unfold eAnd
  congr 1
  funext d
  cases d with
  | bl b => cases b <;> rfl
  | _ => rfl
theorem e_eOr {f g : List S → R D} {ρ : List S} : eOr f g ρ = (f ρ).bind fun d => boolK d (.ok (.bl true)) (g ρ) := by
  unfold eOr
  congr 1
  funext d
  cases d with
  | bl b => cases b <;> rfl
  | _ => rfl
theorem pow_le {n m : Nat} (h : n ≤ m) : (10 : Int) ^ n ≤ 10 ^ m := by
  have := Nat.pow_le_pow_right (n := 10) (by omega) h
  exact_mod_cast this
end DL
namespace DL
/-- behind a turn -/
def loopK (o : Out) (k : List S → Out) : Out := match o with
  | .nx ρ => k ρ
  | .ct ρ => k ρ
  | .bk ρ => .nx ρ
  | .rt d => .rt d
  | .exc ρ c fs => .exc ρ c fs
  | .no => .no
section
variable {gg : D → List S → Option (List S)} {body k : List S → Out} {d : D} {ds : List D} {ρ : List S}
theorem e_forN : forL gg body [] ρ = .nx ρ := nrfl rfl
theorem e_forC : forL gg body (d :: ds) ρ = (Out.ofO (gg d ρ)).then fun ρ1 => loopK (body ρ1) (forL gg body ds) := by
  rw [forL]
  cases gg d ρ with
  | none => rfl
  | some ρ1 =>
    show (match body ρ1 with | .nx ρ2 => forL gg body ds ρ2 | .ct ρ2 => forL gg body ds ρ2 | .bk ρ2 => .nx ρ2 | .rt d => .rt d | .exc ρ2 c fs => .exc ρ2 c fs | .no => .no) = loopK (body ρ1) (forL gg body ds)
    cases body ρ1 <;> rfl
theorem e_loop_nx : loopK (.nx ρ) k = k ρ := nrfl rfl
theorem e_loop_rt : loopK (.rt d) k = .rt d := nrfl rfl
end
end DL

namespace LW
open PySem PySem.Spec L2 DL
open PyProof.Rows hiding St
def g_law_draws : List S → Out := sSeq (sAsg (cD (.int (0))) (gN 2)) (sSeq (sIf (tB (op2 oGt (op1 oLen (vAny 0)) (cD (.int (0))))) (sAsg (op1 oAbs (op1 oInt (op2 oIdx (vAny 0) (cD (.int (0)))))) (gN 2)) (sNil)) (sSeq (sAsg (op2 oGe (vPub 2) (op2 oPow (cD (.int (10))) (cD (.int (18))))) (gN 3)) (sSeq (sAsg (cD (.int (0))) (gN 4)) (sSeq (sOwn 5 (dLst (aNil))) (sSeq (sFor (iRg1 (op1 oLen (vAny 1))) (gN 6) (sSeq (sIf (tB (op2 oLt (vPub 6) (op1 oLen (vAny 0)))) (sAsg (op2 oAdd (vPub 4) (op2 oMod (op1 oInt (op2 oIdx (vAny 0) (vPub 6))) (cD (.int (10007))))) (gN 4)) (sNil)) (sSeq (sAsg (op2 oMod (op1 oInt (op2 oMul (vPub 4) (cD (.int (31))))) (cD (.int (10007)))) (gN 4)) (sIf (tTr (vPub 3)) (sSeq (sApp 5 (op2 oMod (op1 oInt (vPub 2)) (op2 oIdx (vAny 1) (vPub 6)))) (sAsg (op2 oFdiv (vPub 2) (op2 oIdx (vAny 1) (vPub 6))) (gN 2))) (sApp 5 (op2 oMod (op2 oMod (op1 oInt (op2 oAdd (op2 oAdd (op2 oMul (vPub 4) (op2 oAdd (op2 oMul (cD (.int (2))) (vPub 6)) (cD (.int (3))))) (op2 oFdiv (vPub 4) (cD (.int (7))))) (op2 oPow (op2 oAdd (vPub 6) (cD (.int (1)))) (cD (.int (3)))))) (cD (.int (1009)))) (op2 oIdx (vAny 1) (vPub 6)))))))) (sRetO 5))))))
def f_law_draws : List D → R D := denOf 7 [false, false] g_law_draws
def g_law_number : List S → Out := sSeq (sAsg (cD (.int (0))) (gN 2)) (sSeq (sFor (iLst (vBor 0)) (gN 3) (sAsg (op2 oAdd (op2 oMul (vPub 2) (cD (.int (10)))) (vPub 3)) (gN 2))) (sSeq (sIf (tTr (vAny 1)) (sRet (op1 oNeg (vPub 2))) (sNil)) (sRet (vPub 2))))
def f_law_number : List D → R D := denOf 4 [false, false] g_law_number
def g_one_figure_apart : List S → Out := sSeq (sAsg (dTup (aCons (op1 oStr (op1 oAbs (vAny 0))) (aCons (op1 oStr (op1 oAbs (vAny 1))) (aNil)))) (gS [2, 3])) (sSeq (sIf (tOr (tB (op2 oNe (op1 oLen (vPub 2)) (op1 oLen (vPub 3)))) (tB (op2 oNe (op2 oLt (vAny 0) (cD (.int (0)))) (op2 oLt (vAny 1) (cD (.int (0))))))) (sRet (cD (.bl false))) (sNil)) (sRet (op2 oEq (op1 oLen (dLc (iRg1 (op1 oLen (vPub 2))) (gN 4) (tB (op2 oNe (op2 oIdx (vPub 2) (vPub 4)) (op2 oIdx (vPub 3) (vPub 4)))) (vPub 4) [4])) (cD (.int (1))))))
def f_one_figure_apart : List D → R D := denOf 5 [false, false] g_one_figure_apart
def g_law : List S → Out := sSeq (sAsg (dCall f_law_draws (aCons (vAny 0) (aCons (op2 oCat (dLst (aCons (cD (.int (15))) (aCons (cD (.int (2))) (aCons (cD (.int (4))) (aCons (cD (.int (6))) (aCons (cD (.int (15))) (aCons (cD (.int (9))) (aCons (cD (.int (5))) (aCons (cD (.int (15))) (aCons (cD (.int (9))) (aCons (cD (.int (15))) (aNil)))))))))))) (op2 oRep (dLst (aCons (cD (.int (10))) (aNil))) (cD (.int (15))))) (aNil)))) (gN 1)) (sSeq (sAsg (op2 oSub (cD (.int (15))) (op2 oIdx (vPub 1) (cD (.int (0))))) (gN 2)) (sSeq (sOwn 3 (dSl (vPub 1) (sSome (cD (.int (10)))) (sSome (op2 oAdd (cD (.int (10))) (vPub 2))))) (sSeq (sIf (tAnd (tB (op2 oGt (vPub 2) (cD (.int (1))))) (tB (op2 oEq (op2 oIdx (vAny 3) (cD (.int (0)))) (cD (.int (0)))))) (sPut 3 (cD (.int (1))) (cD (.int (0)))) (sNil)) (sSeq (sOwn 4 (op1 oList (vAny 3))) (sSeq (sIf (tB (op2 oGt (op2 oIdx (vPub 1) (cD (.int (6)))) (cD (.int (0))))) (sSeq (sAsg (op2 oMod (op1 oInt (op2 oIdx (vPub 1) (cD (.int (4))))) (vPub 2)) (gN 5)) (sPut 4 (op2 oMod (op1 oInt (op2 oAdd (op2 oAdd (op2 oIdx (vAny 4) (vPub 5)) (cD (.int (1)))) (op2 oIdx (vPub 1) (cD (.int (5)))))) (cD (.int (10)))) (vPub 5))) (sNil)) (sSeq (sIf (tB (op2 oGt (op2 oIdx (vPub 1) (cD (.int (6)))) (cD (.int (2))))) (sSeq (sAsg (op2 oMod (op1 oInt (op2 oIdx (vPub 1) (cD (.int (7))))) (vPub 2)) (gN 5)) (sPut 4 (op2 oMod (op1 oInt (op2 oAdd (op2 oAdd (op2 oIdx (vAny 4) (vPub 5)) (cD (.int (1)))) (op2 oIdx (vPub 1) (cD (.int (8)))))) (cD (.int (10)))) (vPub 5))) (sNil)) (sSeq (sIf (tB (op2 oEq (op2 oIdx (vPub 1) (cD (.int (6)))) (cD (.int (4))))) (sSeq (sAsg (op2 oMod (op1 oInt (op2 oIdx (vPub 1) (cD (.int (9))))) (vPub 2)) (gN 5)) (sPut 4 (op2 oMod (op1 oInt (op2 oAdd (op2 oAdd (op2 oIdx (vAny 4) (vPub 5)) (cD (.int (1)))) (op2 oIdx (vPub 1) (cD (.int (8)))))) (cD (.int (10)))) (vPub 5))) (sNil)) (sSeq (sIf (tAnd (tB (op2 oEq (op2 oIdx (vPub 1) (cD (.int (3)))) (cD (.int (0))))) (tB (op2 oLt (vPub 2) (cD (.int (15)))))) (sApp 4 (cD (.int (7)))) (sNil)) (sSeq (sIf (tAnd (tB (op2 oGt (op1 oLen (vAny 4)) (cD (.int (1))))) (tB (op2 oEq (op2 oIdx (vAny 4) (cD (.int (0)))) (cD (.int (0)))))) (sPut 4 (cD (.int (1))) (cD (.int (0)))) (sNil)) (sSeq (sAsg (op2 oEq (op2 oIdx (vPub 1) (cD (.int (1)))) (cD (.int (1)))) (gN 6)) (sSeq (sAsg (dCall f_law_number (aCons (vAny 3) (aCons (vPub 6) (aNil)))) (gN 7)) (sSeq (sAsg (dCall f_law_number (aCons (vAny 4) (aCons (op2 oNe (vPub 6) (op2 oEq (op2 oIdx (vPub 1) (cD (.int (2)))) (cD (.int (0))))) (aNil)))) (gN 8)) (sSeq (sAsg (eAnd (op2 oEq (op2 oLt (vPub 7) (cD (.int (0)))) (op2 oLt (vPub 8) (cD (.int (0))))) (op2 oEq (op1 oLen (vAny 3)) (op1 oLen (vAny 4)))) (gN 9)) (sSeq (sIf (tTr (vPub 9)) (sAsg (op2 oEq (op1 oLen (dLc (iRg1 (vPub 2)) (gN 13) (tB (op2 oNe (op2 oIdx (vAny 3) (vPub 13)) (op2 oIdx (vAny 4) (vPub 13)))) (vPub 13) [13])) (cD (.int (1)))) (gN 9)) (sNil)) (sSeq (sFor (iLst (dLst (aCons (dTup (aCons (vPub 7) (aCons (vPub 8) (aNil)))) (aCons (dTup (aCons (vPub 8) (aCons (vPub 7) (aNil)))) (aCons (dTup (aCons (vPub 7) (aCons (vPub 8) (aNil)))) (aNil)))))) (gS [10, 11]) (sSeq (sAsg (dCall f_one_figure_apart (aCons (vPub 10) (aCons (vPub 11) (aNil)))) (gN 12)) (sIf (tOr (tNot (tTr (op1 (oIsi "bool") (vPub 12)))) (tB (op2 oNe (vPub 12) (vPub 9)))) (sRet (cD (.bl false))) (sNil)))) (sRet (op2 oIs (dCall f_one_figure_apart (aCons (vPub 7) (aCons (vPub 7) (aNil)))) (cD (.bl false)))))))))))))))))))
def f_law : List D → R D := denOf 14 [true] g_law
end LW

namespace LW
open PySem PySem.Spec L2 DL
open PyProof.Rows hiding St
local macro_rules | `(tactic| walk_at "dl") => `(tactic| try simp only [e_seq, e_then_nx, e_then_rt, e_nil, e_asg, e_own, e_par, e_if, e_ret, e_retN, e_exp, e_frz, e_for, e_gN, gS, gT, gL, gNs, e_op1, e_op2, e_cD, e_aNil, e_aCons, e_call, e_lst, e_tup, e_tB, e_tTr, e_tAnd, e_tOr, e_tNot, e_sNone, e_sSome, e_sl, p_sl, e_eAnd, e_eOr, e_forN, e_forC, e_loop_nx, e_loop_rt, p_boolK,  e_iLst, e_iRg1, e_iRg2, p_lst, p_tup, e_bind, e_out, e_ofO_some, e_OofO, e_den_rt, e_den_nx, u_vPub, u_vAny, u_vBor, u_retO, u_app, u_put, u_frz, bAll, bS, List.map_cons, List.map_nil,
  List.getElem?_cons_zero, List.getElem?_cons_succ, List.set_cons_zero, List.set_cons_succ, List.replicate, startS, ite_true, ite_false, if_true, if_false, Bool.false_eq_true, p_add, p_sub, p_lt, p_le, p_gt, p_ge, p_eq, p_ne, p_eqb, p_neb, p_neg, p_not, p_lenL, p_lenT, p_lenS, p_abs, p_intI, p_intB, p_listL, p_listT, p_tuple, p_max2, p_min2, p_truB, p_truI, p_truL, p_isB, p_isNB, p_sum, p_isiBB, p_isiII, p_isiBI, p_isiIB, p_isiLL, p_isiLT, p_isiTL, p_isiTT, p_isiLI, p_isiTI, p_isiSI, p_isiSL, p_isiST, p_isiSS, p_isiLS, p_isiTS, Nat.le_refl, List.length_cons, List.length_nil, LIM, List.length_map, decide_eq_true_eq, decide_true, decide_false, Bool.not_true, Bool.not_false, Nat.zero_le, Nat.reduceLeDiff, Nat.reduceAdd, Int.reduceToNat, Int.reduceLE, Int.reduceLT])
theorem draws_ok (ns sizes : List Int) (hs : ∀ s ∈ sizes, 0 < s ∧ s < 1073741824) (hl : sizes.length ≤ 1000) :
    ∃ row, f_law_draws [.scr ns, .lst (dints sizes)] = .ok (.lst (dints row)) ∧ row.length = sizes.length ∧ ∀ i, i < sizes.length → 0 ≤ row.getD i 0 ∧ row.getD i 0 < sizes.getD i 0 := by
  have main : Runs (g_law_draws (startS 7 [false, false] [.scr ns, .lst (dints sizes)])) fun d => ∃ row, d = .lst (dints row) ∧ row.length = sizes.length ∧ ∀ i, i < sizes.length → 0 ≤ row.getD i 0 ∧ row.getD i 0 < sizes.getD i 0 := by
    unfold g_law_draws
    walk_at "dl"
    refine runs_then (P := fun ρ' => ∃ r : Int, 0 ≤ r ∧ ρ' = [.bo (.scr ns), .bo (.lst (dints sizes)), .pu (.int r), .un, .un, .un, .un]) ?_ ?_
    · refine nx_ite (fun h => ?_) (fun h => ?_)
      · rw [idx_scr (by omega) (by omega)]
        walk_at "dl"
        exact nx_nx ⟨_, by split <;> omega, rfl⟩
      · exact nx_nx ⟨0, by omega, rfl⟩
    · rintro ρ' ⟨r, hr, rfl⟩
      walk_at "dl"
      rw [pow_s (by omega) (by omega) (by omega)]
      walk_at "dl"
      rw [p_rg1 (by omega) (by omega)]
      walk_at "dl"
      generalize decide (10 ^ 18 ≤ r) = gr
      refine runs_then (nx_for (fun i ρ' => ∃ (row : List Int) (r m : Int) (x : S), ρ' = [.bo (.scr ns), .bo (.lst (dints sizes)), .pu (.int r), .pu (.bl gr), .pu (.int m), .ow (.lst (dints row)), x] ∧ row.length = i ∧ i ≤ sizes.length ∧ 0 ≤ m ∧ m < 10007 ∧ ∀ j, j < i → 0 ≤ row.getD j 0 ∧ row.getD j 0 < sizes.getD j 0) ⟨[], r, 0, .un, rfl, rfl, Nat.zero_le _, by omega, by omega, fun j h => by omega⟩ ?_) ?_
      · rintro i d ρ hd ⟨row, r2, m, x, rfl, h1, h2, h3, h4, h5⟩
        obtain ⟨hi, rfl⟩ := rgL_get hd
        refine ⟨_, rfl, ?_⟩
        walk_at "dl"
        have hi : i < sizes.length := by omega
        have hsz := hs (sizes.getD i 0) (DL.getD_mem hi)
        refine nx_then (P := fun ρ' => ∃ m, 0 ≤ m ∧ ρ' = [.bo (.scr ns), .bo (.lst (dints sizes)), .pu (.int r2), .pu (.bl gr), .pu (.int m), .ow (.lst (dints row)), .pu (.int (0 + (i : Int)))]) ?_ ?_
        · refine nx_ite (fun h => ?_) (fun h => ?_)
          · rw [idx_scr (by omega) (by omega)]
            walk_at "dl"
            rw [mod_pos (by omega)]
            walk_at "dl"
            exact nx_nx ⟨_, by omega, rfl⟩
          · exact nx_nx ⟨m, h3, rfl⟩
        · rintro ρ' ⟨m2, hm2, rfl⟩
          have fin : ∀ (r3 m3 v : Int), 0 ≤ m3 → m3 < 10007 → 0 ≤ v → v < sizes.getD i 0 → NxP (.nx [.bo (.scr ns), .bo (.lst (dints sizes)), .pu (.int r3), .pu (.bl gr), .pu (.int m3), .ow (.lst (dints row ++ [.int v])), .pu (.int (0 + (i : Int)))]) fun ρ' => ∃ (row : List Int) (r m : Int) (x : S), ρ' = [.bo (.scr ns), .bo (.lst (dints sizes)), .pu (.int r), .pu (.bl gr), .pu (.int m), .ow (.lst (dints row)), x] ∧ row.length = i + 1 ∧ i + 1 ≤ sizes.length ∧ 0 ≤ m ∧ m < 10007 ∧ ∀ j, j < i + 1 → 0 ≤ row.getD j 0 ∧ row.getD j 0 < sizes.getD j 0 := by
            intro r3 m3 v a1 a2 a3 a4
            refine nx_nx ⟨row ++ [v], r3, m3, _, by rw [dints_app], by simp [h1], hi, a1, a2, fun j hj => ?_⟩
            by_cases hji : j = i
            · subst hji
              rw [getD_app_eq h1.symm]
              exact ⟨a3, a4⟩
            · rw [getD_app_lt (by omega)]
              exact h5 j (by omega)
          walk_at "dl"
          rw [mul_r (by omega) (by omega)]
          walk_at "dl"
          rw [mod_pos (by omega)]
          walk_at "dl"
          have hm3 : 0 ≤ m2 * 31 % 10007 ∧ m2 * 31 % 10007 < 10007 := by omega
          generalize m2 * 31 % 10007 = m3 at hm3 ⊢
          have hix : oIdx (.lst (dints sizes)) (.int (0 + (i : Int))) = some (.int (sizes.getD i 0)) := by
            rw [idx_ints (by omega) (by omega)]
            congr 3
            omega
          refine nx_ite (fun h => ?_) (fun h => ?_)
          · rw [hix]
            walk_at "dl"
            rw [mod_pos hsz.1]
            walk_at "dl"
            rw [if_pos (show row.length < 1000000 by omega)]
            walk_at "dl"
            rw [hix]
            walk_at "dl"
            rw [fdiv_pos hsz.1 hsz.2]
            walk_at "dl"
            exact fin _ _ _ hm3.1 hm3.2 (Int.emod_nonneg _ (by omega)) (Int.emod_lt_of_pos _ hsz.1)
          · rw [mul_r (by omega) (by omega)]
            walk_at "dl"
            rw [mul_l (by omega) (by omega)]
            walk_at "dl"
            rw [fdiv_pos (by omega) (by omega)]
            walk_at "dl"
            rw [pow_s (by omega) (by omega) (by omega)]
            walk_at "dl"
            rw [mod_pos (by omega)]
            walk_at "dl"
            rw [hix]
            walk_at "dl"
            rw [mod_pos hsz.1]
            walk_at "dl"
            rw [if_pos (show row.length < 1000000 by omega)]
            exact fin _ _ _ hm3.1 hm3.2 (Int.emod_nonneg _ (by omega)) (Int.emod_lt_of_pos _ hsz.1)
      · rintro ρ' ⟨row, r2, m, x, rfl, h1, h2, h3, h4, h5⟩
        rw [rgL_length] at h1 h5
        walk_at "dl"
        exact runs_rt ⟨row, rfl, by omega, fun j hj => h5 j (by omega)⟩
  obtain ⟨d, h, row, rfl, h2⟩ := main.ok
  exact ⟨row, h, h2⟩
/-- the places at which two lists differ -/
def cnt {α : Type} [DecidableEq α] (d : α) (A B : List α) : Nat := ((List.range A.length).filter fun i => decide (A.getD i d ≠ B.getD i d)).length
def apart (a b : Int) : Bool := decide ((TL.numL a.natAbs).length = (TL.numL b.natAbs).length) && (decide (a < 0) == decide (b < 0)) && decide (cnt 0 (TL.numL a.natAbs) (TL.numL b.natAbs) = 1)
theorem numL_small (n : Nat) : ∀ c ∈ TL.numL n, c < 1114112 := fun c h => by
  have := TL.numL_digits n c h
  omega
theorem numL_len30 {n : Nat} (h : n < 10 ^ 30) : (TL.numL n).length ≤ 30 := TL.numL_len (by omega) h
theorem getD_small {l : List Nat} (h : ∀ c ∈ l, c < 1114112) (i : Nat) : l.getD i 0 < 1114112 := by
  by_cases hi : i < l.length
  · have : l.getD i 0 = l[i] := by simp [List.getD, List.getElem?_eq_getElem hi]
    rw [this]
    exact h _ (List.getElem_mem hi)
  · have : l.getD i 0 = 0 := by simp [List.getD, List.getElem?_eq_none (Nat.le_of_not_lt hi)]
    omega
theorem one_apart (a b : Int) (ha : a.natAbs < 10 ^ 30) (hb : b.natAbs < 10 ^ 30) : f_one_figure_apart [.int a, .int b] = .ok (.bl (apart a b)) := by
  have main : Runs (g_one_figure_apart (startS 5 [false, false] [.int a, .int b])) fun d => d = .bl (apart a b) := by
    unfold g_one_figure_apart
    walk_at "dl"
    have e1 : ∀ x : Int, (if x < 0 then -x else x) = (x.natAbs : Int) := fun x => by split <;> omega
    rw [e1 a, e1 b]
    rw [p_str (by omega), p_str (by omega)]
    walk_at "dl"
    have hA : (Str.ofString (toString (a.natAbs : Int))).cps.toList = TL.numL a.natAbs := str_num (by omega)
    have hB : (Str.ofString (toString (b.natAbs : Int))).cps.toList = TL.numL b.natAbs := str_num (by omega)
    generalize Str.ofString (toString (a.natAbs : Int)) = SA at hA ⊢
    generalize Str.ofString (toString (b.natAbs : Int)) = SB at hB ⊢
    have lA := numL_len30 ha
    have lB := numL_len30 hb
    rw [p_lenStr (by rw [hA]; show _ ≤ 1000000; omega), p_lenStr (by rw [hB]; show _ ≤ 1000000; omega), hA, hB]
    walk_at "dl"
    have e2 : (!decide (((TL.numL a.natAbs).length : Int) = ((TL.numL b.natAbs).length : Int))) = !decide ((TL.numL a.natAbs).length = (TL.numL b.natAbs).length) := by
      congr 1
      exact decide_eq_decide.mpr (by omega)
    rw [e2]
    by_cases hl : (TL.numL a.natAbs).length = (TL.numL b.natAbs).length
    · by_cases hs : (decide (a < 0) == decide (b < 0)) = true
      · have hs' : decide (a < 0) = decide (b < 0) := beq_iff_eq.mp hs
        simp only [hl, hs', decide_true, Bool.not_true, Bool.false_eq_true, if_false]
        walk_at "dl"
        have key : dLc (iRg1 (op1 oLen (vPub 2))) (gN 4) (DL.tB (op2 oNe (op2 oIdx (vPub 2) (vPub 4)) (op2 oIdx (vPub 3) (vPub 4)))) (vPub 4) [4] [S.bo (D.int a), S.bo (D.int b), S.pu (D.str SA), S.pu (D.str SB), S.un] = .ok (.lst (((List.range (TL.numL a.natAbs).length).filter fun i => decide ((TL.numL a.natAbs).getD i 0 ≠ (TL.numL b.natAbs).getD i 0)).map fun (i : Nat) => D.int (0 + (i : Int)))) := by
          refine lc_eq (ds := rgL 0 (TL.numL a.natAbs).length) ?_ (by rw [rgL_length]; show _ ≤ 1000000; omega) ?_
          · walk_at "dl"
            rw [p_lenStr (by rw [hA]; show _ ≤ 1000000; omega), hA]
            walk_at "dl"
            rw [p_rg1 (by omega) (by omega)]
            rfl
          · unfold rgL
            refine lcGo_fil fun i hi => ?_
            have hi := List.mem_range.mp hi
            refine lcStep_eq (ρ' := [S.bo (D.int a), S.bo (D.int b), S.pu (D.str SA), S.pu (D.str SB), S.pu (.int (0 + (i : Int)))]) rfl ?_ ?_
            · walk_at "dl"
              rw [idx_str (by omega) (by rw [hA]; omega) (by rw [hA]; show _ ≤ 1000000; omega)]
              walk_at "dl"
              rw [idx_str (by omega) (by rw [hB]; omega) (by rw [hB]; show _ ≤ 1000000; omega)]
              walk_at "dl"
              rw [hA, hB, ne_chr (getD_small (numL_small _) _) (getD_small (numL_small _) _)]
              walk_at "dl"
              have : (0 + (i : Int)).toNat = i := by omega
              rw [this]
              simp
            · intro _
              walk_at "dl"
        rw [key]
        walk_at "dl"
        refine runs_rt ?_
        unfold apart cnt
        rw [hs, decide_eq_true hl]
        congr 1
        simp only [Bool.true_and]
        exact decide_eq_decide.mpr (by omega)
      · have hs' : ¬ decide (a < 0) = decide (b < 0) := fun e => hs (beq_iff_eq.mpr e)
        simp only [hl, hs', decide_true, decide_false, Bool.not_true, Bool.not_false, Bool.false_eq_true, if_false]
        walk_at "dl"
        refine runs_rt ?_
        unfold apart
        rw [Bool.not_eq_true _ |>.mp hs]
        simp
    · simp only [hl, decide_false, Bool.not_false, if_true]
      walk_at "dl"
      refine runs_rt ?_
      unfold apart
      rw [decide_eq_false hl]
      rfl
  exact main.eq
def val (ds : List Int) : Int := ds.foldl (fun t d => t * 10 + d) 0
theorem val_app (ds : List Int) (d : Int) : val (ds ++ [d]) = val ds * 10 + d := by unfold val; rw [List.foldl_append]; rfl
theorem number_ok (ds : List Int) (neg : Bool) : f_law_number [.lst (dints ds), .bl neg] = .ok (.int (if neg = true then - val ds else val ds)) := by
  have main : Runs (g_law_number (startS 4 [false, false] [.lst (dints ds), .bl neg])) fun d => d = .int (if neg = true then - val ds else val ds) := by
    unfold g_law_number
    walk_at "dl"
    refine runs_then (nx_for (fun i ρ' => ∃ x, ρ' = [.bo (.lst (dints ds)), .bo (.bl neg), .pu (.int (val (ds.take i))), x]) ⟨.un, rfl⟩ ?_) ?_
    · rintro i d ρ hd ⟨x, rfl⟩
      obtain ⟨n, hn, rfl⟩ : ∃ n, ds[i]? = some n ∧ D.int n = d := by
        rw [List.getElem?_map, Option.map_eq_some_iff] at hd
        exact hd
      refine ⟨_, rfl, ?_⟩
      walk_at "dl"
      rw [mul_r (by omega) (by omega)]
      walk_at "dl"
      refine nx_nx ⟨.pu (.int n), ?_⟩
      rw [List.take_add_one, hn]
      simp only [Option.toList_some, val_app]
    · rintro ρ' ⟨x, rfl⟩
      rw [dints_length, List.take_length]
      walk_at "dl"
      cases neg
      · simp only [Bool.false_eq_true, if_false]
        walk_at "dl"
        exact runs_rt rfl
      · simp only [if_true]
        walk_at "dl"
        exact runs_rt rfl
  exact main.eq
/-- figures: 0 to 9; the first one is not 0 if there are more -/
structure Figs (ds : List Int) : Prop where
  pos : 1 ≤ ds.length
  few : ds.length ≤ 15
  dig : ∀ d ∈ ds, 0 ≤ d ∧ d ≤ 9
structure Led (ds : List Int) : Prop extends Figs ds where
  led : ds.length = 1 ∨ ds.getD 0 0 ≠ 0
theorem val_nn {ds : List Int} (h : ∀ d ∈ ds, 0 ≤ d ∧ d ≤ 9) : 0 ≤ val ds ∧ val ds < 10 ^ ds.length := by
  suffices ∀ n, ∀ ds : List Int, ds.length = n → (∀ d ∈ ds, 0 ≤ d ∧ d ≤ 9) → 0 ≤ val ds ∧ val ds < 10 ^ ds.length from this _ ds rfl h
  intro n
  induction n with
  | zero => intro ds h _; rw [List.length_eq_zero_iff.mp h]; decide
  | succ n ih =>
    intro ds hl hd
    obtain ⟨l, d, rfl⟩ : ∃ l d, ds = l ++ [d] := by
      rcases List.eq_nil_or_concat ds with h | ⟨l, d, h⟩
      · rw [h] at hl; cases hl
      · exact ⟨l, d, by rw [h]; simp⟩
    have h1 := ih l (by simpa using hl) fun x hx => hd x (List.mem_append_left _ hx)
    have h2 := hd d (by simp)
    rw [val_app, List.length_append, List.length_singleton, Int.pow_succ]
    omega
theorem numL_val' {ds : List Int} (h : ∀ d ∈ ds, 0 ≤ d ∧ d ≤ 9) (hp : 1 ≤ ds.length) (hl : ds.length = 1 ∨ ds.getD 0 0 ≠ 0) : TL.numL (val ds).natAbs = ds.map fun d => 48 + d.toNat := by
  suffices ∀ n, ∀ ds : List Int, ds.length = n + 1 → (∀ d ∈ ds, 0 ≤ d ∧ d ≤ 9) → (ds.length = 1 ∨ ds.getD 0 0 ≠ 0) → TL.numL (val ds).natAbs = ds.map (fun d => 48 + d.toNat) ∧ (ds.getD 0 0 ≠ 0 → 1 ≤ val ds) from (this (ds.length - 1) ds (by omega) h hl).1
  intro n
  induction n with
  | zero =>
    intro ds hl hd _
    obtain ⟨d, rfl⟩ : ∃ d, ds = [d] := List.length_eq_one_iff.mp hl
    have := hd d (by simp)
    have e : val [d] = d := by unfold val; simp
    rw [e]
    refine ⟨?_, fun h => ?_⟩
    · rw [TL.numL_lt (by omega)]
      simp
      omega
    · simp [List.getD] at h
      omega
  | succ n ih =>
    intro ds hl hd hlead
    obtain ⟨l, d, rfl⟩ : ∃ l d, ds = l ++ [d] := by
      rcases List.eq_nil_or_concat ds with h | ⟨l, d, h⟩
      · rw [h] at hl; cases hl
      · exact ⟨l, d, by rw [h]; simp⟩
    have hll : l.length = n + 1 := by simpa using hl
    have h0 : (l ++ [d]).getD 0 0 = l.getD 0 0 := getD_app_lt (by omega)
    have hz : l.getD 0 0 ≠ 0 := by
      rcases hlead with h | h
      · rw [hl] at h; omega
      · rwa [h0] at h
    obtain ⟨h1, h2⟩ := ih l hll (fun x hx => hd x (List.mem_append_left _ hx)) (.inr hz)
    have h2 := h2 hz
    have h3 := hd d (by simp)
    rw [val_app]
    refine ⟨?_, fun _ => by omega⟩
    rw [TL.numL_step (by omega), show (val l * 10 + d).natAbs / 10 = (val l).natAbs by omega, h1, List.map_append]
    congr 1
    simp
    omega
theorem cnt_map (A B : List Int) (hA : ∀ d ∈ A, 0 ≤ d ∧ d ≤ 9) (hB : ∀ d ∈ B, 0 ≤ d ∧ d ≤ 9) (hl : A.length = B.length) : cnt 0 (A.map fun d => 48 + d.toNat) (B.map fun d => 48 + d.toNat) = cnt 0 A B := by
  unfold cnt
  rw [List.length_map]
  congr 1
  apply List.filter_congr
  intro i hi
  have hi := List.mem_range.mp hi
  have g : ∀ (L : List Int), i < L.length → (L.map fun d => 48 + d.toNat).getD i 0 = 48 + (L.getD i 0).toNat := fun L h => by
    simp [List.getD, List.getElem?_eq_getElem h]
  rw [g A hi, g B (by omega)]
  have a := hA _ (DL.getD_mem hi)
  have b := hB _ (DL.getD_mem (l := B) (i := i) (by omega))
  apply decide_eq_decide.mpr
  omega
theorem val_zero {ds : List Int} (h : Led ds) : val ds = 0 ↔ ds = [0] := by
  constructor
  · intro e
    have q := numL_val' h.dig h.pos h.led
    rw [e] at q
    have q2 : ([48] : List Nat) = ds.map fun d => 48 + d.toNat := by rw [← q]; exact (TL.numL_lt (n := 0) (by decide)).symm
    cases ds with
    | nil => cases q2
    | cons d r =>
      cases r with
      | nil =>
        have := h.dig d (by simp)
        simp at q2
        have : d = 0 := by omega
        rw [this]
      | cons _ _ => simp at q2
  · rintro rfl
    rfl
theorem law_true (ns : List Int) (hn : ns.length ≤ 63) : f_law [.scr ns] = .ok (.bl true) := by
  have main : Runs (g_law (startS 14 [true] [.scr ns])) fun d => d = .bl true := by
    unfold g_law
    walk_at "dl"
    rw [show oRep (.lst [.int 10]) (.int 15) = some (.lst (dints (List.replicate 15 10))) from rfl]
    walk_at "dl"
    rw [p_cat (by decide)]
    walk_at "dl"
    obtain ⟨row, hrow, hlen, hR⟩ := draws_ok ns [15, 2, 4, 6, 15, 9, 5, 15, 9, 15, 10, 10, 10, 10, 10, 10, 10, 10, 10, 10, 10, 10, 10, 10, 10] (by decide) (by decide)
    have hlen : row.length = 25 := hlen
    simp only [dints, List.map_cons, List.map_nil] at hrow
    simp only [List.cons_append, List.nil_append]
    rw [hrow]
    walk_at "dl"
    have R0 : 0 ≤ row.getD 0 0 ∧ row.getD 0 0 < 15 := hR 0 (by decide)
    have R4 : 0 ≤ row.getD 4 0 ∧ row.getD 4 0 < 15 := hR 4 (by decide)
    have R5 : 0 ≤ row.getD 5 0 ∧ row.getD 5 0 < 9 := hR 5 (by decide)
    have R7 : 0 ≤ row.getD 7 0 ∧ row.getD 7 0 < 15 := hR 7 (by decide)
    have ix : ∀ k : Int, 0 ≤ k → k < 25 → oIdx (.lst (dints row)) (.int k) = some (.int (row.getD k.toNat 0)) := fun k h0 h1 => idx_ints h0 (by omega)
    rw [ix 0 (by omega) (by omega)]
    walk_at "dl"
    generalize hc : 15 - row.getD 0 0 = c
    have hc1 : 1 ≤ c ∧ c ≤ 15 := by omega
    have Rd : ∀ k : Nat, 10 ≤ k → k < 25 → 0 ≤ row.getD k 0 ∧ row.getD k 0 ≤ 9 := fun k h1 h2 => by
      have h := hR k (by simpa using h2)
      have : ∀ k : Nat, k < 25 → 10 ≤ k → ([15, 2, 4, 6, 15, 9, 5, 15, 9, 15, 10, 10, 10, 10, 10, 10, 10, 10, 10, 10, 10, 10, 10, 10, 10] : List Int).getD k 0 = 10 := by decide
      rw [this k h2 h1] at h
      omega
    rw [cut_dints (by omega) (by omega) (by omega)]
    have F0 : Figs (List.take ((10 + c).toNat - Int.toNat 10) (List.drop (Int.toNat 10) row)) ∧ (List.take ((10 + c).toNat - Int.toNat 10) (List.drop (Int.toNat 10) row)).length = c.toNat := by
      have hl : (List.take ((10 + c).toNat - Int.toNat 10) (List.drop (Int.toNat 10) row)).length = c.toNat := by
        rw [List.length_take, List.length_drop, hlen]
        omega
      refine ⟨⟨by omega, by omega, fun d hd => ?_⟩, hl⟩
      obtain ⟨k, hk, rfl⟩ := List.mem_iff_getElem.mp (List.mem_of_mem_take hd)
      rw [List.length_drop, hlen] at hk
      rw [List.getElem_drop, ← getD_lt]
      exact Rd _ (by omega) (by omega)
    generalize List.take ((10 + c).toNat - Int.toNat 10) (List.drop (Int.toNat 10) row) = fig0 at F0 ⊢
    -- the first figure is not 0
    refine runs_then (P := fun ρ' => ∃ fig : List Int, Led fig ∧ fig.length = c.toNat ∧ ρ' = [S.pu (D.scr ns), S.pu (D.lst (List.map D.int row)), S.pu (D.int c), S.ow (D.lst (dints fig)), S.un, S.un, S.un, S.un, S.un, S.un, S.un, S.un, S.un, S.un]) ?_ ?_
    · by_cases h1 : 1 < c
      · simp only [h1, if_true]
        rw [idx_ints (by omega) (by omega)]
        walk_at "dl"
        refine nx_ite (fun h => ?_) (fun h => ?_)
        · have hix : ixN fig0.length 0 = some 0 := by
            unfold ixN
            rw [if_pos (by omega), if_pos (by omega)]
            rfl
          rw [hix]
          refine nx_nx ⟨fig0.set 0 1, ⟨⟨by rw [List.length_set]; exact F0.1.pos, by rw [List.length_set]; exact F0.1.few, fun d hd => ?_⟩, .inr ?_⟩, by rw [List.length_set]; exact F0.2, by rw [dints_set]⟩
          · rcases List.mem_or_eq_of_mem_set hd with hd | hd
            · exact F0.1.dig d hd
            · omega
          · rw [getD_lt (by rw [List.length_set]; exact F0.1.pos)]
            simp
        · exact nx_nx ⟨fig0, ⟨F0.1, .inr h⟩, F0.2, rfl⟩
      · simp only [h1, if_false]
        walk_at "dl"
        exact nx_nx ⟨fig0, ⟨F0.1, .inl (by have := F0.2; omega)⟩, F0.2, rfl⟩
    rintro ρ' ⟨fig, LF, lF, rfl⟩
    walk_at "dl"
    -- one figure is changed
    have put : ∀ (oth : List Int) (k v : Int), Figs oth → oth.length = c.toNat → 0 ≤ k → k < c → ∃ j, ixN (dints oth).length k = some j ∧ (dints oth).set j (.int (v % 10)) = dints (oth.set j (v % 10)) ∧ Figs (oth.set j (v % 10)) ∧ (oth.set j (v % 10)).length = c.toNat := fun oth k v hf hl h0 h1 => by
      refine ⟨k.toNat, ?_, by rw [dints_set], ⟨by rw [List.length_set]; exact hf.pos, by rw [List.length_set]; exact hf.few, fun d hd => ?_⟩, by rw [List.length_set]; exact hl⟩
      · unfold ixN
        rw [dints_length, if_pos h0, if_pos (by omega)]
      · rcases List.mem_or_eq_of_mem_set hd with hd | hd
        · exact hf.dig d hd
        · omega
    have step : ∀ (q : Prop) [Decidable q] (rk rv : Int) (oth : List Int) (s5 : S), 0 ≤ rk → rk < 25 → 0 ≤ rv → rv < 25 → Figs oth → oth.length = c.toNat →
        NxP (if q then ((sSeq (sAsg (op2 oMod (op1 oInt (op2 oIdx (vPub 1) (cD (D.int rk)))) (vPub 2)) (gN 5)) (sPut 4 (op2 oMod (op1 oInt (op2 oAdd (op2 oAdd (op2 oIdx (vAny 4) (vPub 5)) (cD (D.int 1))) (op2 oIdx (vPub 1) (cD (D.int rv))))) (cD (D.int 10))) (vPub 5))) [S.pu (D.scr ns), S.pu (D.lst (List.map D.int row)), S.pu (D.int c), S.ow (D.lst (dints fig)), S.ow (D.lst (dints oth)), s5, S.un, S.un, S.un, S.un, S.un, S.un, S.un, S.un]) else .nx [S.pu (D.scr ns), S.pu (D.lst (List.map D.int row)), S.pu (D.int c), S.ow (D.lst (dints fig)), S.ow (D.lst (dints oth)), s5, S.un, S.un, S.un, S.un, S.un, S.un, S.un, S.un])
          fun ρ' => ∃ (oth : List Int) (s5 : S), Figs oth ∧ oth.length = c.toNat ∧ ρ' = [S.pu (D.scr ns), S.pu (D.lst (List.map D.int row)), S.pu (D.int c), S.ow (D.lst (dints fig)), S.ow (D.lst (dints oth)), s5, S.un, S.un, S.un, S.un, S.un, S.un, S.un, S.un] := by
      intro q _ rk rv oth s5 a1 a2 a3 a4 hf hl
      refine nx_ite (fun h => ?_) (fun h => ?_)
      · walk_at "dl"
        rw [ix rk a1 a2]
        walk_at "dl"
        rw [mod_pos (by omega)]
        walk_at "dl"
        have b1 := Int.emod_nonneg (row.getD rk.toNat 0) (show c ≠ 0 by omega)
        have b2 := Int.emod_lt_of_pos (row.getD rk.toNat 0) (show 0 < c by omega)
        generalize row.getD rk.toNat 0 % c = k at b1 b2 ⊢
        rw [idx_ints b1 (by omega)]
        walk_at "dl"
        rw [ix rv a3 a4]
        walk_at "dl"
        rw [mod_pos (by omega)]
        walk_at "dl"
        obtain ⟨j, e1, e2, e3, e4⟩ := put oth k (oth.getD k.toNat 0 + 1 + row.getD rv.toNat 0) hf hl b1 b2
        rw [dints_length] at e1
        rw [e1]
        exact nx_nx ⟨_, _, e3, e4, by rw [e2]⟩
      · exact nx_nx ⟨oth, s5, hf, hl, rfl⟩
    rw [ix 6 (by omega) (by omega)]
    walk_at "dl"
    refine runs_then (step _ 4 5 fig .un (by omega) (by omega) (by omega) (by omega) LF.toFigs lF) ?_
    rintro ρ' ⟨o1, x1, f1, l1, rfl⟩
    walk_at "dl"
    rw [ix 6 (by omega) (by omega)]
    walk_at "dl"
    refine runs_then (step _ 7 8 o1 x1 (by omega) (by omega) (by omega) (by omega) f1 l1) ?_
    rintro ρ' ⟨o2, x2, f2, l2, rfl⟩
    walk_at "dl"
    rw [ix 6 (by omega) (by omega)]
    walk_at "dl"
    refine runs_then (step _ 9 8 o2 x2 (by omega) (by omega) (by omega) (by omega) f2 l2) ?_
    rintro ρ' ⟨o3, x3, f3, l3, rfl⟩
    clear step put
    walk_at "dl"
    rw [ix 3 (by omega) (by omega)]
    walk_at "dl"
    -- one figure more
    refine runs_then (P := fun ρ' => ∃ oth : List Int, Figs oth ∧ ρ' = [S.pu (D.scr ns), S.pu (D.lst (List.map D.int row)), S.pu (D.int c), S.ow (D.lst (dints fig)), S.ow (D.lst (dints oth)), x3, S.un, S.un, S.un, S.un, S.un, S.un, S.un, S.un]) ?_ ?_
    · have keep : NxP (.nx [S.pu (D.scr ns), S.pu (D.lst (List.map D.int row)), S.pu (D.int c), S.ow (D.lst (dints fig)), S.ow (D.lst (dints o3)), x3, S.un, S.un, S.un, S.un, S.un, S.un, S.un, S.un]) fun ρ' => ∃ oth : List Int, Figs oth ∧ ρ' = [S.pu (D.scr ns), S.pu (D.lst (List.map D.int row)), S.pu (D.int c), S.ow (D.lst (dints fig)), S.ow (D.lst (dints oth)), x3, S.un, S.un, S.un, S.un, S.un, S.un, S.un, S.un] := nx_nx ⟨o3, f3, rfl⟩
      by_cases h1 : row.getD 3 0 = 0
      · by_cases h2 : c < 15
        · simp only [h1, h2, decide_true, if_true]
          walk_at "dl"
          rw [if_pos (show o3.length < 1000000 by omega)]
          refine nx_nx ⟨o3 ++ [7], ⟨by simp, by simp; omega, fun d hd => ?_⟩, by rw [dints_app]⟩
          rcases List.mem_append.mp hd with hd | hd
          · exact f3.dig d hd
          · simp at hd; omega
        · simp only [h1, h2, decide_true, decide_false, if_true]
          walk_at "dl"
          exact keep
      · simp only [h1, decide_false, Bool.false_eq_true, if_false]
        walk_at "dl"
        exact keep
    rintro ρ' ⟨o4, f4, rfl⟩
    walk_at "dl"
    -- the first figure of the others
    refine runs_then (P := fun ρ' => ∃ oth : List Int, Led oth ∧ ρ' = [S.pu (D.scr ns), S.pu (D.lst (List.map D.int row)), S.pu (D.int c), S.ow (D.lst (dints fig)), S.ow (D.lst (dints oth)), x3, S.un, S.un, S.un, S.un, S.un, S.un, S.un, S.un]) ?_ ?_
    · have p4 := f4.pos
      by_cases h1 : (1 : Int) < o4.length
      · simp only [h1, if_true]
        rw [idx_ints (by omega) (by omega)]
        walk_at "dl"
        refine nx_ite (fun h => ?_) (fun h => ?_)
        · have hix : ixN o4.length 0 = some 0 := by
            unfold ixN
            rw [if_pos (by omega), if_pos (by omega)]
            rfl
          rw [hix]
          refine nx_nx ⟨o4.set 0 1, ⟨⟨by rw [List.length_set]; exact f4.pos, by rw [List.length_set]; exact f4.few, fun d hd => ?_⟩, .inr ?_⟩, by rw [dints_set]⟩
          · rcases List.mem_or_eq_of_mem_set hd with hd | hd
            · exact f4.dig d hd
            · omega
          · rw [getD_lt (by rw [List.length_set]; exact f4.pos)]
            simp
        · exact nx_nx ⟨o4, ⟨f4, .inr h⟩, rfl⟩
      · simp only [h1, if_false]
        walk_at "dl"
        exact nx_nx ⟨o4, ⟨f4, .inl (by omega)⟩, rfl⟩
    rintro ρ' ⟨o5, f5, rfl⟩
    walk_at "dl"
    rw [ix 1 (by omega) (by omega)]
    walk_at "dl"
    generalize decide (row.getD 1 0 = 1) = ng
    rw [number_ok]
    walk_at "dl"
    rw [ix 2 (by omega) (by omega)]
    walk_at "dl"
    generalize (!decide (ng = decide (row.getD 2 0 = 0))) = mg
    rw [number_ok]
    walk_at "dl"
    have hA := val_nn LF.dig
    have hB := val_nn f5.dig
    have big : ∀ l : List Int, Led l → (val l).natAbs < 10 ^ 30 := fun l hl => by
      have h := val_nn hl.dig
      have : (10 : Int) ^ l.length ≤ 10 ^ 15 := pow_le hl.few
      omega
    have bA := big fig LF
    have bB := big o5 f5
    generalize ha : (if ng = true then -val fig else val fig) = a
    generalize hb : (if mg = true then -val o5 else val o5) = b
    have na : a.natAbs = (val fig).natAbs := by rw [← ha]; split <;> omega
    have nb : b.natAbs = (val o5).natAbs := by rw [← hb]; split <;> omega
    have NA : TL.numL a.natAbs = fig.map fun d => 48 + d.toNat := by rw [na]; exact numL_val' LF.dig LF.pos LF.led
    have NB : TL.numL b.natAbs = o5.map fun d => 48 + d.toNat := by rw [nb]; exact numL_val' f5.dig f5.pos f5.led
    -- what is due
    have lena : (TL.numL a.natAbs).length = fig.length := by rw [NA, List.length_map]
    have lenb : (TL.numL b.natAbs).length = o5.length := by rw [NB, List.length_map]
    refine runs_then (P := fun ρ' => ρ' = [S.pu (D.scr ns), S.pu (D.lst (List.map D.int row)), S.pu (D.int c), S.ow (D.lst (dints fig)), S.ow (D.lst (dints o5)), x3, S.pu (.bl ng), S.pu (.int a), S.pu (.int b), S.pu (.bl (decide (fig.length = o5.length) && (decide (a < 0) == decide (b < 0)))), S.un, S.un, S.un, S.un]) ?_ ?_
    · have e3 : decide ((fig.length : Int) = (o5.length : Int)) = decide (fig.length = o5.length) := decide_eq_decide.mpr (by omega)
      rw [e3]
      generalize decide (fig.length = o5.length) = p
      generalize decide (a < 0) = q1
      generalize decide (b < 0) = q2
      cases p <;> cases q1 <;> cases q2 <;> exact nx_nx rfl
    rintro ρ' rfl
    walk_at "dl"
    refine runs_then (P := fun ρ' => ρ' = [S.pu (D.scr ns), S.pu (D.lst (List.map D.int row)), S.pu (D.int c), S.ow (D.lst (dints fig)), S.ow (D.lst (dints o5)), x3, S.pu (.bl ng), S.pu (.int a), S.pu (.int b), S.pu (.bl (apart a b)), S.un, S.un, S.un, S.un]) ?_ ?_
    · refine nx_ite (fun h => ?_) (fun h => ?_)
      · rw [Bool.and_eq_true, decide_eq_true_eq] at h
        obtain ⟨hl, hsg⟩ := h
        have key : dLc (iRg1 (vPub 2)) (gN 13) (DL.tB (op2 oNe (op2 oIdx (vAny 3) (vPub 13)) (op2 oIdx (vAny 4) (vPub 13)))) (vPub 13) [13] [S.pu (D.scr ns), S.pu (D.lst (List.map D.int row)), S.pu (D.int c), S.ow (D.lst (dints fig)), S.ow (D.lst (dints o5)), x3, S.pu (.bl ng), S.pu (.int a), S.pu (.int b), S.pu (.bl (decide (fig.length = o5.length) && (decide (a < 0) == decide (b < 0)))), S.un, S.un, S.un, S.un] = .ok (.lst (((List.range fig.length).filter fun i => decide (fig.getD i 0 ≠ o5.getD i 0)).map fun (i : Nat) => D.int (0 + (i : Int)))) := by
          refine lc_eq (ds := rgL 0 fig.length) ?_ (by rw [rgL_length]; have := LF.few; show _ ≤ 1000000; omega) ?_
          · cases x3 <;> (walk_at "dl"; rw [p_rg1 (by omega) (by omega), ← lF]; rfl)
          · unfold rgL
            refine lcGo_fil fun i hi => ?_
            have hi := List.mem_range.mp hi
            refine lcStep_eq (ρ' := [S.pu (D.scr ns), S.pu (D.lst (List.map D.int row)), S.pu (D.int c), S.bo (D.lst (dints fig)), S.bo (D.lst (dints o5)), bS x3, S.pu (.bl ng), S.pu (.int a), S.pu (.int b), S.pu (.bl (decide (fig.length = o5.length) && (decide (a < 0) == decide (b < 0)))), S.un, S.un, S.un, S.pu (.int (0 + (i : Int)))]) rfl ?_ ?_
            · walk_at "dl"
              rw [idx_ints (by omega) (by omega)]
              walk_at "dl"
              rw [idx_ints (by omega) (by omega)]
              walk_at "dl"
              have : (0 + (i : Int)).toNat = i := by omega
              rw [this]
              simp
            · intro _
              walk_at "dl"
        rw [key]
        walk_at "dl"
        refine nx_nx ?_
        unfold apart
        rw [lena, lenb, decide_eq_true hl, hsg, NA, NB, cnt_map fig o5 LF.dig f5.dig hl]
        unfold cnt
        rw [Bool.and_self, Bool.true_and]
        have e4 : ∀ n : Nat, decide ((n : Int) = 1) = decide (n = 1) := fun n => decide_eq_decide.mpr (by omega)
        rw [e4]
      · refine nx_nx ?_
        unfold apart
        rw [lena, lenb, Bool.not_eq_true _ |>.mp h]
        rfl
    rintro ρ' rfl
    walk_at "dl"
    have sym : apart b a = apart a b := by
      unfold apart
      have hc : (TL.numL a.natAbs).length = (TL.numL b.natAbs).length → cnt 0 (TL.numL b.natAbs) (TL.numL a.natAbs) = cnt 0 (TL.numL a.natAbs) (TL.numL b.natAbs) := fun h => by
        unfold cnt
        rw [h]
        congr 1
        apply List.filter_congr
        intro i _
        exact decide_eq_decide.mpr ⟨fun h e => h e.symm, fun h e => h e.symm⟩
      by_cases h : (TL.numL a.natAbs).length = (TL.numL b.natAbs).length
      · rw [decide_eq_true h, decide_eq_true h.symm, hc h]
        congr 2
        cases decide (a < 0) <;> cases decide (b < 0) <;> rfl
      · rw [decide_eq_false h, decide_eq_false fun e => h e.symm]
        rfl
    have refl : apart a a = false := by
      unfold apart cnt
      have : (List.range (TL.numL a.natAbs).length).filter (fun i => decide ((TL.numL a.natAbs).getD i 0 ≠ (TL.numL a.natAbs).getD i 0)) = [] := List.filter_eq_nil_iff.mpr fun i _ => by simp
      rw [this]
      simp
    have ba : a.natAbs < 10 ^ 30 := by rw [na]; exact bA
    have bb : b.natAbs < 10 ^ 30 := by rw [nb]; exact bB
    have two : ∀ p : Bool, decide (p = p) = true := fun p => decide_eq_true rfl
    walk_at "dl"
    rw [one_apart a b ba bb]
    walk_at "dl"
    rw [one_apart b a bb ba, sym]
    walk_at "dl"
    rw [one_apart a b ba bb]
    walk_at "dl"
    rw [one_apart a a ba ba, refl]
    walk_at "dl"
    exact runs_rt rfl
  exact main.eq
end LW

namespace LW
open PySem PySem.Spec L2 DL
open PyProof.Rows hiding St
def top (i : Nat) : Stmt := PySem.Challenge.pw_looseledger_k01_one_figure_apart.main.body.getD i (.Pass ⟨0, 0, 0, 0⟩)
abbrev s_law_draws : Stmt := top 3
abbrev n_law_draws : List Str := ["_law_script", "_law_sizes", "_law_rest", "_law_great", "_law_mixed", "_law_row", "_law_k"]
theorem sc_law_draws : FnScope n_law_draws ["_law_script", "_law_sizes"] (defScope s_law_draws) := ⟨rfl, rfl, rfl, by decide +kernel, rfl, by decide +kernel, by decide +kernel⟩
abbrev s_law_number : Stmt := top 4
abbrev n_law_number : List Str := ["_law_figures", "_law_negative", "_law_number_here", "_law_figure"]
theorem sc_law_number : FnScope n_law_number ["_law_figures", "_law_negative"] (defScope s_law_number) := ⟨rfl, rfl, rfl, by decide +kernel, rfl, by decide +kernel, by decide +kernel⟩
abbrev s_one_figure_apart : Stmt := top 1
abbrev n_one_figure_apart : List Str := ["first", "second", "one", "two", "at"]
theorem sc_one_figure_apart : FnScope n_one_figure_apart ["first", "second"] (defScope s_one_figure_apart) := ⟨rfl, rfl, rfl, by decide +kernel, rfl, by decide +kernel, by decide +kernel⟩
abbrev s_law : Stmt := top 5
abbrev n_law : List Str := ["_law_script", "_law_row", "_law_count", "_law_figures", "_law_others", "_law_place", "_law_negative", "_law_first", "_law_second", "_law_due", "_law_one", "_law_other", "_law_actual", "_law_k"]
theorem sc_law : FnScope n_law ["_law_script"] (defScope s_law) := ⟨rfl, rfl, rfl, by decide +kernel, rfl, by decide +kernel, by decide +kernel⟩
/-! the facts -/
structure Ev (K : PySem.W.Frag) (mg : Str → Option Value) : Prop where
  z_abs : mg "abs" = none
  z_bool : mg "bool" = none
  z_int : mg "int" = none
  z_isinstance : mg "isinstance" = none
  z_len : mg "len" = none
  z_list : mg "list" = none
  z_range : mg "range" = none
  z_str : mg "str" = none
  F_law_draws : ∃ fd, FunD K "_law_draws" "_law_draws" (defArgs s_law_draws) (defBody s_law_draws) (defScope s_law_draws) [] [] (He.ga K "_law_draws") fd
  m_law_draws : mg "_law_draws" = some (.ref (He.ga K "_law_draws"))
  F_law_number : ∃ fd, FunD K "_law_number" "_law_number" (defArgs s_law_number) (defBody s_law_number) (defScope s_law_number) [] [] (He.ga K "_law_number") fd
  m_law_number : mg "_law_number" = some (.ref (He.ga K "_law_number"))
  F_one_figure_apart : ∃ fd, FunD K "one_figure_apart" "one_figure_apart" (defArgs s_one_figure_apart) (defBody s_one_figure_apart) (defScope s_one_figure_apart) [] [] (He.ga K "one_figure_apart") fd
  m_one_figure_apart : mg "one_figure_apart" = some (.ref (He.ga K "one_figure_apart"))
  F_law : ∃ fd, FunD K "law" "law" (defArgs s_law) (defBody s_law) (defScope s_law) [] [] (He.ga K "law") fd
  m_law : mg "law" = some (.ref (He.ga K "law"))
def tb (K : PySem.W.Frag) : Tbl := ⟨fun _ => 0, fun _ => []⟩
section
variable {P : Program} {w : World} {K : PySem.W.Frag} {mg : Str → Option Value} {base : Heap}
theorem ok_law_draws (E : Ev K mg) : Ok P w K mg base (tb K) 1 (He.ga K "_law_draws") ["_law_script", "_law_sizes"] [false, false] true f_law_draws :=
  okD (k := 0) (g := g_law_draws) E.F_law_draws sc_law_draws rfl (by decide) (fun _ ds ρ' => (noNx_seq (noNx_seq (noNx_seq (noNx_seq (noNx_seq (noNx_seq (noNx_retO)))))) : NoNx g_law_draws) _ ρ') (fun _ _ _ _ _ _ us hl => match us, hl with | [_, _], _ => rfl) (fun cdv A outer s H E' hr =>
    (dss_cons (ds_asg de_int (dg_name (pg_name (i := 2) sc_law_draws.nd rfl (Or.inl rfl)))) (dss_cons (ds_if (dt_cmp op_gt (nomark _) (de_b1 cr_len (by rfl) E.z_len PySem.boot_len (de_varA (pv 0)) len_ok) de_int gt_ok) (dss_one (ds_asg (de_b1 call_abs (by rfl) E.z_abs PyProof.Rows.boot_abs (de_t1 call_int1 (by rfl) E.z_int PyProof.Rows.boot_int (de_ix ix_idx (de_varA (pv 0)) de_int (fun _ _ => rfl) idx_ok) int_ok) abs_ok) (dg_name (pg_name (i := 2) sc_law_draws.nd rfl (Or.inl rfl))))) dss_nil) (dss_cons (ds_asg (de_cmp op_ge (nomark _) (de_var (pv 2)) (de_op2 op_pow de_int de_int pow_ok) ge_ok) (dg_name (pg_name (i := 3) sc_law_draws.nd rfl (Or.inl rfl)))) (dss_cons (ds_asg de_int (dg_name (pg_name (i := 4) sc_law_draws.nd rfl (Or.inl rfl)))) (dss_cons (ds_own (i := 5) (de_lst da_nil) (pg_name (i := 5) sc_law_draws.nd rfl (Or.inl rfl))) (dss_cons (ds_for passesD rfl (di_range1 (by rfl) E.z_range (de_b1 cr_len (by rfl) E.z_len PySem.boot_len (de_varA (pv 1)) len_ok)) (dg_name (pg_name (i := 6) sc_law_draws.nd rfl (Or.inl rfl))) (dss_cons (ds_if (dt_cmp op_lt (nomark _) (de_var (pv 6)) (de_b1 cr_len (by rfl) E.z_len PySem.boot_len (de_varA (pv 0)) len_ok) lt_ok) (dss_one (ds_asg (de_op2 op_adds (de_var (pv 4)) (de_op2 op_modN (de_t1 call_int1 (by rfl) E.z_int PyProof.Rows.boot_int (de_ix ix_idx (de_varA (pv 0)) (de_var (pv 6)) (fun _ _ => rfl) idx_ok) int_ok) de_int mod_ok) adds_ok) (dg_name (pg_name (i := 4) sc_law_draws.nd rfl (Or.inl rfl))))) dss_nil) (dss_cons (ds_asg (de_op2 op_modN (de_t1 call_int1 (by rfl) E.z_int PyProof.Rows.boot_int (de_op2 op_mul (de_var (pv 4)) de_int mul_ok) int_ok) de_int mod_ok) (dg_name (pg_name (i := 4) sc_law_draws.nd rfl (Or.inl rfl)))) (dss_one (ds_if (dt_truth (de_var (pv 3))) (dss_cons (ds_append (pv 5) (de_op2 op_modN (de_t1 call_int1 (by rfl) E.z_int PyProof.Rows.boot_int (de_var (pv 2)) int_ok) (de_ix ix_idx (de_varA (pv 1)) (de_var (pv 6)) (fun _ _ => rfl) idx_ok) mod_ok)) (dss_one (ds_asg (de_op2 op_fdivN (de_var (pv 2)) (de_ix ix_idx (de_varA (pv 1)) (de_var (pv 6)) (fun _ _ => rfl) idx_ok) fdiv_ok) (dg_name (pg_name (i := 2) sc_law_draws.nd rfl (Or.inl rfl)))))) (dss_one (ds_append (pv 5) (de_op2 op_modN (de_op2 op_modN (de_t1 call_int1 (by rfl) E.z_int PyProof.Rows.boot_int (de_op2 op_adds (de_op2 op_adds (de_op2 op_mul (de_var (pv 4)) (de_op2 op_adds (de_op2 op_mul de_int (de_var (pv 6)) mul_ok) de_int adds_ok) mul_ok) (de_op2 op_fdivN (de_var (pv 4)) de_int fdiv_ok) adds_ok) (de_op2 op_pow (de_op2 op_adds (de_var (pv 6)) de_int adds_ok) de_int pow_ok) adds_ok) int_ok) de_int mod_ok) (de_ix ix_idx (de_varA (pv 1)) (de_var (pv 6)) (fun _ _ => rfl) idx_ok) mod_ok)))))))) (dss_one (ds_retO (pv 5))))))))))
theorem ok_law_number (E : Ev K mg) : Ok P w K mg base (tb K) 1 (He.ga K "_law_number") ["_law_figures", "_law_negative"] [false, false] false f_law_number :=
  okD (k := 0) (g := g_law_number) E.F_law_number sc_law_number rfl (by decide) (fun e => nomatch e) (fun _ _ _ _ _ _ us hl => match us, hl with | [_, _], _ => rfl) (fun cdv A outer s H E' hr =>
    (dss_cons (ds_asg de_int (dg_name (pg_name (i := 2) sc_law_number.nd rfl (Or.inl rfl)))) (dss_cons (ds_for passesD rfl (di_list (de_varB (pv 0))) (dg_name (pg_name (i := 3) sc_law_number.nd rfl (Or.inl rfl))) (dss_one (ds_asg (de_op2 op_adds (de_op2 op_mul (de_var (pv 2)) de_int mul_ok) (de_var (pv 3)) adds_ok) (dg_name (pg_name (i := 2) sc_law_number.nd rfl (Or.inl rfl)))))) (dss_cons (ds_if (dt_truth (de_varA (pv 1))) (dss_one (ds_ret (de_un un_neg (de_var (pv 2)) neg_ok))) dss_nil) (dss_one (ds_ret (de_var (pv 2))))))))
theorem ok_one_figure_apart (E : Ev K mg) : Ok P w K mg base (tb K) 1 (He.ga K "one_figure_apart") ["first", "second"] [false, false] false f_one_figure_apart :=
  okD (k := 0) (g := g_one_figure_apart) E.F_one_figure_apart sc_one_figure_apart rfl (by decide) (fun e => nomatch e) (fun _ _ _ _ _ _ us hl => match us, hl with | [_, _], _ => rfl) (fun cdv A outer s H E' hr =>
    (dss_cons (ds_asg (de_tup (da_cons (de_t1 call_str_int (by rfl) E.z_str PyProof.Rows.boot_str (de_b1 call_abs (by rfl) E.z_abs PyProof.Rows.boot_abs (de_varA (pv 0)) abs_ok) str_ok) (da_cons (de_t1 call_str_int (by rfl) E.z_str PyProof.Rows.boot_str (de_b1 call_abs (by rfl) E.z_abs PyProof.Rows.boot_abs (de_varA (pv 1)) abs_ok) str_ok) da_nil))) (dg_seq rfl (.cons (pg_name (i := 2) sc_one_figure_apart.nd rfl (Or.inr rfl)) (.cons (pg_name (i := 3) sc_one_figure_apart.nd rfl (Or.inr rfl)) .nil rfl) rfl))) (dss_cons (ds_if (DW.dt (dw_or (dt_cmp (op_neD hr.units) (nomark _) (de_b1 cr_len (by rfl) E.z_len PySem.boot_len (de_var (pv 2)) len_ok) (de_b1 cr_len (by rfl) E.z_len PySem.boot_len (de_var (pv 3)) len_ok) ne_ok) (dw_or1 (dt_cmp (op_neD hr.units) (nomark _) (de_cmp op_lt (nomark _) (de_varA (pv 0)) de_int lt_ok) (de_cmp op_lt (nomark _) (de_varA (pv 1)) de_int lt_ok) ne_ok)))) (dss_one (ds_ret de_bl)) dss_nil) (dss_one (ds_ret (de_cmp (op_eqD hr.units) (nomark _) (de_b1 cr_len (by rfl) E.z_len PySem.boot_len (de_lc (own := [("at", 4)]) rfl sc_one_figure_apart.nd (di_range1 (by rfl) E.z_range (de_b1 cr_len (by rfl) E.z_len PySem.boot_len (de_var (pv 2)) len_ok)) (blkOk_by (N := n_one_figure_apart) (sc := defScope s_one_figure_apart) (by decide +kernel)) (fun _ _ _ _ _ => (dg_name (pg_name (i := 4) sc_one_figure_apart.nd rfl (Or.inl rfl)))) (fun _ _ _ _ _ => (dts_one (dt_cmp (op_neD hr.units) (nomark _) (de_ix ix_idx (de_var (pv 2)) (de_var (pv 4)) (fun _ _ => rfl) idx_ok) (de_ix ix_idx (de_var (pv 3)) (de_var (pv 4)) (fun _ _ => rfl) idx_ok) ne_ok))) (fun _ _ _ _ _ => (de_var (pv 4)))) len_ok) de_int eq_ok))))))
theorem law_ok (E : Ev K mg) {fd : FuncData} (F : FunD K "law" "law" (defArgs s_law) (defBody s_law) (defScope s_law) [] [] (He.ga K "law") fd) : FnOk P w K mg base (L2.CX P w) 2 (He.ga K "law") fd ["_law_script"] (spD (tb K) K [true] false f_law) :=
  okLaw (k := 1) (g := g_law) F sc_law (by decide) (fun cdv A outer s H E' hr =>
    (dss_cons (ds_asg ((de_callO (ok_law_draws E) hr (by decide) takesD E.m_law_draws (da_consB (de_varA (pv 0)) (da_consB (de_op2 op_cat (de_lst (da_cons de_int (da_cons de_int (da_cons de_int (da_cons de_int (da_cons de_int (da_cons de_int (da_cons de_int (da_cons de_int (da_cons de_int (da_cons de_int da_nil))))))))))) (de_op2 op_rep (de_lst (da_cons de_int da_nil)) de_int rep_ok) cat_ok) da_nil)) (by rfl))).fp (dg_name (pg_name (i := 1) sc_law.nd rfl (Or.inl rfl)))) (dss_cons (ds_asg (de_op2 op_sub de_int (de_ix ix_idx (de_var (pv 1)) de_int (fun _ _ => rfl) idx_ok) sub_ok) (dg_name (pg_name (i := 2) sc_law.nd rfl (Or.inl rfl)))) (dss_cons (ds_own (i := 3) (de_slice (de_var (pv 1)) (do_some de_int) (do_some (de_op2 op_adds de_int (de_var (pv 2)) adds_ok))) (pg_name (i := 3) sc_law.nd rfl (Or.inr rfl))) (dss_cons (ds_if (DW.dt (dw_and (dt_cmp op_gt (nomark _) (de_var (pv 2)) de_int gt_ok) (dw_and1 (dt_cmp (op_eqD hr.units) (nomark _) (de_ix ix_idx (de_varA (pv 3)) de_int (fun _ _ => rfl) idx_ok) de_int eq_ok)))) (dss_one (ds_put de_int (pv 3) de_int)) dss_nil) (dss_cons (ds_own (i := 4) (de_t1 call_list_of (by rfl) E.z_list PyProof.Rows.boot_list (de_varA (pv 3)) list_ok) (pg_name (i := 4) sc_law.nd rfl (Or.inr rfl))) (dss_cons (ds_if (dt_cmp op_gt (nomark _) (de_ix ix_idx (de_var (pv 1)) de_int (fun _ _ => rfl) idx_ok) de_int gt_ok) (dss_cons (ds_asg (de_op2 op_modN (de_t1 call_int1 (by rfl) E.z_int PyProof.Rows.boot_int (de_ix ix_idx (de_var (pv 1)) de_int (fun _ _ => rfl) idx_ok) int_ok) (de_var (pv 2)) mod_ok) (dg_name (pg_name (i := 5) sc_law.nd rfl (Or.inl rfl)))) (dss_one (ds_put (de_op2 op_modN (de_t1 call_int1 (by rfl) E.z_int PyProof.Rows.boot_int (de_op2 op_adds (de_op2 op_adds (de_ix ix_idx (de_varA (pv 4)) (de_var (pv 5)) (fun _ _ => rfl) idx_ok) de_int adds_ok) (de_ix ix_idx (de_var (pv 1)) de_int (fun _ _ => rfl) idx_ok) adds_ok) int_ok) de_int mod_ok) (pv 4) (de_var (pv 5))))) dss_nil) (dss_cons (ds_if (dt_cmp op_gt (nomark _) (de_ix ix_idx (de_var (pv 1)) de_int (fun _ _ => rfl) idx_ok) de_int gt_ok) (dss_cons (ds_asg (de_op2 op_modN (de_t1 call_int1 (by rfl) E.z_int PyProof.Rows.boot_int (de_ix ix_idx (de_var (pv 1)) de_int (fun _ _ => rfl) idx_ok) int_ok) (de_var (pv 2)) mod_ok) (dg_name (pg_name (i := 5) sc_law.nd rfl (Or.inl rfl)))) (dss_one (ds_put (de_op2 op_modN (de_t1 call_int1 (by rfl) E.z_int PyProof.Rows.boot_int (de_op2 op_adds (de_op2 op_adds (de_ix ix_idx (de_varA (pv 4)) (de_var (pv 5)) (fun _ _ => rfl) idx_ok) de_int adds_ok) (de_ix ix_idx (de_var (pv 1)) de_int (fun _ _ => rfl) idx_ok) adds_ok) int_ok) de_int mod_ok) (pv 4) (de_var (pv 5))))) dss_nil) (dss_cons (ds_if (dt_cmp (op_eqD hr.units) (nomark _) (de_ix ix_idx (de_var (pv 1)) de_int (fun _ _ => rfl) idx_ok) de_int eq_ok) (dss_cons (ds_asg (de_op2 op_modN (de_t1 call_int1 (by rfl) E.z_int PyProof.Rows.boot_int (de_ix ix_idx (de_var (pv 1)) de_int (fun _ _ => rfl) idx_ok) int_ok) (de_var (pv 2)) mod_ok) (dg_name (pg_name (i := 5) sc_law.nd rfl (Or.inl rfl)))) (dss_one (ds_put (de_op2 op_modN (de_t1 call_int1 (by rfl) E.z_int PyProof.Rows.boot_int (de_op2 op_adds (de_op2 op_adds (de_ix ix_idx (de_varA (pv 4)) (de_var (pv 5)) (fun _ _ => rfl) idx_ok) de_int adds_ok) (de_ix ix_idx (de_var (pv 1)) de_int (fun _ _ => rfl) idx_ok) adds_ok) int_ok) de_int mod_ok) (pv 4) (de_var (pv 5))))) dss_nil) (dss_cons (ds_if (DW.dt (dw_and (dt_cmp (op_eqD hr.units) (nomark _) (de_ix ix_idx (de_var (pv 1)) de_int (fun _ _ => rfl) idx_ok) de_int eq_ok) (dw_and1 (dt_cmp op_lt (nomark _) (de_var (pv 2)) de_int lt_ok)))) (dss_one (ds_append (pv 4) de_int)) dss_nil) (dss_cons (ds_if (DW.dt (dw_and (dt_cmp op_gt (nomark _) (de_b1 cr_len (by rfl) E.z_len PySem.boot_len (de_varA (pv 4)) len_ok) de_int gt_ok) (dw_and1 (dt_cmp (op_eqD hr.units) (nomark _) (de_ix ix_idx (de_varA (pv 4)) de_int (fun _ _ => rfl) idx_ok) de_int eq_ok)))) (dss_one (ds_put de_int (pv 4) de_int)) dss_nil) (dss_cons (ds_asg (de_cmp (op_eqD hr.units) (nomark _) (de_ix ix_idx (de_var (pv 1)) de_int (fun _ _ => rfl) idx_ok) de_int eq_ok) (dg_name (pg_name (i := 6) sc_law.nd rfl (Or.inl rfl)))) (dss_cons (ds_asg (de_callO (ok_law_number E) hr (by decide) takesD E.m_law_number (da_consB (de_varA (pv 3)) (da_consB (de_var (pv 6)) da_nil)) (by rfl)) (dg_name (pg_name (i := 7) sc_law.nd rfl (Or.inl rfl)))) (dss_cons (ds_asg (de_callO (ok_law_number E) hr (by decide) takesD E.m_law_number (da_consB (de_varA (pv 4)) (da_consB (de_cmp (op_neD hr.units) (nomark _) (de_var (pv 6)) (de_cmp (op_eqD hr.units) (nomark _) (de_ix ix_idx (de_var (pv 1)) de_int (fun _ _ => rfl) idx_ok) de_int eq_ok) ne_ok) da_nil)) (by rfl)) (dg_name (pg_name (i := 8) sc_law.nd rfl (Or.inl rfl)))) (dss_cons (ds_asg (de_and (de_cmp (op_eqD hr.units) (nomark _) (de_cmp op_lt (nomark _) (de_var (pv 7)) de_int lt_ok) (de_cmp op_lt (nomark _) (de_var (pv 8)) de_int lt_ok) eq_ok) (de_one (de_cmp (op_eqD hr.units) (nomark _) (de_b1 cr_len (by rfl) E.z_len PySem.boot_len (de_varA (pv 3)) len_ok) (de_b1 cr_len (by rfl) E.z_len PySem.boot_len (de_varA (pv 4)) len_ok) eq_ok))) (dg_name (pg_name (i := 9) sc_law.nd rfl (Or.inl rfl)))) (dss_cons (ds_if (dt_truth (de_var (pv 9))) (dss_one (ds_asg (de_cmp (op_eqD hr.units) (nomark _) (de_b1 cr_len (by rfl) E.z_len PySem.boot_len (de_lc (own := [("_law_k", 13)]) rfl sc_law.nd (di_range1 (by rfl) E.z_range (de_var (pv 2))) (blkOk_by (N := n_law) (sc := defScope s_law) (by decide +kernel)) (fun _ _ _ _ _ => (dg_name (pg_name (i := 13) sc_law.nd rfl (Or.inl rfl)))) (fun _ _ _ _ _ => (dts_one (dt_cmp (op_neD hr.units) (nomark _) (de_ix ix_idx (de_varA (pv 3)) (de_var (pv 13)) (fun _ _ => rfl) idx_ok) (de_ix ix_idx (de_varA (pv 4)) (de_var (pv 13)) (fun _ _ => rfl) idx_ok) ne_ok))) (fun _ _ _ _ _ => (de_var (pv 13)))) len_ok) de_int eq_ok) (dg_name (pg_name (i := 9) sc_law.nd rfl (Or.inl rfl))))) dss_nil) (dss_cons (ds_for passesD rfl (di_list ((de_lst (da_cons (de_tup (da_cons (de_var (pv 7)) (da_cons (de_var (pv 8)) da_nil))) (da_cons (de_tup (da_cons (de_var (pv 8)) (da_cons (de_var (pv 7)) da_nil))) (da_cons (de_tup (da_cons (de_var (pv 7)) (da_cons (de_var (pv 8)) da_nil))) da_nil))))).fp.bor) (dg_seq rfl (.cons (pg_name (i := 10) sc_law.nd rfl (Or.inl rfl)) (.cons (pg_name (i := 11) sc_law.nd rfl (Or.inl rfl)) .nil rfl) rfl)) (dss_cons (ds_asg (de_callO (ok_one_figure_apart E) hr (by decide) takesD E.m_one_figure_apart (da_consB (de_var (pv 10)) (da_consB (de_var (pv 11)) da_nil)) (by rfl)) (dg_name (pg_name (i := 12) sc_law.nd rfl (Or.inl rfl)))) (dss_one (ds_if (DW.dt (dw_or (dt_not (dt_truth (de_isi (c := "bool") (by rfl) E.z_isinstance (de_var (pv 12)) (by rfl) E.z_bool (by decide +kernel)))) (dw_or1 (dt_cmp (op_neD hr.units) (nomark _) (de_var (pv 12)) (de_var (pv 9)) ne_ok)))) (dss_one (ds_ret de_bl)) dss_nil)))) (dss_one (ds_ret (de_cmp op_is_bl (nomark _) (de_callO (ok_one_figure_apart E) hr (by decide) takesD E.m_one_figure_apart (da_consB (de_var (pv 7)) (da_consB (de_var (pv 7)) da_nil)) (by rfl)) de_bl isb_ok))))))))))))))))))))
end
/-! the head -/
def fn : List DefZ := [(⟨fun K => He.ga K "_law_draws", "_law_draws", "_law_draws", defArgs s_law_draws, defBody s_law_draws, defScope s_law_draws⟩ : DefZ),
  (⟨fun K => He.ga K "_law_number", "_law_number", "_law_number", defArgs s_law_number, defBody s_law_number, defScope s_law_number⟩ : DefZ),
  (⟨fun K => He.ga K "one_figure_apart", "one_figure_apart", "one_figure_apart", defArgs s_one_figure_apart, defBody s_one_figure_apart, defScope s_one_figure_apart⟩ : DefZ),
  (⟨fun K => He.ga K "law", "law", "law", defArgs s_law, defBody s_law, defScope s_law⟩ : DefZ)]
def fa : List He.Fa := [.glo "_law_draws", .glo "_law_number", .glo "one_figure_apart", .glo "law", .free "abs", .free "bool", .free "int", .free "isinstance", .free "len", .free "list", .free "range", .free "str"]
def ex (_ : PySem.W.Frag) : Bool := true
abbrev RR : PySem.W.OpenRow := PySem.W.OpenLaw.row PySem.Challenge.rw_looseledger_k01_one_figure_apart
abbrev hk : PySem.W.Hook := hookZ 4 fa ex fn
def ob (s : PySem.W.SharedT) : He.AlD := obsZG 4 fa ex fn (HandSHeadRun.getT s)
theorem ob_eq (s : PySem.W.SharedT) : ob s = hk.obs s.abs := obsZG_eq (HandSHeadRun.getT_eq s)
def loose : List PySem.Str := (["one_figure_apart", "_law_draws", "_law_number"] : List PySem.Str)
theorem run (w : World) : HandSHeadRun.RunEq RR (PySem.W.view RR.prog [5]) hk ob 6000 loose w := by
  intro os
  kernel_rfl
theorem ev_of {K : PySem.W.Frag} {h : Heap} {mg : Str → Option Value} (X : K.In h) (G : h.Ns mainGlobals mg) (c : SaysZ fa ex fn K) : Ev K mg where
  z_abs := He.free_ok X G (c.fact 4 (f := .free "abs"))
  z_bool := He.free_ok X G (c.fact 5 (f := .free "bool"))
  z_int := He.free_ok X G (c.fact 6 (f := .free "int"))
  z_isinstance := He.free_ok X G (c.fact 7 (f := .free "isinstance"))
  z_len := He.free_ok X G (c.fact 8 (f := .free "len"))
  z_list := He.free_ok X G (c.fact 9 (f := .free "list"))
  z_range := He.free_ok X G (c.fact 10 (f := .free "range"))
  z_str := He.free_ok X G (c.fact 11 (f := .free "str"))
  F_law_draws := c.def_ 0 (d := ⟨fun K => He.ga K "_law_draws", "_law_draws", "_law_draws", defArgs s_law_draws, defBody s_law_draws, defScope s_law_draws⟩)
  m_law_draws := He.glo_ok X G (c.fact 0 (f := .glo "_law_draws"))
  F_law_number := c.def_ 1 (d := ⟨fun K => He.ga K "_law_number", "_law_number", "_law_number", defArgs s_law_number, defBody s_law_number, defScope s_law_number⟩)
  m_law_number := He.glo_ok X G (c.fact 1 (f := .glo "_law_number"))
  F_one_figure_apart := c.def_ 2 (d := ⟨fun K => He.ga K "one_figure_apart", "one_figure_apart", "one_figure_apart", defArgs s_one_figure_apart, defBody s_one_figure_apart, defScope s_one_figure_apart⟩)
  m_one_figure_apart := He.glo_ok X G (c.fact 2 (f := .glo "one_figure_apart"))
  F_law := c.def_ 3 (d := ⟨fun K => He.ga K "law", "law", "law", defArgs s_law, defBody s_law, defScope s_law⟩)
  m_law := He.glo_ok X G (c.fact 3 (f := .glo "law"))
end LW

open PySem PySem.W PySem.Calls PyProof.Rows
set_option maxRecDepth 100000 in
set_option maxHeartbeats 0 in
theorem PySem.Challenge.cw_looseledger_k01_one_figure_apart_holds : PySem.Challenge.rw_looseledger_k01_one_figure_apart.Holds := by
  w_on; o_law
  refine HandSHeadRun.head_any (r := OpenLaw.row PySem.Challenge.rw_looseledger_k01_one_figure_apart) (q := view (OpenLaw.row PySem.Challenge.rw_looseledger_k01_one_figure_apart).prog [5]) (H := LW.hk) (ob := LW.ob) (M := 6000) (loose := LW.loose) (d := HandSHeadRun.topDef (OpenLaw.row PySem.Challenge.rw_looseledger_k01_one_figure_apart).prog 5) (kwd := []) LW.ob_eq
    (by kernel_rfl) (fun s => by kernel_rfl) LW.run (by kernel_rfl) (by kernel_rfl) (by kernel_rfl) (by rfl) (by first | assumption | decide +kernel) (by decide +kernel) ⟨rfl, rfl, rfl, rfl, rfl, by decide +kernel⟩ ?hw ?hc
  case hw => w_witness2
  case hc =>
    refine DL.walk_dl (l := PySem.Challenge.rw_looseledger_k01_one_figure_apart) (k := 2) (x := "_law_script") (den := LW.f_law) rfl (by kernel_rfl) ⟨rfl, by decide, by decide⟩ LW.law_true ?F
    intro w mg fa h Y G hmg0
    obtain ⟨K, KX, c⟩ := Y
    have hmg : mg ("law" : PySem.Str) = some (.ref fa) := by
      have e : (HandSHeadRun.topDef (OpenLaw.row PySem.Challenge.rw_looseledger_k01_one_figure_apart).prog 5).name = ("law" : PySem.Str) := by kernel_rfl
      rw [← e]
      exact hmg0
    have E := LW.ev_of KX G c
    have e2 := hmg.symm.trans E.m_law
    cases e2
    obtain ⟨fd, FL⟩ := E.F_law
    exact ⟨K, fd, LW.tb K, KX, fun s v => L2.FunD.bindsA (ps := ["_law_script"]) FL (fun _ _ _ _ _ _ us hl => match us, hl with | [_], _ => rfl) s [v] rfl, fun base _ _ => LW.law_ok E FL⟩
