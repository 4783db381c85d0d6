import PyProof.Rows.All
import Wide.All
import OpenK.AllK
import Wide.FinOn
import HandS.ForMost
import HandS.ForExc
import HandS.CallSlots
import HandS.Deep
import HandS.HeadHook2
import HandS.Property
import HandS.Zip
import HandS.TupAny
import HandS.TupMul
import HandS.IsInst
import HandS.Text
import HandS.Conv
import HandS.Defaults
import KE.SortData
import HandS.DictComp
import HandS.Head0
import HandS.Head1
import HandS.Head2
import HandS.HeadEnd
import PySem.Challenge.RW_hurryways_k04_whole_rows_of_a_web
set_option Elab.async false
set_option linter.all false
set_option maxRecDepth 100000
set_option maxHeartbeats 0
namespace DL
open PySem L2 PySem.Spec PyProof.Rows

/-! ### data -/
inductive D where
  | non | bl (b : Bool) | int (i : Int) | str (s : Str)
  | tup (l : List D) | lst (l : List D)
  | dct (ks : List Key) (l : List D) | dcT (ks : List (List Key)) (l : List D)
  | obj (c : Str) (ns : List Str) (l : List D)
  | scr (l : List Int)

section
variable (K : PySem.W.Frag) (cl : Str → Addr) (G : Hp)
mutual
inductive Rep : D → V → Prop
  | non : Rep .non .non
  | bl {b : Bool} : Rep (.bl b) (.bl b)
  | int {i : Int} : Rep (.int i) (.int i)
  | str {s : Str} : Rep (.str s) (.str s)
  | tup {l : List D} {a : Addr} {vs : List V} : SqT K G a vs → RepL l vs → Rep (.tup l) (.ref a)
  | lst {l : List D} {a : Addr} {vs : List V} : G a = some (.lst vs) → RepL l vs → Rep (.lst l) (.ref a)
  | scr {l : List Int} {a : Addr} : SqL K G a (l.map V.int) → Rep (.scr l) (.ref a)
  | dct {ks : List Key} {l : List D} {a : Addr} {vs : List V} : G a = some (.dK (ks.zip vs)) → ks.length = vs.length → RepL l vs → Rep (.dct ks l) (.ref a)
  | dcT {ks : List (List Key)} {l : List D} {a : Addr} {vs : List V} : G a = some (.dT (ks.zip vs)) → ks.length = vs.length → RepL l vs → Rep (.dcT ks l) (.ref a)
  | obj {c : Str} {ns : List Str} {l : List D} {a dx : Addr} {vs : List V} : G a = some (.ins (cl c) dx (ns.zip vs)) → ns.length = vs.length → RepL l vs → Rep (.obj c ns l) (.ref a)
inductive RepL : List D → List V → Prop
  | nil : RepL [] []
  | cons {d : D} {v : V} {ds : List D} {vs : List V} : Rep d v → RepL ds vs → RepL (d :: ds) (v :: vs)
end
end

theorem SqT.same {K : PySem.W.Frag} {H H' : Hp} {a : Addr} {xs : List V} (e : Same H H') (h : SqT K H a xs) : SqT K H' a xs := by
  rcases h with (h
                                                                                                              | ⟨o, h⟩) | h
  · exact .inl (.inl (e _ _ h))
  · exact .inl (.inr
                                                                                                              ⟨o, e _ _ h⟩)
  · exact .inr h

section
variable {K : PySem.W.Frag} {cl : Str → Addr} {G G' H : Hp}
mutual
theorem Rep.mono (e : Same G G') : ∀ {d : D} {v : V}, Rep K cl G d v → Rep K cl G' d v
  | _, _, .non => .non
  | _, _, .bl => .bl
  | _, _, .int => .int
  | _, _, .str => .str
  | _, _, .tup h r => .tup (SqT.same e h) (RepL.mono e r)
  | _, _, .lst h r => .lst (e _ _ h) (RepL.mono e r)
  | _, _, .scr h => .scr (Same.seq e h)
  | _, _, .dct h l r => .dct (e _ _ h) l (RepL.mono e r)
  | _, _, .dcT h l r => .dcT (e _ _ h) l (RepL.mono e r)
  | _, _, .obj h l r => .obj (e _ _ h) l (RepL.mono e r)
theorem RepL.mono (e : Same G G') : ∀ {d : List D} {v : List V}, RepL K cl G d v → RepL K cl G' d v
  | _, _, .nil => .nil
  | _, _, .cons h r => .cons (Rep.mono e h) (RepL.mono e r)
end

theorem RepL.length : ∀ {ds : List D} {vs : List V}, RepL K cl G ds vs → ds.length = vs.length
  | _, _, .nil => rfl
  | _, _, .cons _ r => congrArg (· + 1) (RepL.length r)
theorem RepL.get : ∀ {ds : List D} {vs : List V} {i : Nat} {v : V}, RepL K cl G ds vs → vs[i]? = some v → ∃ d, ds[i]? = some d ∧ Rep K cl G d v
  | _, _, _, _, .nil, e =>
                                                                                                              by simp at e
  | _, _, 0, _, .cons r _, e =>
                                                                                                              by simp at e; subst e; exact ⟨_, rfl, r⟩
  | _, _, i + 1, v, .cons _ t, e => by
    obtain ⟨d, h1, h2⟩ := RepL.get (i := i) (v := v) t (by simpa using e)
    exact ⟨d, by simpa using h1, h2⟩
theorem RepL.getD : ∀ {ds : List D} {vs : List V} {i : Nat} {d : D}, RepL K cl G ds vs → ds[i]? = some d → ∃ v, vs[i]? = some v ∧ Rep K cl G d v
  | _, _, _, _, .nil, e =>
                                                                                                              by simp at e
  | _, _, 0, _, .cons r _, e =>
                                                                                                              by simp at e; subst e; exact ⟨_, rfl, r⟩
  | _, _, i + 1, d, .cons _ t, e => by
    obtain ⟨v, h1, h2⟩ := RepL.getD (i := i) (d := d) t (by simpa using e)
    exact ⟨v, by simpa using h1, h2⟩
theorem RepL.append : ∀ {ds es : List D} {vs us : List V}, RepL K cl G ds vs → RepL K cl G es us → RepL K cl G (ds ++ es) (vs ++ us)
  | _, _, _, _, .nil, s => s
  | _, _, _, _, .cons r t, s => .cons r (RepL.append t s)
theorem RepL.take : ∀ {ds : List D} {vs : List V} (n : Nat), RepL K cl G ds vs → RepL K cl G (ds.take n) (vs.take n)
  | _, _, 0, _ => .nil
  | _, _, _ + 1, .nil => .nil
  | _, _, n + 1, .cons r t => .cons r (RepL.take n t)
theorem RepL.drop : ∀ {ds : List D} {vs : List V} (n : Nat), RepL K cl G ds vs → RepL K cl G (ds.drop n) (vs.drop n)
  | _, _, 0, r => r
  | _, _, _ + 1, .nil => .nil
  | _, _, n + 1, .cons _ t => RepL.drop n t
theorem RepL.reverse {ds : List D} {vs : List V} (h : RepL K cl G ds vs) : RepL K cl G ds.reverse vs.reverse := by
  match ds, vs, h with
  | _, _, .nil => exact .nil
  | _, _, .cons r t => simp only [List.reverse_cons]; exact (RepL.reverse t).append (.cons r .nil)
theorem RepL.set {d : D} {v : V} (r : Rep K cl G d v) : ∀ {ds : List D} {vs : List V} (i : Nat), RepL K cl G ds vs → RepL K cl G (ds.set i d) (vs.set i v)
  | _, _, _, .nil => .nil
  | _, _, 0, .cons _ t =>
                                                                                                              .cons r t
  | _, _, i + 1, .cons q t => .cons q (RepL.set r i t)
theorem RepL.dropLast : ∀ {ds : List D} {vs : List V}, RepL K cl G ds vs → RepL K cl G ds.dropLast vs.dropLast
  | _, _, .nil => .nil
  | _, _, .cons _ .nil => .nil
  | _, _, .cons r (.cons q t) => .cons r (RepL.dropLast (.cons q t))
theorem RepL.ints : ∀ {ns : List Int} {vs : List V}, RepL K cl G (ns.map D.int) vs → vs = ns.map V.int
  | [], _, .nil => rfl
  | _ :: _, _, .cons .int t => by rw [RepL.ints t]; rfl
theorem RepL.strs : ∀ {ns : List Str} {vs : List V}, RepL K cl G (ns.map D.str) vs → vs = ns.map V.str
  | [], _, .nil => rfl
  | _ :: _, _, .cons .str t => by rw [RepL.strs t]; rfl
theorem RepL.bls : ∀ {ns : List Bool} {vs : List V}, RepL K cl G (ns.map D.bl) vs → vs = ns.map V.bl
  | [], _, .nil => rfl
  | _ :: _, _, .cons .bl t => by rw [RepL.bls t]; rfl
theorem RepL.of_ints : ∀ (ns : List Int), RepL K cl G (ns.map D.int) (ns.map V.int)
  | [] => .nil
  | _ :: r => .cons .int (RepL.of_ints r)
theorem RepL.of_strs : ∀ (ns : List Str), RepL K cl G (ns.map D.str) (ns.map V.str)
  | [] => .nil
  | _ :: r => .cons .str (RepL.of_strs r)
theorem RepL.of_bls : ∀ (ns : List Bool), RepL K cl G (ns.map D.bl) (ns.map V.bl)
  | [] => .nil
  | _ :: r => .cons .bl (RepL.of_bls r)
end

/-! ### plain data, for == and repr -/
mutual
def D.py : D → PyData
  | .non => .none
  | .bl b => .bool b
  | .int i => .int i
  | .str s => .str s
  | .tup l => .tuple (D.pyL l)
  | .lst l => .list (D.pyL l)
  | _ => .dict []
def D.pyL : List D → List PyData
  | [] => []
  | d :: r => d.py :: D.pyL r
end
mutual
/-- no objects, no dicts -/
def D.pl : D → Bool
  | .non | .bl _ | .int _ | .str _ => true
  | .tup l | .lst l => D.plL l
  | _ => false
def D.plL : List D → Bool
  | [] => true
  | d :: r => d.pl && D.plL r
end
section
variable {K : PySem.W.Frag} {cl : Str → Addr} {G : Hp}
mutual
theorem Rep.dp : ∀ {d : D} {v : V}, Rep K cl G d v → d.pl = true → Dp K G v d.py
  | _, _, .non, _ => .non
  | _, _, .bl, _ => .bl _
  | _, _, .int, _ => .int _
  | _, _, .str, _ => .str _
  | _, _, .tup h r, p => .tup h (RepL.dp r (by simpa [D.pl] using p))
  | _, _, .lst h r, p => .lst (SqL.of h) (RepL.dp r (by simpa [D.pl] using p))
  | _, _, .scr _, p => by simp [D.pl] at p
  | _, _, .dct _ _ _, p => by simp [D.pl] at p
  | _, _, .dcT _ _ _, p => by simp [D.pl] at p
  | _, _, .obj _ _ _, p => by simp [D.pl] at p
theorem RepL.dp : ∀ {d : List D} {v : List V}, RepL K cl G d v → D.plL d = true → DpAll K G v (D.pyL d)
  | _, _, .nil, _ => .nil
  | d :: ds, _, .cons h r, p => by
    have p' : d.pl = true ∧ D.plL ds = true := by simpa [D.plL] using p
    exact .cons (Rep.dp h p'.1) (RepL.dp r p'.2)
end
end

/-! ### the state -/
inductive S where
  | un | dat (d : D) | own (d : D) | jar (k : Nat)
structure Env where
  s : List S
  j : List D
structure Exc where
  c : Str
  ns : List Str
  l : List D
inductive Out (α : Type) where
  | ok (a : α) (e : Env) | exn (x : Exc) (e : Env) | bad
abbrev M (α : Type) := Env → Out α
def Out.bnd {α β : Type} (o : Out α) (k : α → Env → Out β) : Out β := match o with
  | .ok a e => k a e
  | .exn x e => .exn x e
  | .bad => .bad
/-- a value: data, or the whole of what slot i owns (or was lent) -/
inductive R where
  | val (d : D) | whole (i : Nat)
def Env.rd (e : Env) : R → Option D
  | .val d => some d
  | .whole i => match e.s[i]? with
    | some (.own d) => some d
    | some (.jar k) => e.j[k]?
    | _ => none
def Env.setS (e : Env) (i : Nat) (x : S) : Env := ⟨e.s.set i x, e.j⟩

structure Fra where
  H0 : Hp
  G0 : Hp
  js : List Addr

section
variable (K : PySem.W.Frag) (cl : Str → Addr) (F : Fra)
/-- what stands at a in H, its items in G -/
def Own (H G : Hp) (a : Addr) : D → Prop
  | .lst l => ∃ vs, H a = some (.lst vs) ∧ RepL K cl G l vs
  | .dct ks l => ∃ vs, H a = some (.dK (ks.zip vs)) ∧ ks.length = vs.length ∧ RepL K cl G l vs
  | .dcT ks l => ∃ vs, H a = some (.dT (ks.zip vs)) ∧ ks.length = vs.length ∧ RepL K cl G l vs
  | .obj c ns l => ∃ dx vs, H a = some (.ins (cl c) dx (ns.zip vs)) ∧ ns.length = vs.length ∧ RepL K cl G l vs
  | _ => False
def SlotOk (H G : Hp) (σ : L2.St) (i : Nat) : S → Prop
  | .un => True
  | .dat d => ∃ v, σ[i]? = some (some v) ∧ Rep K cl G d v
  | .own d => ∃ a, σ[i]? = some (some (.ref a)) ∧ G a = none ∧ F.H0 a = none ∧ Own K cl H G a d
  | .jar k => ∃ a, F.js[k]? = some a ∧ σ[i]? = some (some (.ref a))
structure Jars (js : List Addr) (H G : Hp) (j : List D) : Prop where
  len : j.length = js.length
  nd : js.Nodup
  at_ : ∀ (k : Nat) a d, js[k]? = some a → j[k]? = some d → G a = none ∧ Own K cl H G a d
/-- the frame's part of the state -/
structure Ret (H G : Hp) (j : List D) : Prop where
  gh : Same G H
  g0 : Same F.G0 G
  jars : Jars K cl F.js H G j
  fr : ∀ a o, F.H0 a = some o → a ∉ F.js → H a = some o
  fg : ∀ a o, F.H0 a = some o → F.G0 a = none → G a = none
structure Stt (e : Env) (σ : L2.St) (H G : Hp) : Prop where
  ret : Ret K cl F H G e.j
  jh : ∀ a ∈ F.js, F.H0 a ≠ none
  len : σ.length = e.s.length
  slot : ∀ (i : Nat) (x : S), e.s[i]? = some x → SlotOk K cl F H G σ i x
  inj : ∀ (i j : Nat) (d d' : D) (a : Addr), e.s[i]? = some (.own d) → e.s[j]? = some (.own d') → σ[i]? = some (some (.ref a)) → σ[j]? = some (some (.ref a)) → i = j
/-- what no slot owns -/
def Loose (e : Env) (σ : L2.St) (a : Addr) : Prop := a ∉ F.js ∧ ∀ (i : Nat) (d : D), e.s[i]? = some (.own d) → σ[i]? ≠ some (some (.ref a))
/-- from one state to a later one within an expression -/
structure Kp (σ : L2.St) (e : Env) (H G : Hp) (e' : Env) (H' G' : Hp) : Prop where
  gg : Same G G'
  kp : ∀ a o, H a = some o → Loose F e σ a → H' a = some o ∧ (G a = none → G' a = none)
  ow : ∀ (i : Nat) (d : D), e'.s[i]? = some (.own d) → ∃ d', e.s[i]? = some (.own d')
def RR (σ : L2.St) (G : Hp) : R → V → Prop
  | .val d, v => Rep K cl G d v
  | .whole i, v => σ[i]? = some (some v)
/-- seen from above: the object in H, its items in G -/
def Top (H G : Hp) (d : D) (v : V) : Prop := Rep K cl G d v ∨ ∃ a, v = .ref a ∧ G a = none ∧ Own K cl H G a d
/-- new objects are laid -/
inductive Step : Hp → Hp → Hp → Hp → Prop
  | refl {H G : Hp} : Step H G H G
  | lay {H G H' G' : Hp} {p : Addr} {o : HO} : Step H G H' G' → H' p = none → Step H G (upd H' p o) (upd G' p o)
  | grow {H G H' G' H'' : Hp} : Step H G H' G' → Same H' H'' → Step H G H'' G'
end

section
variable {K : PySem.W.Frag} {cl : Str → Addr} {F : Fra} {e e' : Env} {σ : L2.St} {H G H' G' : Hp}
theorem same_upd {p : Addr} {o : HO} (h : H p = none) : Same H (upd H p o) := fun b u q => by rw [upd_ne (ne_of_none q h)]; exact q
theorem Own.mono {a : Addr} {d : D} (h : Own K cl H G a d) (e : ∀ o, H a = some o → H' a = some o) (g : Same G G') : Own K cl H' G' a d := by
  cases d with
  | lst l => obtain ⟨vs, h1, h2⟩ := h; exact ⟨vs, e _ h1, h2.mono g⟩
  | dct ks l => obtain ⟨vs, h1, h3, h2⟩ := h; exact ⟨vs, e _ h1, h3, h2.mono g⟩
  | dcT ks l => obtain ⟨vs, h1, h3, h2⟩ := h; exact ⟨vs, e _ h1, h3, h2.mono g⟩
  | obj c ns l => obtain ⟨dx, vs, h1, h3, h2⟩ := h; exact ⟨dx, vs, e _ h1, h3, h2.mono g⟩
  | _ => exact h.elim
theorem Own.ex {a : Addr} {d : D} (h : Own K cl H G a d) : ∃ o, H a = some o := by
  cases d with
  | lst l => obtain ⟨vs, h1, h2⟩ := h; exact ⟨_, h1⟩
  | dct ks l => obtain ⟨vs, h1, h3, h2⟩ := h; exact ⟨_, h1⟩
  | dcT ks l => obtain ⟨vs, h1, h3, h2⟩ := h; exact ⟨_, h1⟩
  | obj c ns l => obtain ⟨dx, vs, h1, h3, h2⟩ := h; exact ⟨_, h1⟩
  | _ => exact h.elim
theorem Top.rep {d : D} {v : V} (g : Same G H) (h : Top K cl H G d v) : Rep K cl H d v := by
  rcases h with h | ⟨a, rfl, hn, h⟩
  · exact h.mono g
  · cases d with
    | lst l => obtain ⟨vs, h1, h2⟩ := h; exact .lst h1 (h2.mono g)
    | dct ks l => obtain ⟨vs, h1, h3, h2⟩ := h; exact .dct h1 h3 (h2.mono g)
    | dcT ks l => obtain ⟨vs, h1, h3, h2⟩ := h; exact .dcT h1 h3 (h2.mono g)
    | obj c ns l => obtain ⟨dx, vs, h1, h3, h2⟩ := h; exact .obj h1 h3 (h2.mono g)
    | _ => exact h.elim
theorem Top.lst {l : List D} {v : V} (g : Same G H) (h : Top K cl H G (.lst l) v) : ∃ a vs, v = .ref a ∧ H a = some (.lst vs) ∧ RepL K cl G l vs := by
  rcases h with h | ⟨a, rfl, hn, vs, h1, h2⟩
  · cases h with
    | lst h r => exact ⟨_, _, rfl, g _ _ h, r⟩
  · exact ⟨_, _, rfl, h1, h2⟩
theorem Top.tup {l : List D} {v : V} (g : Same G H) (h : Top K cl H G (.tup l) v) : ∃ a vs, v = .ref a ∧ SqT K H a vs ∧ RepL K cl G l vs := by
  rcases h with h | ⟨a, rfl, hn, h⟩
  · cases h with
    | tup h r => exact ⟨_, _, rfl, SqT.same g h, r⟩
  · exact h.elim
theorem Step.same (s : Step H G H' G') (gh : Same G H) : Same H H' ∧ Same G G' ∧ Same G' H' := by
  induction s with
  | refl => exact ⟨.refl _, .refl _, gh⟩
  | lay _ hn ih =>
    obtain ⟨a, b, c⟩ := ih
    refine ⟨a.trans (same_upd hn), b.trans (same_upd (c.free hn)), fun q u z => ?_⟩
    unfold upd at z ⊢
    split
    · rename_i h; rw [if_pos h] at z; exact z
    · rename_i h; rw [if_neg h] at z; exact c _ _ z
  | grow _ hs ih =>
    obtain ⟨a, b, c⟩ := ih
    exact ⟨a.trans hs, b, c.trans hs⟩
theorem Step.none (s : Step H G H' G') (gh : Same G H) {a : Addr} {o : HO} (h : H a = some o) (g : G a = none) : G' a = none := by
  induction s with
  | refl => exact g
  | lay s hn ih =>
    have q := (s.same gh).1 _ _ h
    rw [upd_ne (ne_of_none q hn)]; exact ih
  | grow s hs ih => exact ih
theorem Step.trans {H2 G2 : Hp} (a : Step H G H' G') (b : Step H' G' H2 G2) : Step H G H2 G2 := by
  induction b with
  | refl => exact a
  | lay _ hn ih => exact .lay ih hn
  | grow _ hs ih => exact .grow ih hs
/-- the state behind new objects -/
theorem Stt.step (st : Stt K cl F e σ H G) (s : Step H G H' G') : Stt K cl F e σ H' G' := by
  obtain ⟨⟨gh, g0, jr, fr, fg⟩, jh, len, slot, inj⟩ := st
  obtain ⟨a, b, c⟩ := s.same gh
  refine ⟨⟨c, g0.trans b, ⟨jr.len, jr.nd, fun k p d h1 h2 => ?_⟩, fun p o h hn => a _ _ (fr p o h hn), fun p o h hn => ?_⟩, jh, len, fun i x h => ?_, inj⟩
  · obtain ⟨q1, q2⟩ := jr.at_ k p d h1 h2
    obtain ⟨o, q3⟩ := q2.ex
    exact ⟨s.none gh q3 q1, q2.mono (fun o => a _ _) b⟩
  · by_cases hp : p ∈ F.js
    · obtain ⟨k, hk⟩ := List.getElem?_of_mem hp
      have hl : k < e.j.length := by rw [jr.len]; exact (List.getElem?_eq_some_iff.mp hk).1
      obtain ⟨q1, q2⟩ := jr.at_ k p _ hk (List.getElem?_eq_getElem hl)
      obtain ⟨o, q3⟩ := q2.ex
      exact s.none gh q3 q1
    · exact s.none gh (fr p o h hp) (fg p o h hn)
  · have q := slot i x h
    cases x with
    | un => trivial
    | dat d => obtain ⟨v, h1, h2⟩ := q; exact ⟨v, h1, h2.mono b⟩
    | own d =>
      obtain ⟨p, h1, h2, h3, h4⟩ := q
      obtain ⟨o, q3⟩ := h4.ex
      exact ⟨p, h1, s.none gh q3 h2, h3, h4.mono (fun o => a _ _) b⟩
    | jar k => exact q
theorem Kp.step (st : Stt K cl F e σ H G) (s : Step H G H' G') : Kp F σ e H G e H' G' := by
  obtain ⟨a, b, c⟩ := s.same st.ret.gh
  exact ⟨b, fun p o h _ => ⟨a _ _ h, fun g => s.none st.ret.gh h g⟩, fun i d h => ⟨d, h⟩⟩
theorem Kp.refl : Kp F σ e H G e H G := ⟨.refl _, fun _ _ h _ => ⟨h, fun g => g⟩, fun _ d h => ⟨d, h⟩⟩
theorem Kp.loose (k : Kp F σ e H G e' H' G') {a : Addr} (h : Loose F e σ a) : Loose F e' σ a :=
  ⟨h.1, fun i d q => by obtain ⟨d', q'⟩ := k.ow i d q; exact h.2 i d' q'⟩
theorem Kp.trans {e2 : Env} {H2 G2 : Hp} (a : Kp F σ e H G e' H' G') (b : Kp F σ e' H' G' e2 H2 G2) : Kp F σ e H G e2 H2 G2 := by
  refine ⟨a.gg.trans b.gg, fun p o h l => ?_, fun i d h => ?_⟩
  · obtain ⟨h1, h2⟩ := a.kp p o h l
    obtain ⟨h3, h4⟩ := b.kp p o h1 (a.loose l)
    exact ⟨h3, fun g => h4 (h2 g)⟩
  · obtain ⟨d', h'⟩ := b.ow i d h
    exact a.ow i d' h'
/-- the data of a value, as it is found -/
theorem Stt.top (st : Stt K cl F e σ H G) {r : R} {v : V} {d : D} (hr : RR K cl σ G r v) (hd : e.rd r = some d) : Top K cl H G d v := by
  cases r with
  | val d' => cases hd; exact .inl hr
  | whole i =>
    have hs : σ[i]? = some (some v) := hr
    have hd : (match e.s[i]? with
    | some (.own d) => some d
    | some (.jar k) => e.j[k]?
    | _ => none) = some d := hd
    cases q : e.s[i]? with
    | none => rw [q] at hd; cases hd
    | some x =>
      rw [q] at hd
      have z := st.slot i x q
      cases x with
      | own d' =>
        cases hd
        obtain ⟨a, h1, h2, h3, h4⟩ := z
        rw [hs] at h1; cases h1
        exact .inr ⟨a, rfl, h2, h4⟩
      | jar k =>
        obtain ⟨a, h1, h2⟩ := z
        rw [hs] at h2; cases h2
        obtain ⟨q1, q2⟩ := st.ret.jars.at_ k a d h1 hd
        exact .inr ⟨a, rfl, q1, q2⟩
      | _ => cases hd
/-- a value that stood, later: data stays, a whole is read anew -/
theorem RR.mono {r : R} {v : V} (h : RR K cl σ G r v) (g : Same G G') : RR K cl σ G' r v := by
  cases r with
  | val d => exact Rep.mono g h
  | whole i => exact h
end
end DL

namespace DL
open PySem L2 PySem.Spec PyProof.Rows

/-! ### freezing: what a slot owns becomes data -/
def Env.frz (e : Env) : R → Option (D × Env)
  | .val d => some (d, e)
  | .whole i => match e.s[i]? with
    | some (.own d) => some (d, e.setS i (.dat d))
    | _ => none
def Env.frzs (e : Env) : List R → Option (List D × Env)
  | [] => some ([], e)
  | r :: rs => match e.frz r with
    | some (d, e1) => match e1.frzs rs with
      | some (ds, e2) => some (d :: ds, e2)
      | none => none
    | none => none
inductive RRs (K : PySem.W.Frag) (cl : Str → Addr) (σ : L2.St) (G : Hp) : List R → List V → Prop
  | nil : RRs K cl σ G [] []
  | cons {r : R} {v : V} {rs : List R} {vs : List V} : RR K cl σ G r v → RRs K cl σ G rs vs → RRs K cl σ G (r :: rs) (v :: vs)

section
variable {K : PySem.W.Frag} {cl : Str → Addr} {F : Fra} {e e' : Env} {σ : L2.St} {H G H' G' : Hp}
theorem RRs.mono (g : Same G G') : ∀ {rs : List R} {vs : List V}, RRs K cl σ G rs vs → RRs K cl σ G' rs vs
  | _, _, .nil => .nil
  | _, _, .cons h r => .cons (h.mono g) (RRs.mono g r)
/-- one object of H becomes part of G -/
theorem same_add {a : Addr} {o : HO} (gh : Same G H) (ho : H a = some o) : Same (upd G a o) H := fun b u q => by
  unfold upd at q
  split at q
  · rename_i h; rw [h, ho]; exact q
  · exact gh _ _ q
theorem Own.rep {a : Addr} {d : D} (h : Own K cl H G a d) (hn : G a = none) : ∃ o, H a = some o ∧ Rep K cl (upd G a o) d (.ref a) := by
  have g : ∀ o, Same G (upd G a o) := fun o => same_upd hn
  cases d with
  | lst l => obtain ⟨vs, h1, h2⟩ := h; exact ⟨_, h1, .lst upd_same (h2.mono (g _))⟩
  | dct ks l => obtain ⟨vs, h1, h3, h2⟩ := h; exact ⟨_, h1, .dct upd_same h3 (h2.mono (g _))⟩
  | dcT ks l => obtain ⟨vs, h1, h3, h2⟩ := h; exact ⟨_, h1, .dcT upd_same h3 (h2.mono (g _))⟩
  | obj c ns l => obtain ⟨dx, vs, h1, h3, h2⟩ := h; exact ⟨_, h1, .obj upd_same h3 (h2.mono (g _))⟩
  | _ => exact h.elim
theorem setS_same {i : Nat} {x y : S} (h : e.s[i]? = some y) : (e.setS i x).s[i]? = some x := by
  have hl : i < e.s.length := (List.getElem?_eq_some_iff.mp h).1
  exact List.getElem?_set_self hl
theorem setS_ne {i j : Nat} {x : S} (h : j ≠ i) : (e.setS i x).s[j]? = e.s[j]? := List.getElem?_set_ne (Ne.symm h)
theorem frz_ok (st : Stt K cl F e σ H G) {r : R} {v : V} {d : D} (hr : RR K cl σ G r v) (hf : e.frz r = some (d, e')) : ∃ G', Stt K cl F e' σ H G' ∧ Kp F σ e H G e' H G' ∧ Rep K cl G' d v := by
  cases r with
  | val d' => cases hf; exact ⟨G, st, .refl, hr⟩
  | whole i =>
    have hs : σ[i]? = some (some v) := hr
    have hf : (match e.s[i]? with
      | some (.own d) => some (d, e.setS i (.dat d))
      | _ => none) = some (d, e') := hf
    cases q : e.s[i]? with
    | none => rw [q] at hf; cases hf
    | some x =>
      rw [q] at hf
      have z := st.slot i x q
      cases x with
      | own d' =>
        cases hf
        obtain ⟨a, h1, h2, h3, h4⟩ := z
        rw [hs] at h1; cases h1
        obtain ⟨o, ho, hrep⟩ := h4.rep h2
        obtain ⟨⟨gh, g0, jr, fr, fg⟩, jh, len, slot, inj⟩ := st
        have g1 : Same G (upd G a o) := same_upd h2
        have aj : a ∉ F.js := fun hj => jh a hj h3
        have hset : ∀ {j : Nat} {x : S}, (e.setS i (.dat d)).s[j]? = some x → (j = i ∧ x = .dat d) ∨ (j ≠ i ∧ e.s[j]? = some x) := fun {j x} h => by
          by_cases hj : j = i
          · subst hj; rw [setS_same q] at h; cases h; exact .inl ⟨rfl, rfl⟩
          · rw [setS_ne hj] at h; exact .inr ⟨hj, h⟩
        refine ⟨upd G a o, ⟨⟨same_add gh ho, g0.trans g1, ⟨jr.len, jr.nd, fun k p d' k1 k2 => ?_⟩, fr, fun p u k1 k2 => ?_⟩, jh, by rw [len]; exact (List.length_set).symm, fun j x h => ?_, fun j k d1 d2 p k1 k2 k3 k4 => ?_⟩, ⟨g1, fun p u k1 k2 => ⟨k1, fun k3 => ?_⟩, fun j d1 k1 => ?_⟩, hrep⟩
        · obtain ⟨q1, q2⟩ := jr.at_ k p d' k1 k2
          have ne : p ≠ a := fun z => aj (z ▸ List.mem_of_getElem? k1)
          exact ⟨by rw [upd_ne ne]; exact q1, q2.mono (fun _ z => z) g1⟩
        · have ne : p ≠ a := fun z => by rw [z, h3] at k1; cases k1
          rw [upd_ne ne]; exact fg p u k1 k2
        · rcases hset h with ⟨rfl, rfl⟩ | ⟨hj, h⟩
          · exact ⟨_, hs, hrep⟩
          · have z := slot j x h
            cases x with
            | un => trivial
            | dat d1 => obtain ⟨v1, z1, z2⟩ := z; exact ⟨v1, z1, z2.mono g1⟩
            | own d1 =>
              obtain ⟨p, z1, z2, z3, z4⟩ := z
              have ne : p ≠ a := fun w => hj (inj j i _ _ a h q (w ▸ z1) hs)
              exact ⟨p, z1, by rw [upd_ne ne]; exact z2, z3, z4.mono (fun _ w => w) g1⟩
            | jar k => exact z
        · rcases hset k1 with ⟨_, z⟩ | ⟨_, k1⟩
          · cases z
          · rcases hset k2 with ⟨_, z⟩ | ⟨_, k2⟩
            · cases z
            · exact inj j k d1 d2 p k1 k2 k3 k4
        · have ne : p ≠ a := fun w => k2.2 i _ q (w ▸ hs)
          rw [upd_ne ne]; exact k3
        · rcases hset k1 with ⟨_, z⟩ | ⟨_, k1⟩
          · cases z
          · exact ⟨_, k1⟩
      | _ => cases hf
theorem frzs_ok : ∀ {rs : List R} {e e' : Env} {vs : List V} {ds : List D} {G : Hp}, Stt K cl F e σ H G → RRs K cl σ G rs vs → e.frzs rs = some (ds, e') → ∃ G', Stt K cl F e' σ H G' ∧ Kp F σ e H G e' H G' ∧ RepL K cl G' ds vs
  | [], e, e', _, _, G, st, .nil, hf => by cases hf; exact ⟨G, st, .refl, .nil⟩
  | r :: rs, e, e', _, _, G, st, .cons h t, hf => by
    unfold Env.frzs at hf
    cases q : e.frz r with
    | none => rw [q] at hf; cases hf
    | some p =>
      obtain ⟨d, e1⟩ := p
      rw [q] at hf
      have hf : (match e1.frzs rs with
        | some (ds, e2) => some (d :: ds, e2)
        | none => none) = some (_, e') := hf
      cases q2 : e1.frzs rs with
      | none => rw [q2] at hf; cases hf
      | some p2 =>
        obtain ⟨ds, e2⟩ := p2
        rw [q2] at hf
        cases hf
        obtain ⟨G1, st1, k1, r1⟩ := frz_ok st h q
        obtain ⟨G2, st2, k2, r2⟩ := frzs_ok st1 (t.mono k1.gg) q2
        exact ⟨G2, st2, k1.trans k2, .cons (r1.mono k2.gg) r2⟩
end

/-! ### what is judged -/
def ExcAt (K : PySem.W.Frag) (cl : Str → Addr) (x : Exc) (cls : Value) (dd : Option Addr) (H G : Hp) : Prop :=
  cls = .ref (cl x.c) ∧ ((x.ns = [] ∧ x.l = [] ∧ dd = none) ∨ ∃ d vs, dd = some d ∧ H d = some (.xd (x.ns.zip vs)) ∧ x.ns.length = vs.length ∧ RepL K cl G x.l vs)
section
variable (K : PySem.W.Frag) (cl : Str → Addr) (F : Fra) (W : WX)
/-- what is wanted of an exception, of an end -/
def Xn (σ : L2.St) (e : Env) (x : Exc) : Prop := ∀ cls dd H' G', Stt K cl F e σ H' G' → ExcAt K cl x cls dd H' G' → W cls dd σ H'
def Post {α : Type} (σ : L2.St) (o : Out α) (k : α → Env → Prop) : Prop := match o with
  | .ok a e => k a e
  | .exn x e => Xn K cl F W σ e x
  | .bad => False
def tD (f : M R) : TE := fun σ H Q => ∃ e G, Stt K cl F e σ H G ∧ Post K cl F W σ (f e) fun r e' => ∀ v H' G', Stt K cl F e' σ H' G' → Kp F σ e H G e' H' G' → RR K cl σ G' r v → Q v H'
def tB' (f : M Bool) : TT := fun σ H Q => ∃ e G, Stt K cl F e σ H G ∧ Post K cl F W σ (f e) fun b e' => ∀ H' G', Stt K cl F e' σ H' G' → Kp F σ e H G e' H' G' → Q b H'
def tA (f : M (List R)) : TA := fun σ H Q => ∃ e G, Stt K cl F e σ H G ∧ Post K cl F W σ (f e) fun r e' => ∀ v H' G', Stt K cl F e' σ H' G' → Kp F σ e H G e' H' G' → RRs K cl σ G' r v → Q v H'
end
structure RE (X : Cx) (cl : Str → Addr) (F : Fra) (W : WX) (x : Expr) (f : M R) : Prop where
  pe : PE X x (tD X.K cl F W f)
structure RT (X : Cx) (cl : Str → Addr) (F : Fra) (W : WX) (x : Expr) (f : M Bool) : Prop where
  pt : PT X x (tB' X.K cl F W f)
structure RA (X : Cx) (cl : Str → Addr) (F : Fra) (W : WX) (xs : List Expr) (f : M (List R)) : Prop where
  pa : PA X xs (tA X.K cl F W f)
theorem PE.imp {X : Cx} {x : Expr} {t t' : TE} (h : PE X x t) (i : ∀ σ H Q, t' σ H Q → t σ H Q) : PE X x t' := ⟨fun pins s σ H Q I q => h.run pins s σ H Q I (i σ H Q q)⟩
theorem PT.imp {X : Cx} {x : Expr} {t t' : TT} (h : PT X x t) (i : ∀ σ H Q, t' σ H Q → t σ H Q) : PT X x t' := ⟨fun pins s σ H Q I q => h.run pins s σ H Q I (i σ H Q q)⟩
theorem PW.imp {X : Cx} {x : Expr} {t t' : TT} (h : PW X x t) (i : ∀ σ H Q, t' σ H Q → t σ H Q) : PW X x t' := ⟨fun wh pins s σ H Q I q => h.run wh pins s σ H Q I (i σ H Q q)⟩
theorem PA.imp {X : Cx} {x : List Expr} {t t' : TA} (h : PA X x t) (i : ∀ σ H Q, t' σ H Q → t σ H Q) : PA X x t' := ⟨fun pos pins s σ H Q I q => h.run pos pins s σ H Q I (i σ H Q q)⟩
theorem PS.imp {X : Cx} {x : Stmt} {t t' : TS} (h : PS X x t) (i : ∀ D σ H, t' D σ H → t D σ H) : PS X x t' := ⟨fun pins s σ H D I q => h.run pins s σ H D I (i D σ H q)⟩
theorem PSs.imp {X : Cx} {x : List Stmt} {t t' : TS} (h : PSs X x t) (i : ∀ D σ H, t' D σ H → t D σ H) : PSs X x t' := ⟨fun pins s σ H D I q => h.run pins s σ H D I (i D σ H q)⟩

section
variable {K : PySem.W.Frag} {cl : Str → Addr} {F : Fra} {W : WX}
theorem post_bnd {α β : Type} {σ : L2.St} {o : Out α} {k : α → Env → Out β} {q : β → Env → Prop} (h : Post K cl F W σ (o.bnd k) q) : Post K cl F W σ o fun a e => Post K cl F W σ (k a e) q := by
  cases o with
  | ok a e => exact h
  | exn x e => exact h
  | bad => exact h
theorem post_imp {α : Type} {σ : L2.St} {o : Out α} {k k' : α → Env → Prop} (h : Post K cl F W σ o k) (i : ∀ a e, k a e → k' a e) : Post K cl F W σ o k' := by
  cases o with
  | ok a e => exact i _ _ h
  | exn x e => exact h
  | bad => exact h
/-- one part, then the rest -/
theorem tD_then {β : Type} {fa : M R} {k : R → Env → Out β} {σ : L2.St} {H G : Hp} {e : Env} {q : β → Env → Prop} {Q : VK} (st : Stt K cl F e σ H G) (h : Post K cl F W σ ((fa e).bnd k) q)
    (c : ∀ r e1 v H1 G1, Stt K cl F e1 σ H1 G1 → Kp F σ e H G e1 H1 G1 → RR K cl σ G1 r v → Post K cl F W σ (k r e1) q → Q v H1) : tD K cl F W fa σ H Q :=
  ⟨e, G, st, post_imp (post_bnd h) fun r e1 z v H1 G1 s1 k1 r1 => c r e1 v H1 G1 s1 k1 r1 z⟩
theorem tB_then {β : Type} {fa : M Bool} {k : Bool → Env → Out β} {σ : L2.St} {H G : Hp} {e : Env} {q : β → Env → Prop} {Q : Bool → Hp → Prop} (st : Stt K cl F e σ H G) (h : Post K cl F W σ ((fa e).bnd k) q)
    (c : ∀ r e1 H1 G1, Stt K cl F e1 σ H1 G1 → Kp F σ e H G e1 H1 G1 → Post K cl F W σ (k r e1) q → Q r H1) : tB' K cl F W fa σ H Q :=
  ⟨e, G, st, post_imp (post_bnd h) fun r e1 z H1 G1 s1 k1 => c r e1 H1 G1 s1 k1 z⟩
theorem tA_then {β : Type} {fa : M (List R)} {k : List R → Env → Out β} {σ : L2.St} {H G : Hp} {e : Env} {q : β → Env → Prop} {Q : List V → Hp → Prop} (st : Stt K cl F e σ H G) (h : Post K cl F W σ ((fa e).bnd k) q)
    (c : ∀ r e1 v H1 G1, Stt K cl F e1 σ H1 G1 → Kp F σ e H G e1 H1 G1 → RRs K cl σ G1 r v → Post K cl F W σ (k r e1) q → Q v H1) : tA K cl F W fa σ H Q :=
  ⟨e, G, st, post_imp (post_bnd h) fun r e1 z v H1 G1 s1 k1 r1 => c r e1 v H1 G1 s1 k1 r1 z⟩
end

/-! ### slots and constants -/
def cVar (i : Nat) : M R := fun e => match e.s[i]? with
  | some (.dat d) => .ok (.val d) e
  | some (.own _) => .ok (.whole i) e
  | some (.jar _) => .ok (.whole i) e
  | _ => .bad
def cC (d : D) : M R := fun e => .ok (.val d) e
section
variable {X : Cx} {cl : Str → Addr} {F : Fra} {W : WX}
theorem re_v (i : Nat) {x : Str} {pos : Pos} (hN : X.N[i]? = some x := by rfl) (hv : Vis X.env.scope x := by first | exact Or.inl rfl | exact Or.inr (Or.inl rfl) | exact Or.inr (Or.inr rfl)) (hd : (x == ("__debug__" : Str)) = false := by decide)
    (hcd : (x == ("__classdict__" : Str)) = false := by decide) : RE X cl F W (.Name x pos) (cVar i) := by
  refine ⟨PE.imp (pe_var hN hv hd hcd) fun σ H Q ⟨e, G, st, h⟩ => ?_⟩
  unfold cVar at h
  cases q : e.s[i]? with
  | none => rw [q] at h; exact h.elim
  | some y =>
    rw [q] at h
    have z := st.slot i y q
    cases y with
    | un => exact h.elim
    | dat d =>
      obtain ⟨v, h1, h2⟩ := z
      exact ⟨v, h1, h v H G st .refl h2⟩
    | own d =>
      obtain ⟨a, h1, _⟩ := z
      exact ⟨_, h1, h _ H G st .refl h1⟩
    | jar k =>
      obtain ⟨a, _, h1⟩ := z
      exact ⟨_, h1, h _ H G st .refl h1⟩
theorem re_tC {x : Expr} {v : V} {d : D} (h : PE X x (tC v)) (r : ∀ G, Rep X.K cl G d v) : RE X cl F W x (cC d) :=
  ⟨PE.imp h fun σ H Q ⟨e, G, st, q⟩ => q v H G st .refl (r G)⟩
theorem re_int {i j pos} : RE X cl F W (.Constant (.int i) j pos) (cC (.int i)) := re_tC pe_int fun _ => .int
theorem re_bl {b j pos} : RE X cl F W (.Constant (.bool b) j pos) (cC (.bl b)) := re_tC pe_bl fun _ => .bl
theorem re_non {j pos} : RE X cl F W (.Constant .none j pos) (cC .non) := re_tC pe_non fun _ => .non
theorem re_str {x j pos} : RE X cl F W (.Constant (.str x) j pos) (cC (.str x)) := re_tC pe_str fun _ => .str
theorem re_gint {x : Str} {i : Int} {pos : Pos} (hg : Gl X x) (hm : ∃ t, X.mg x = some (.int i t)) (hd : (x == ("__debug__" : Str)) = false := by decide) : RE X cl F W (.Name x pos) (cC (.int i)) := by
  obtain ⟨t, hm⟩ := hm
  exact re_tC (pe_glob (v := .int i) hg hm ⟨t, rfl⟩ hd) fun _ => .int
theorem re_gstr {x : Str} {z : Str} {pos : Pos} (hg : Gl X x) (hm : ∃ t, X.mg x = some (.str z t)) (hd : (x == ("__debug__" : Str)) = false := by decide) : RE X cl F W (.Name x pos) (cC (.str z)) := by
  obtain ⟨t, hm⟩ := hm
  exact re_tC (pe_glob (v := .str z) hg hm ⟨t, rfl⟩ hd) fun _ => .str

/-! ### arguments, displays -/
def cNil : M (List R) := fun e => .ok [] e
def cCons (f : M R) (g : M (List R)) : M (List R) := fun e => (f e).bnd fun r e1 => (g e1).bnd fun rs e2 => .ok (r :: rs) e2
theorem ra_nil : RA X cl F W [] cNil := ⟨PA.imp pa_nil fun σ H Q ⟨e, G, st, q⟩ => q [] H G st .refl .nil⟩
theorem ra_cons {x : Expr} {xs : List Expr} {f : M R} {g : M (List R)} (h : RE X cl F W x f) (t : RA X cl F W xs g) (hs : starEach (x :: xs) X.env = (false, eval x X.env) :: starEach xs X.env := by rfl) : RA X cl F W (x :: xs) (cCons f g) := by
  refine ⟨PA.imp (pa_cons h.pe t.pa hs) fun σ H Q ⟨e, G, st, q⟩ => tD_then st q fun r e1 v H1 G1 s1 k1 r1 z => tA_then s1 z fun rs e2 vs H2 G2 s2 k2 r2 z2 => ?_⟩
  exact z2 _ H2 G2 s2 (k1.trans k2) (.cons (r1.mono k2.gg) r2)
def cTup (f : M (List R)) : M R := fun e => (f e).bnd fun rs e1 => match e1.frzs rs with
  | some (ds, e2) => if ds.length ≤ sizeLine then .ok (.val (.tup ds)) e2 else .bad
  | none => .bad
def cLst (f : M (List R)) : M R := fun e => (f e).bnd fun rs e1 => match e1.frzs rs with
  | some (ds, e2) => if ds.length ≤ sizeLine then .ok (.val (.lst ds)) e2 else .bad
  | none => .bad
theorem re_tup {xs : List Expr} {f : M (List R)} {x1 pos} (h : RA X cl F W xs f) : RE X cl F W (.Tuple xs x1 pos) (cTup f) := by
  refine ⟨PE.imp (pe_tup h.pa) fun σ H Q ⟨e, G, st, q⟩ => tA_then st q fun rs e1 vs H1 G1 s1 k1 r1 z => ?_⟩
  cases y : e1.frzs rs with
  | none => rw [y] at z; exact z.elim
  | some p =>
    obtain ⟨ds, e2⟩ := p
    rw [y] at z
    obtain ⟨G2, s2, k2, r2⟩ := frzs_ok s1 r1 y
    by_cases hz : ds.length ≤ sizeLine
    · simp only [hz, if_true] at z
      refine ⟨by rw [← r2.length]; exact hz, fun p hp => ?_⟩
      have sp : Step H1 G2 (upd H1 p (.tup vs)) (upd G2 p (.tup vs)) := .lay .refl hp
      exact z _ _ _ (s2.step sp) ((k1.trans k2).trans (Kp.step s2 sp)) (.tup (SqT.of upd_same) (r2.mono (sp.same s2.ret.gh).2.1))
    · simp only [hz, if_false] at z; exact z.elim
theorem re_lst {xs : List Expr} {f : M (List R)} {pos} (h : RA X cl F W xs f) : RE X cl F W (.List xs pos) (cLst f) := by
  refine ⟨PE.imp (pe_lst h.pa) fun σ H Q ⟨e, G, st, q⟩ => tA_then st q fun rs e1 vs H1 G1 s1 k1 r1 z => ?_⟩
  cases y : e1.frzs rs with
  | none => rw [y] at z; exact z.elim
  | some p =>
    obtain ⟨ds, e2⟩ := p
    rw [y] at z
    obtain ⟨G2, s2, k2, r2⟩ := frzs_ok s1 r1 y
    by_cases hz : ds.length ≤ sizeLine
    · simp only [hz, if_true] at z
      refine ⟨by rw [← r2.length]; exact hz, fun p hp => ?_⟩
      have sp : Step H1 G2 (upd H1 p (.lst vs)) (upd G2 p (.lst vs)) := .lay .refl hp
      exact z _ _ _ (s2.step sp) ((k1.trans k2).trans (Kp.step s2 sp)) (.lst upd_same (r2.mono (sp.same s2.ret.gh).2.1))
    · simp only [hz, if_false] at z; exact z.elim

/-! ### operations on two values -/
def OpD (X : Cx) (cl : Str → Addr) (f : Value → Value → Sem Value) (g : D → D → Option D) : Prop :=
  ∃ r, OpR X f r ∧ ∀ H G x y dx dy dz Q, Same G H → Top X.K cl H G dx x → Top X.K cl H G dy y → g dx dy = some dz → (∀ v H' G', Step H G H' G' → Rep X.K cl G' dz v → Q v H') → r x y H Q
def opt (o : Option D) (e : Env) : Out R := match o with
  | some z => .ok (.val z) e
  | none => .bad
def opt2 (g : D → D → Option D) (a b : Option D) : Option D := match a, b with
  | some x, some y => g x y
  | _, _ => none
theorem post_opt {K : PySem.W.Frag} {σ : L2.St} {o : Option D} {e : Env} {q : R → Env → Prop} (h : Post K cl F W σ (opt o e) q) : ∃ z, o = some z ∧ q (.val z) e := by
  cases o with
  | some z => exact ⟨z, rfl, h⟩
  | none => exact h.elim
theorem opt2_ok {g : D → D → Option D} {a b : Option D} {z : D} (h : opt2 g a b = some z) : ∃ x y, a = some x ∧ b = some y ∧ g x y = some z := by
  cases a with
  | none => cases h
  | some x =>
    cases b with
    | none => cases h
    | some y => exact ⟨x, y, rfl, rfl, h⟩
def cOp (g : D → D → Option D) (fa fb : M R) : M R := fun e => (fa e).bnd fun x e1 => (fb e1).bnd fun y e2 => opt (opt2 g (e2.rd x) (e2.rd y)) e2
theorem tOp_D {f : Value → Value → Sem Value} {g : D → D → Option D} {fa fb : M R} {r : R2} {σ : L2.St} {H : Hp} {Q : VK}
    (hg : ∀ H G x y dx dy dz Q, Same G H → Top X.K cl H G dx x → Top X.K cl H G dy y → g dx dy = some dz → (∀ v H' G', Step H G H' G' → Rep X.K cl G' dz v → Q v H') → r x y H Q)
    (h : tD X.K cl F W (cOp g fa fb) σ H Q) : tOp r (tD X.K cl F W fa) (tD X.K cl F W fb) σ H Q := by
  obtain ⟨e, G, st, q⟩ := h
  refine tD_then st q fun x e1 v1 H1 G1 s1 k1 r1 z => tD_then s1 z fun y e2 v2 H2 G2 s2 k2 r2 z => ?_
  obtain ⟨dz, z1, z⟩ := post_opt z
  obtain ⟨dx, dy, hx, hy, hg2⟩ := opt2_ok z1
  refine hg H2 G2 v1 v2 dx dy dz Q s2.ret.gh (s2.top (r1.mono k2.gg) hx) (s2.top r2 hy) hg2 fun v H' G' sp rv => ?_
  exact z v H' G' (s2.step sp) ((k1.trans k2).trans (Kp.step s2 sp)) rv
theorem re_op {a b : Expr} {op : Operator} {g : D → D → Option D} {fa fb : M R} {pos : Pos} (ho : OpD X cl (binaryOp op) g) (ha : RE X cl F W a fa) (hb : RE X cl F W b fb) : RE X cl F W (.BinOp a op b pos) (cOp g fa fb) := by
  obtain ⟨r, h1, h2⟩ := ho
  exact ⟨PE.imp (pe_op h1 ha.pe hb.pe) fun σ H Q h => tOp_D (f := binaryOp op) h2 h⟩
theorem re_cmp {a b : Expr} {op : CmpOp} {g : D → D → Option D} {fa fb : M R} {pos : Pos} (ho : OpD X cl (compareOp op) g) (ha : RE X cl F W a fa) (hb : RE X cl F W b fb) (hm : behindInMarks op b = false) : RE X cl F W (.Compare a [op] [b] pos) (cOp g fa fb) := by
  obtain ⟨r, h1, h2⟩ := ho
  exact ⟨PE.imp (pe_cmpR h1 ha.pe hb.pe hm) fun σ H Q h => tOp_D (f := compareOp op) h2 h⟩
/-- a value as a test: bools alone -/
def cTest (f : M R) : M Bool := fun e => (f e).bnd fun r e1 => match r with
  | .val (.bl b) => .ok b e1
  | _ => .bad
theorem tTest_D {f : M R} {σ : L2.St} {H : Hp} {Q : Bool → Hp → Prop} (h : tB' X.K cl F W (cTest f) σ H Q) : tD X.K cl F W f σ H fun x H' => ∃ k, x = .bl k ∧ Q k H' := by
  obtain ⟨e, G, st, q⟩ := h
  refine tD_then st q fun r e1 v H1 G1 s1 k1 r1 z => ?_
  cases r with
  | whole i => exact z.elim
  | val d =>
    cases d with
    | bl b => cases r1; exact ⟨b, rfl, z H1 G1 s1 k1⟩
    | _ => exact z.elim
theorem rt_cmp {a b : Expr} {op : CmpOp} {g : D → D → Option D} {fa fb : M R} {pos : Pos} (ho : OpD X cl (compareOp op) g) (ha : RE X cl F W a fa) (hb : RE X cl F W b fb) (hm : behindInMarks op b = false) : RT X cl F W (.Compare a [op] [b] pos) (cTest (cOp g fa fb)) := by
  obtain ⟨r, h1, h2⟩ := ho
  refine ⟨PT.imp (pt_cmpR h1 ha.pe hb.pe hm) fun σ H Q h => ?_⟩
  exact tOp_D (f := compareOp op) h2 (tTest_D h)
end
end DL

namespace DL
open PySem L2 PySem.Spec PyProof.Rows

section
variable {X : Cx} {cl : Str → Addr} {F : Fra} {W : WX}
theorem OpD.or {f : Value → Value → Sem Value} {g g' : D → D → Option D} (h : OpD X cl f g) (h' : OpD X cl f g') : OpD X cl f (fun a b => match g a b with
    | some z => some z
    | none => g' a b) := by
  obtain ⟨r, h1, h2⟩ := h
  obtain ⟨r', h1', h2'⟩ := h'
  refine ⟨_, h1.or h1', fun H G x y dx dy dz Q gh tx ty e k => ?_⟩
  have e : (match g dx dy with
    | some z => some z
    | none => g' dx dy) = some dz := e
  cases q : g dx dy with
  | some z => rw [q] at e; cases e; exact .inl (h2 H G x y dx dy _ Q gh tx ty q k)
  | none => rw [q] at e; exact .inr (h2' H G x y dx dy dz Q gh tx ty e k)
theorem OpD.of {f : Value → Value → Sem Value} {g g' : D → D → Option D} (h : OpD X cl f g) (e : ∀ a b z, g' a b = some z → g a b = some z) : OpD X cl f g' := by
  obtain ⟨r, h1, h2⟩ := h
  exact ⟨r, h1, fun H G x y dx dy dz Q gh tx ty q k => h2 H G x y dx dy dz Q gh tx ty (e _ _ _ q) k⟩
theorem Top.int {K : PySem.W.Frag} {H G : Hp} {i : Int} {v : V} (h : Top K cl H G (.int i) v) : v = .int i := by
  rcases h with h | ⟨a, _, _, h⟩
  · cases h; rfl
  · exact h.elim
theorem Top.str {K : PySem.W.Frag} {H G : Hp} {i : Str} {v : V} (h : Top K cl H G (.str i) v) : v = .str i := by
  rcases h with h | ⟨a, _, _, h⟩
  · cases h; rfl
  · exact h.elim
theorem Top.bl {K : PySem.W.Frag} {H G : Hp} {i : Bool} {v : V} (h : Top K cl H G (.bl i) v) : v = .bl i := by
  rcases h with h | ⟨a, _, _, h⟩
  · cases h; rfl
  · exact h.elim
theorem Top.non {K : PySem.W.Frag} {H G : Hp} {v : V} (h : Top K cl H G .non v) : v = .non := by
  rcases h with h | ⟨a, _, _, h⟩
  · cases h; rfl
  · exact h.elim
theorem Top.non_iff {K : PySem.W.Frag} {H G : Hp} {d : D} {v : V} (h : Top K cl H G d v) : v = .non ↔ d = .non := by
  rcases h with h | ⟨a, rfl, _, h⟩
  · cases h <;> simp
  · cases d <;> first | exact h.elim | simp
theorem Top.scr {K : PySem.W.Frag} {H G : Hp} {l : List Int} {v : V} (g : Same G H) (h : Top K cl H G (.scr l) v) : ∃ a, v = .ref a ∧ SqL K H a (l.map V.int) := by
  rcases h with h | ⟨a, _, _, h⟩
  · cases h with
    | scr h => exact ⟨_, rfl, Same.seq g h⟩
  · exact h.elim

/-! ### int arithmetic -/
def intOp (c : Int → Int → Bool) (g : Int → Int → D) : D → D → Option D := fun a b => match a, b with
  | .int i, .int j => if c i j then some (g i j) else none
  | _, _ => none
theorem intOp_inv {c : Int → Int → Bool} {g : Int → Int → D} {a b z : D} (h : intOp c g a b = some z) : ∃ i j, a = .int i ∧ b = .int j ∧ c i j = true ∧ z = g i j := by
  unfold intOp at h
  split at h
  · rename_i i j
    split at h
    · rename_i hc; cases h; exact ⟨i, j, rfl, rfl, hc, rfl⟩
    · cases h
  · cases h
/-- from a rule on ints whose value is again an int (or a bool) -/
theorem intD {f : Value → Value → Sem Value} {C : Int → Int → Prop} {gv : Int → Int → V} {c : Int → Int → Bool} {g : Int → Int → D} (h : OpR X f (rI C gv)) (hc : ∀ i j, c i j = true → C i j) (hr : ∀ i j G, Rep X.K cl G (g i j) (gv i j)) : OpD X cl f (intOp c g) := by
  refine ⟨_, h, fun H G x y dx dy dz Q gh tx ty e k => ?_⟩
  obtain ⟨i, j, rfl, rfl, hc', rfl⟩ := intOp_inv e
  exact ⟨i, j, tx.int, ty.int, hc i j hc', k _ H G .refl (hr i j G)⟩
theorem intD0 {f : Value → Value → Sem Value} {gv : Int → Int → V} {g : Int → Int → D} (h : OpR X f (rI0 gv)) (hr : ∀ i j G, Rep X.K cl G (g i j) (gv i j)) : OpD X cl f (intOp (fun _ _ => true) g) := by
  refine ⟨_, h, fun H G x y dx dy dz Q gh tx ty e k => ?_⟩
  obtain ⟨i, j, rfl, rfl, hc', rfl⟩ := intOp_inv e
  exact ⟨i, j, tx.int, ty.int, k _ H G .refl (hr i j G)⟩
def subD : D → D → Option D := intOp (fun _ _ => true) fun i j => .int (i - j)
def mulOk (i j : Int) : Bool := decide (-(2 ^ 64) < i ∧ i < 2 ^ 64) || decide (-(2 ^ 64) < j ∧ j < 2 ^ 64)
def modD : D → D → Option D := intOp (fun _ j => decide (0 < j)) fun i j => .int (i % j)
def fdivD : D → D → Option D := intOp (fun _ j => decide (0 < j ∧ j < 1073741824)) fun i j => .int (i / j)
def powD : D → D → Option D := intOp (fun i j => decide (0 ≤ j ∧ j ≤ 1000000 ∧ i.natAbs < 2 ^ 64)) fun i j => .int (i ^ j.toNat)
theorem od_sub : OpD X cl (binaryOp .Sub) subD := intD0 op_sub fun _ _ _ => .int
theorem od_mod : OpD X cl (binaryOp .Mod) modD := intD op_mod (fun i j h => by simpa using h) fun _ _ _ => .int
theorem od_fdiv : OpD X cl (binaryOp .FloorDiv) fdivD := intD op_fdiv (fun i j h => by simpa [CDiv] using h) fun _ _ _ => .int
theorem od_pow : OpD X cl (binaryOp .Pow) powD := intD op_pow (fun i j h => by simpa [CPow] using h) fun _ _ _ => .int

/-! ### + and * -/
def addD : D → D → Option D
  | .int i, .int j => some (.int (i + j))
  | .str a, .str b => if a.length + b.length ≤ sizeLine then some (.str (a ++ b)) else none
  | .lst a, .lst b => if a.length + b.length ≤ sizeLine then some (.lst (a ++ b)) else none
  | .tup a, .tup b => if a.length + b.length ≤ sizeLine then some (.tup (a ++ b)) else none
  | _, _ => none
theorem od_add : OpD X cl (binaryOp .Add) addD := by
  refine ⟨_, ((op_add.or op_add_str).or op_cat).or op_catA, fun H G x y dx dy dz Q gh tx ty e k => ?_⟩
  unfold addD at e
  split at e
  · cases e
    exact .inl (.inl (.inl ⟨_, _, tx.int, ty.int, k _ H G .refl .int⟩))
  · split at e
    · cases e
      rename_i h
      exact .inl (.inl (.inr ⟨_, _, tx.str, ty.str, h, k _ H G .refl .str⟩))
    · cases e
  · split at e
    · cases e
      rename_i h
      obtain ⟨a1, v1, rfl, h1, r1⟩ := tx.lst gh
      obtain ⟨a2, v2, rfl, h2, r2⟩ := ty.lst gh
      refine .inl (.inr ⟨a1, a2, v1, v2, rfl, rfl, h1, h2, by rw [← r1.length, ← r2.length]; exact h, fun p hp => ?_⟩)
      have sp : Step H G (upd H p (.lst (v1 ++ v2))) (upd G p (.lst (v1 ++ v2))) := .lay .refl hp
      exact k _ _ _ sp (.lst upd_same ((r1.append r2).mono (sp.same gh).2.1))
    · cases e
  · split at e
    · cases e
      rename_i h
      obtain ⟨a1, v1, rfl, h1, r1⟩ := tx.tup gh
      obtain ⟨a2, v2, rfl, h2, r2⟩ := ty.tup gh
      have t1 := tx
      refine .inr ⟨a1, a2, v1, v2, rfl, rfl, h1, h2, by rw [← r1.length, ← r2.length]; exact h, fun e1 => ?_, fun e1 e2 => ?_, fun e1 e2 p hp => ?_⟩
      · subst e1
        cases r1
        rcases ty with ty | ⟨_, _, _, z⟩
        · exact k _ H G .refl ty
        · exact z.elim
      · subst e2
        cases r2
        rw [List.append_nil] at k
        rcases tx with tx | ⟨_, _, _, z⟩
        · exact k _ H G .refl tx
        · exact z.elim
      · have sp : Step H G (upd H p (.tup (v1 ++ v2))) (upd G p (.tup (v1 ++ v2))) := .lay .refl hp
        exact k _ _ _ sp (.tup (SqT.of upd_same) ((r1.append r2).mono (sp.same gh).2.1))
    · cases e
  · cases e
theorem RepL.rep {K : PySem.W.Frag} {G : Hp} {ds : List D} {vs : List V} (h : RepL K cl G ds vs) : ∀ k : Nat, RepL K cl G (List.replicate k ds).flatten (List.replicate k vs).flatten
  | 0 => by simp only [List.replicate_zero, List.flatten_nil]; exact .nil
  | k + 1 => by simp only [List.replicate_succ, List.flatten_cons]; exact h.append (RepL.rep h k)
def mulD : D → D → Option D
  | .int i, .int j => if mulOk i j then some (.int (i * j)) else none
  | .lst a, .int k => if -(2 ^ 63) ≤ k ∧ k < 2 ^ 63 ∧ a.length * k.toNat ≤ sizeLine then some (.lst (List.replicate k.toNat a).flatten) else none
  | .tup a, .int k => if a ≠ [] ∧ 2 ≤ k ∧ k ≤ 1000 ∧ a.length ≤ 1000 then some (.tup (List.replicate k.toNat a).flatten) else none
  | _, _ => none
theorem od_mul : OpD X cl (binaryOp .Mult) mulD := by
  refine ⟨_, (op_mul.or op_rep).or op_repT, fun H G x y dx dy dz Q gh tx ty e k => ?_⟩
  unfold mulD at e
  split at e
  · split at e
    · cases e
      rename_i h
      exact .inl (.inl ⟨_, _, tx.int, ty.int, by simpa [mulOk, CMul] using h, k _ H G .refl .int⟩)
    · cases e
  · split at e
    · cases e
      rename_i h
      obtain ⟨a1, v1, rfl, h1, r1⟩ := tx.lst gh
      refine .inl (.inr ⟨a1, _, v1, rfl, ty.int, h1, h.1, h.2.1, by rw [← r1.length]; exact h.2.2, fun p hp => ?_⟩)
      exact k _ _ _ (.lay .refl hp) (.lst upd_same ((r1.rep _).mono (same_upd (gh.free hp))))
    · cases e
  · split at e
    · cases e
      rename_i h
      obtain ⟨a1, v1, rfl, h1, r1⟩ := tx.tup gh
      refine .inr ⟨a1, _, v1, rfl, ty.int, h1, fun z => h.1 (by subst z; cases r1; rfl), h.2.1, h.2.2.1, by rw [← r1.length]; exact h.2.2.2, fun p hp => ?_⟩
      exact k _ _ _ (.lay .refl hp) (.tup (SqT.of upd_same) ((r1.rep _).mono (same_upd (gh.free hp))))
    · cases e
  · cases e

/-! ### comparisons -/
def shp (d : D) : Bool := d.pl && SeqAt.shaped d.py
/-- == -/
def eqB (a b : D) : Bool := PyData.eqv a.py b.py
def eqD (a b : D) : Option D := if shp a && shp b then some (.bl (eqB a b)) else none
def neD (a b : D) : Option D := if shp a && shp b then some (.bl (!eqB a b)) else none
theorem shp_inv {d : D} (h : shp d = true) : d.pl = true ∧ SeqAt.shaped d.py = true := Bool.and_eq_true_iff.mp h
theorem od_eq (hu : X.A.units + 64 < cLine) : OpD X cl (compareOp .Eq) eqD := by
  refine ⟨_, op_eqD hu, fun H G x y dx dy dz Q gh tx ty e k => ?_⟩
  unfold eqD at e
  split at e
  · rename_i h
    cases e
    obtain ⟨h1, h2⟩ := Bool.and_eq_true_iff.mp h
    obtain ⟨p1, q1⟩ := shp_inv h1
    obtain ⟨p2, q2⟩ := shp_inv h2
    exact ⟨_, _, (tx.rep gh).dp p1, (ty.rep gh).dp p2, q1, q2, k _ H G .refl .bl⟩
  · cases e
theorem od_ne (hu : X.A.units + 64 < cLine) : OpD X cl (compareOp .NotEq) neD := by
  refine ⟨_, op_neD hu, fun H G x y dx dy dz Q gh tx ty e k => ?_⟩
  unfold neD at e
  split at e
  · rename_i h
    cases e
    obtain ⟨h1, h2⟩ := Bool.and_eq_true_iff.mp h
    obtain ⟨p1, q1⟩ := shp_inv h1
    obtain ⟨p2, q2⟩ := shp_inv h2
    exact ⟨_, _, (tx.rep gh).dp p1, (ty.rep gh).dp p2, q1, q2, k _ H G .refl .bl⟩
  · cases e
def strLt (a b : Str) : Bool := decide (a.cps.toList < b.cps.toList)
def ltD : D → D → Option D
  | .int i, .int j => some (.bl (decide (i < j)))
  | .str a, .str b => some (.bl (strLt a b))
  | _, _ => none
def leD : D → D → Option D := intOp (fun _ _ => true) fun i j => .bl (decide (i ≤ j))
def gtD : D → D → Option D := intOp (fun _ _ => true) fun i j => .bl (decide (j < i))
def geD : D → D → Option D := intOp (fun _ _ => true) fun i j => .bl (decide (j ≤ i))
theorem od_lt : OpD X cl (compareOp .Lt) ltD := by
  refine ⟨_, op_lt.or op_lt_str, fun H G x y dx dy dz Q gh tx ty e k => ?_⟩
  unfold ltD at e
  split at e
  · cases e; exact .inl ⟨_, _, tx.int, ty.int, k _ H G .refl .bl⟩
  · cases e; exact .inr ⟨_, _, tx.str, ty.str, k _ H G .refl .bl⟩
  · cases e
theorem od_le : OpD X cl (compareOp .LtE) leD := intD0 op_le fun _ _ _ => .bl
theorem od_gt : OpD X cl (compareOp .Gt) gtD := intD0 op_gt fun _ _ _ => .bl
theorem od_ge : OpD X cl (compareOp .GtE) geD := intD0 op_ge fun _ _ _ => .bl
/-- is None -/
def D.isNon : D → Bool
  | .non => true
  | _ => false
def isD (a b : D) : Option D := match b with
  | .non => some (.bl a.isNon)
  | _ => none
def isNotD (a b : D) : Option D := match b with
  | .non => some (.bl (!a.isNon))
  | _ => none
theorem D.isNon_eq {K : PySem.W.Frag} {H G : Hp} {d : D} {x : V} (h : Top K cl H G d x) : decide (x = V.non) = d.isNon := by
  have h := h.non_iff
  cases d <;> simp [h, D.isNon]
theorem od_is : OpD X cl (compareOp .Is) isD := by
  refine ⟨_, op_isN, fun H G x y dx dy dz Q gh tx ty e k => ?_⟩
  cases dy <;> simp only [isD] at e <;> first | (cases e; done) | skip
  cases e
  refine ⟨ty.non, ?_⟩
  rw [D.isNon_eq tx]
  exact k _ H G .refl .bl
theorem od_isNot : OpD X cl (compareOp .IsNot) isNotD := by
  refine ⟨_, op_notN, fun H G x y dx dy dz Q gh tx ty e k => ?_⟩
  cases dy <;> simp only [isNotD] at e <;> first | (cases e; done) | skip
  cases e
  refine ⟨ty.non, ?_⟩
  rw [D.isNon_eq tx]
  exact k _ H G .refl .bl
/-- x in ys, ys a list or a tuple of plain data -/
def memB (x : D) (ys : List D) : Bool := (D.pyL ys).any fun z => PyData.eqv z x.py
def hasK {α : Type} [DecidableEq α] (ks : List α) (k : α) : Bool := ks.any fun x => decide (x = k)
def keyOf : D → Option Key
  | .int i => some (.inl i)
  | .str s => some (.inr s)
  | _ => none
def inB (a b : D) : Option Bool := match b with
  | .lst l => if shp a && shp (.lst l) then some (memB a l) else none
  | .tup l => if shp a && shp (.tup l) then some (memB a l) else none
  | .str z => (match a with
    | .str x => if x.length = 1 then some (decide (x.cps.getD 0 0 ∈ z.cps.toList)) else none
    | _ => none)
  | .dct ks l => (keyOf a).map fun k => hasK ks k
  | _ => none
def inD (a b : D) : Option D := (inB a b).map D.bl
def notInD (a b : D) : Option D := (inB a b).map fun k => .bl (!k)
def rInDT (K : PySem.W.Frag) (neg : Bool) : R2 := fun x y H Q => ∃ d ds, Dp K H x d ∧ Dp K H y (.tuple ds) ∧ SeqAt.shaped d = true ∧ SeqAt.shaped (.tuple ds) = true ∧ Q (.bl (if neg then !(ds.any fun z => PyData.eqv z d) else ds.any fun z => PyData.eqv z d)) H
theorem op_inDT (hu : X.A.units + 65 < cLine) : OpR X (compareOp .In) (rInDT X.K false) := by
  intro pins s σ H x
                                                                                                              y v u Q I rx ry h
  obtain ⟨d, ds, hd,
                                                                                                              he, sd, se, q⟩ := h
  obtain ⟨as, r1⟩ :=
                                                                                                              Dp.reads I d x v hd rx
  obtain ⟨bs, r2⟩ := Dp.reads I (.tuple ds) y u he ry
  exact SeqAt.in_tuple_reads r2 r1 (SeqAt.canLay_of_shaped se) (SeqAt.canLay_of_shaped sd) (room_in_shaped sd hu) ⟨.bl _, H, I, rfl, q⟩
theorem op_notInDT (hu : X.A.units + 65 < cLine) : OpR X (compareOp .NotIn) (rInDT X.K true) := by
  intro pins s σ H x
                                                                                                              y v u Q I rx ry h
  obtain ⟨d, ds, hd,
                                                                                                              he, sd, se, q⟩ := h
  obtain ⟨as, r1⟩ :=
                                                                                                              Dp.reads I d x v hd rx
  obtain ⟨bs, r2⟩ := Dp.reads I (.tuple ds) y u he ry
  exact SeqAt.notIn_tuple_reads r2 r1 (SeqAt.canLay_of_shaped se) (SeqAt.canLay_of_shaped sd) (room_in_shaped sd hu) ⟨.bl _, H, I, rfl, q⟩
theorem one_sign {x : Str} (h : x.length
                                                                                                              = 1) : x = ⟨#[x.cps.getD 0 0]⟩ := by
  obtain ⟨⟨l⟩⟩ := x
  match l, h with
  | [c], _ => rfl
/-- x in d, d a dict by ints and texts -/
def rInK : R2 := fun x y H Q => ∃ a kvs k, y = .ref a ∧ H a = some (.dK kvs) ∧ x = kV k ∧ Q (.bl (valV kvs k).isSome) H
def rNotInK : R2 := fun x y H Q => ∃ a kvs k, y = .ref a ∧ H a = some (.dK kvs) ∧ x = kV k ∧ Q (.bl (!(valV kvs k).isSome)) H
theorem op_inK (hu : X.A.units + 1 < cLine) : OpR X (compareOp .In) rInK := by
  intro pins s σ H x
                                                                                                              y v u Q I rx ry h
  obtain ⟨a, kvs, k, rfl, h1, rfl, q⟩ := h
  cases ry
  exact d_in hu I (DGet.k h1) rx fun s3 I3 => ⟨.bl _, H, I3, rfl, q⟩
theorem op_notInK (hu : X.A.units + 1 < cLine) : OpR X (compareOp .NotIn) rNotInK := by
  intro pins s σ H x
                                                                                                              y v u Q I rx ry h
  obtain ⟨a, kvs, k, rfl, h1, rfl, q⟩ := h
  cases ry
  exact d_notIn hu I (DGet.k h1) rx fun s3 I3 => ⟨.bl _, H, I3, rfl, q⟩
theorem valV_zip_some {α : Type} [DecidableEq α] {β : Type} (k : α) : ∀ (ks : List α) (vs : List β), ks.length = vs.length → (((ks.zip vs).find? fun kv => decide (kv.1 = k)).map (·.2)).isSome = hasK ks k
  | [], [], _ => by simp [hasK]
  | a :: ks, v :: vs, h => by
    have ih := valV_zip_some k ks vs (by simpa using h)
    by_cases e : a = k
    · simp [e, hasK]
    · simp only [List.zip_cons_cons, List.find?_cons, hasK, List.any_cons, e, decide_false, Bool.false_or]
      exact ih
theorem keyOf_rel {K : PySem.W.Frag} {H G : Hp} {d : D} {k : Key} {v : V} (h : Top K cl H G d v) (e : keyOf d = some k) : v = kV k := by
  cases d <;> simp only [keyOf] at e <;> first | (cases e; done) | skip
  · cases e; exact h.int
  · cases e; exact h.str
theorem Top.dct {K : PySem.W.Frag} {H G : Hp} {ks : List Key} {l : List D} {v : V} (g : Same G H) (h : Top K cl H G (.dct ks l) v) : ∃ a vs, v = .ref a ∧ H a = some (.dK (ks.zip vs)) ∧ ks.length = vs.length ∧ RepL K cl G l vs := by
  rcases h with h | ⟨a, rfl, hn, vs, h1, h3, h2⟩
  · cases h with
    | dct h l r => exact ⟨_, _, rfl, g _ _ h, l, r⟩
  · exact ⟨_, _, rfl, h1, h3, h2⟩
theorem od_in (hu : X.A.units + 65 < cLine) : OpD X cl (compareOp .In) inD := by
  refine ⟨_, ((((op_inD hu).or (op_inDT hu)).or op_in_sign).or (op_inK (by omega))), fun H G x y dx dy dz Q gh tx ty e k => ?_⟩
  unfold inD at e
  obtain ⟨b, hb, rfl⟩ := Option.map_eq_some_iff.mp e
  unfold inB at hb
  split at hb
  · split at hb
    · rename_i h
      cases hb
      obtain ⟨h1, h2⟩ := Bool.and_eq_true_iff.mp h
      obtain ⟨p1, q1⟩ := shp_inv h1
      obtain ⟨p2, q2⟩ := shp_inv h2
      exact .inl (.inl (.inl ⟨_, _, (tx.rep gh).dp p1, (ty.rep gh).dp p2, q1, q2, k _ H G .refl .bl⟩))
    · cases hb
  · split at hb
    · rename_i h
      cases hb
      obtain ⟨h1, h2⟩ := Bool.and_eq_true_iff.mp h
      obtain ⟨p1, q1⟩ := shp_inv h1
      obtain ⟨p2, q2⟩ := shp_inv h2
      exact .inl (.inl (.inr ⟨_, _, (tx.rep gh).dp p1, (ty.rep gh).dp p2, q1, q2, k _ H G .refl .bl⟩))
    · cases hb
  · split at hb
    · split at hb
      · rename_i h
        cases hb
        exact .inl (.inr ⟨_, _, by rw [tx.str]; exact congrArg V.str (one_sign h), ty.str, k _ H G .refl .bl⟩)
      · cases hb
    · cases hb
  · obtain ⟨k', hk, rfl⟩ := Option.map_eq_some_iff.mp hb
    obtain ⟨a, vs, rfl, h1, hl, r⟩ := ty.dct gh
    refine .inr ⟨a, _, k', rfl, h1, keyOf_rel tx hk, ?_⟩
    have e1 : (valV (List.zip _ vs) k').isSome = _ := valV_zip_some k' _ vs hl
    rw [e1]
    exact k _ H G .refl .bl
  · cases hb
theorem od_notIn (hu : X.A.units + 65 < cLine) : OpD X cl (compareOp .NotIn) notInD := by
  refine ⟨_, ((((op_notInD hu).or (op_notInDT hu)).or op_notIn_sign).or (op_notInK (by omega))), fun H G x y dx dy dz Q gh tx ty e k => ?_⟩
  unfold notInD at e
  obtain ⟨b, hb, rfl⟩ := Option.map_eq_some_iff.mp e
  unfold inB at hb
  split at hb
  · split at hb
    · rename_i h
      cases hb
      obtain ⟨h1, h2⟩ := Bool.and_eq_true_iff.mp h
      obtain ⟨p1, q1⟩ := shp_inv h1
      obtain ⟨p2, q2⟩ := shp_inv h2
      exact .inl (.inl (.inl ⟨_, _, (tx.rep gh).dp p1, (ty.rep gh).dp p2, q1, q2, k _ H G .refl .bl⟩))
    · cases hb
  · split at hb
    · rename_i h
      cases hb
      obtain ⟨h1, h2⟩ := Bool.and_eq_true_iff.mp h
      obtain ⟨p1, q1⟩ := shp_inv h1
      obtain ⟨p2, q2⟩ := shp_inv h2
      exact .inl (.inl (.inr ⟨_, _, (tx.rep gh).dp p1, (ty.rep gh).dp p2, q1, q2, k _ H G .refl .bl⟩))
    · cases hb
  · split at hb
    · split at hb
      · rename_i h
        cases hb
        exact .inl (.inr ⟨_, _, by rw [tx.str]; exact congrArg V.str (one_sign h), ty.str, k _ H G .refl .bl⟩)
      · cases hb
    · cases hb
  · obtain ⟨k', hk, rfl⟩ := Option.map_eq_some_iff.mp hb
    obtain ⟨a, vs, rfl, h1, hl, r⟩ := ty.dct gh
    refine .inr ⟨a, _, k', rfl, h1, keyOf_rel tx hk, ?_⟩
    have e1 : (valV (List.zip _ vs) k').isSome = _ := valV_zip_some k' _ vs hl
    rw [e1]
    exact k _ H G .refl .bl
  · cases hb
end
end DL

namespace DL
open PySem L2 PySem.Spec PyProof.Rows

/-! ### tests -/
def tru : D → Option Bool
  | .non => some false
  | .bl b => some b
  | .int i => some (i != 0)
  | .str s => if s.length ≤ sizeLine then some ((s.length : Int) != 0) else none
  | .tup l | .lst l => some (!l.isEmpty)
  | .scr l => some (!l.isEmpty)
  | .dct ks _ => some (!ks.isEmpty)
  | _ => none
def optB {α : Type} (o : Option α) (e : Env) : Out α := match o with
  | some b => .ok b e
  | none => .bad
def cTru (f : M R) : M Bool := fun e => (f e).bnd fun r e1 => optB ((e1.rd r).bind tru) e1
def cNot (f : M Bool) : M Bool := fun e => (f e).bnd fun b e1 => .ok (!b) e1
def cAnd (f g : M Bool) : M Bool := fun e => (f e).bnd fun b e1 => if b then g e1 else .ok false e1
def cOr (f g : M Bool) : M Bool := fun e => (f e).bnd fun b e1 => if b then .ok true e1 else g e1
/-- .. as values -/
def cAndV (f g : M R) : M R := fun e => (f e).bnd fun r e1 => match r with
  | .val (.bl b) => if b then g e1 else .ok (.val (.bl false)) e1
  | _ => .bad
def cOrV (f g : M R) : M R := fun e => (f e).bnd fun r e1 => match r with
  | .val (.bl b) => if b then .ok (.val (.bl true)) e1 else g e1
  | _ => .bad
def cNotV (f : M R) : M R := fun e => (f e).bnd fun r e1 => match r with
  | .val (.bl b) => .ok (.val (.bl (!b))) e1
  | _ => .bad
def cIf (c : M Bool) (f g : M R) : M R := fun e => (c e).bnd fun b e1 => if b then f e1 else g e1
structure RW (X : Cx) (cl : Str → Addr) (F : Fra) (W : WX) (x : Expr) (f : M Bool) : Prop where
  pw : PW X x (tB' X.K cl F W f)
section
variable {X : Cx} {cl : Str → Addr} {F : Fra} {W : WX}
theorem post_some {α : Type} {K : PySem.W.Frag} {σ : L2.St} {o : Option α} {e : Env} {q : α → Env → Prop} (h : Post K cl F W σ (optB o e) q) : ∃ b, o = some b ∧ q b e := by
  cases o with
  | some b => exact ⟨b, rfl, h⟩
  | none => exact h.elim
theorem Top.tru {H G : Hp} {d : D} {v : V} {b : Bool} (g : Same G H) (h : Top X.K cl H G d v) (e : tru d = some b) : TruV X.K v H b := by
  cases d with
  | non => cases h.non; cases e; rfl
  | bl b => cases h.bl; cases e; rfl
  | int i => cases h.int; cases e; rfl
  | str s =>
    cases h.str
    simp only [DL.tru] at e
    split at e
    · rename_i hl; cases e; exact ⟨hl, rfl⟩
    · cases e
  | tup l =>
    obtain ⟨a, vs, rfl, h1, r⟩ := h.tup g
    cases e
    exact .inr (.inl ⟨vs, h1, by cases r <;> rfl⟩)
  | lst l =>
    obtain ⟨a, vs, rfl, h1, r⟩ := h.lst g
    cases e
    exact .inl ⟨vs, SqL.of h1, by cases r <;> rfl⟩
  | scr l =>
    obtain ⟨a, rfl, h1⟩ := h.scr g
    cases e
    exact .inl ⟨_, h1, by cases l <;> rfl⟩
  | dct ks l =>
    obtain ⟨a, vs, rfl, h1, hl, r⟩ := h.dct g
    cases e
    refine .inr (.inr ⟨_, h1, ?_⟩)
    cases ks <;> cases vs <;> first | rfl | (simp at hl)
  | _ => cases e
theorem rt_tru {a : Expr} {f : M R} (h : RE X cl F W a f) (he : ∀ whole, isTrue a X.env whole = (do let v ← whole; standAt a.pos; holding [v] (truthy v)) := by intro _; rfl) : RT X cl F W a (cTru f) := by
  refine ⟨PT.imp (pt_truth h.pe he) fun σ H Q ⟨e, G, st, q⟩ => tD_then st q fun r e1 v H1 G1 s1 k1 r1 z => ?_⟩
  obtain ⟨b, hb, z⟩ := post_some z
  obtain ⟨d, hd, hb⟩ := Option.bind_eq_some_iff.mp hb
  exact ⟨b, (s1.top r1 hd).tru s1.ret.gh hb, z H1 G1 s1 k1⟩
theorem rt_not {a : Expr} {f : M Bool} {pos : Pos} (h : RT X cl F W a f) : RT X cl F W (.UnaryOp .Not a pos) (cNot f) :=
  ⟨PT.imp (pt_not h.pt) fun σ H Q ⟨e, G, st, q⟩ => tB_then st q fun r e1 H1 G1 s1 k1 z => z H1 G1 s1 k1⟩
theorem and_D {fa fb : M Bool} {σ : L2.St} {H : Hp} {Q : Bool → Hp → Prop} (h : tB' X.K cl F W (cAnd fa fb) σ H Q) : tAnd (tB' X.K cl F W fa) (tB' X.K cl F W fb) σ H Q := by
  obtain ⟨e, G, st, q⟩ := h
  refine tB_then st q fun r e1 H1 G1 s1 k1 z => ?_
  cases r with
  | false => exact z H1 G1 s1 k1
  | true => exact ⟨e1, G1, s1, post_imp z fun b e2 z2 H2 G2 s2 k2 => z2 H2 G2 s2 (k1.trans k2)⟩
theorem or_D {fa fb : M Bool} {σ : L2.St} {H : Hp} {Q : Bool → Hp → Prop} (h : tB' X.K cl F W (cOr fa fb) σ H Q) : tOr (tB' X.K cl F W fa) (tB' X.K cl F W fb) σ H Q := by
  obtain ⟨e, G, st, q⟩ := h
  refine tB_then st q fun r e1 H1 G1 s1 k1 z => ?_
  cases r with
  | true => exact z H1 G1 s1 k1
  | false => exact ⟨e1, G1, s1, post_imp z fun b e2 z2 H2 G2 s2 k2 => z2 H2 G2 s2 (k1.trans k2)⟩
theorem rw_and1 {a : Expr} {f : M Bool} {pos : Pos} (h : RT X cl F W a f) : RW X cl F W (.BoolOp .And [a] pos) f := ⟨pw_and1 h.pt⟩
theorem rw_or1 {a : Expr} {f : M Bool} {pos : Pos} (h : RT X cl F W a f) : RW X cl F W (.BoolOp .Or [a] pos) f := ⟨pw_or1 h.pt⟩
theorem rw_and {a b : Expr} {rest : List Expr} {f g : M Bool} {pos : Pos} (h : RT X cl F W a f) (h2 : RW X cl F W (.BoolOp .And (b :: rest) pos) g) : RW X cl F W (.BoolOp .And (a :: b :: rest) pos) (cAnd f g) :=
  ⟨PW.imp (pw_and h.pt h2.pw) fun σ H Q q => and_D q⟩
theorem rw_or {a b : Expr} {rest : List Expr} {f g : M Bool} {pos : Pos} (h : RT X cl F W a f) (h2 : RW X cl F W (.BoolOp .Or (b :: rest) pos) g) : RW X cl F W (.BoolOp .Or (a :: b :: rest) pos) (cOr f g) :=
  ⟨PW.imp (pw_or h.pt h2.pw) fun σ H Q q => or_D q⟩
theorem rt_w {a : Expr} {f : M Bool} (h : RW X cl F W a f) : RT X cl F W a f := ⟨h.pw.pt⟩
theorem re_one {a : Expr} {op : BoolOp} {f : M R} {pos : Pos} (h : RE X cl F W a f) : RE X cl F W (.BoolOp op [a] pos) f := ⟨pe_one h.pe⟩
theorem blR {K : PySem.W.Frag} {σ : L2.St} {G : Hp} {b : Bool} {v : V} (h : RR K cl σ G (.val (.bl b)) v) : v = .bl b := by cases h; rfl
theorem re_and {a b : Expr} {rest : List Expr} {f g : M R} {pos : Pos} (h : RE X cl F W a f) (h2 : RE X cl F W (.BoolOp .And (b :: rest) pos) g) : RE X cl F W (.BoolOp .And (a :: b :: rest) pos) (cAndV f g) := by
  refine ⟨PE.imp (pe_and h.pe h2.pe) fun σ H Q ⟨e, G, st, q⟩ => tD_then st q fun r e1 v H1 G1 s1 k1 r1 z => ?_⟩
  cases r with
  | whole i => exact z.elim
  | val d =>
    cases d with
    | bl b =>
      cases blR r1
      refine ⟨b, rfl, ?_⟩
      cases b with
      | false => exact z _ H1 G1 s1 k1 .bl
      | true => exact ⟨e1, G1, s1, post_imp z fun b e2 z2 v H2 G2 s2 k2 r2 => z2 v H2 G2 s2 (k1.trans k2) r2⟩
    | _ => exact z.elim
theorem re_or {a b : Expr} {rest : List Expr} {f g : M R} {pos : Pos} (h : RE X cl F W a f) (h2 : RE X cl F W (.BoolOp .Or (b :: rest) pos) g) : RE X cl F W (.BoolOp .Or (a :: b :: rest) pos) (cOrV f g) := by
  refine ⟨PE.imp (pe_or h.pe h2.pe) fun σ H Q ⟨e, G, st, q⟩ => tD_then st q fun r e1 v H1 G1 s1 k1 r1 z => ?_⟩
  cases r with
  | whole i => exact z.elim
  | val d =>
    cases d with
    | bl b =>
      cases blR r1
      refine ⟨b, rfl, ?_⟩
      cases b with
      | true => exact z _ H1 G1 s1 k1 .bl
      | false => exact ⟨e1, G1, s1, post_imp z fun b e2 z2 v H2 G2 s2 k2 r2 => z2 v H2 G2 s2 (k1.trans k2) r2⟩
    | _ => exact z.elim
theorem re_not {a : Expr} {f : M R} {pos : Pos} (h : RE X cl F W a f) : RE X cl F W (.UnaryOp .Not a pos) (cNotV f) := by
  refine ⟨PE.imp (pe_not h.pe) fun σ H Q ⟨e, G, st, q⟩ => tD_then st q fun r e1 v H1 G1 s1 k1 r1 z => ?_⟩
  cases r with
  | whole i => exact z.elim
  | val d =>
    cases d with
    | bl b =>
      cases blR r1
      exact ⟨b, rfl, z _ H1 G1 s1 k1 .bl⟩
    | _ => exact z.elim
theorem re_if {c a b : Expr} {fc : M Bool} {f g : M R} {pos : Pos} (hc : RT X cl F W c fc) (h : RE X cl F W a f) (h2 : RE X cl F W b g) : RE X cl F W (.IfExp c a b pos) (cIf fc f g) := by
  refine ⟨PE.imp (pe_ifExp hc.pt h.pe h2.pe) fun σ H Q ⟨e, G, st, q⟩ => tB_then st q fun r e1 H1 G1 s1 k1 z => ?_⟩
  cases r with
  | true => exact ⟨e1, G1, s1, post_imp z fun b e2 z2 v H2 G2 s2 k2 r2 => z2 v H2 G2 s2 (k1.trans k2) r2⟩
  | false => exact ⟨e1, G1, s1, post_imp z fun b e2 z2 v H2 G2 s2 k2 r2 => z2 v H2 G2 s2 (k1.trans k2) r2⟩
/-- a op b op' c -/
def cChain (g g' : D → D → Option D) (fa fb fc : M R) : M R := fun e => (fa e).bnd fun x e1 => (fb e1).bnd fun y e2 => match opt2 g (e2.rd x) (e2.rd y) with
  | some (.bl true) => (fc e2).bnd fun z e3 => opt (opt2 g' (e3.rd y) (e3.rd z)) e3
  | some (.bl false) => .ok (.val (.bl false)) e2
  | _ => .bad
theorem chain_D {f f' : Value → Value → Sem Value} {g g' : D → D → Option D} {fa fb fc : M R} {r r' : R2} {σ : L2.St} {H : Hp} {Q : VK}
    (hg : ∀ H G x y dx dy dz Q, Same G H → Top X.K cl H G dx x → Top X.K cl H G dy y → g dx dy = some dz → (∀ v H' G', Step H G H' G' → Rep X.K cl G' dz v → Q v H') → r x y H Q)
    (hg' : ∀ H G x y dx dy dz Q, Same G H → Top X.K cl H G dx x → Top X.K cl H G dy y → g' dx dy = some dz → (∀ v H' G', Step H G H' G' → Rep X.K cl G' dz v → Q v H') → r' x y H Q)
    (h : tD X.K cl F W (cChain g g' fa fb fc) σ H Q) : tChain r r' (tD X.K cl F W fa) (tD X.K cl F W fb) (tD X.K cl F W fc) σ H Q := by
  obtain ⟨e, G, st, q⟩ := h
  refine tD_then st q fun x e1 v1 H1 G1 s1 k1 r1 z => tD_then s1 z fun y e2 v2 H2 G2 s2 k2 r2 z => ?_
  cases hz : opt2 g (e2.rd x) (e2.rd y) with
  | none => rw [hz] at z; exact z.elim
  | some d =>
    rw [hz] at z
    obtain ⟨dx, dy, hx, hy, hg2⟩ := opt2_ok hz
    refine hg H2 G2 v1 v2 dx dy d _ s2.ret.gh (s2.top (r1.mono k2.gg) hx) (s2.top r2 hy) hg2 fun v H3 G3 sp rv => ?_
    have s3 := s2.step sp
    have k3 := (k1.trans k2).trans (Kp.step s2 sp)
    cases d with
    | bl b =>
      cases rv
      refine ⟨b, rfl, ?_⟩
      cases b with
      | false => exact z _ H3 G3 s3 k3 .bl
      | true =>
        refine tD_then s3 z fun w e4 v4 H4 G4 s4 k4 r4 z => ?_
        obtain ⟨dz, z1, z⟩ := post_opt z
        obtain ⟨dy', dw, hy', hw, hg3⟩ := opt2_ok z1
        refine hg' H4 G4 v2 v4 dy' dw dz Q s4.ret.gh (s4.top ((r2.mono (Kp.step s2 sp).gg).mono k4.gg) hy') (s4.top r4 hw) hg3 fun v H' G' sp2 rv2 => ?_
        exact z v H' G' (s4.step sp2) ((k3.trans k4).trans (Kp.step s4 sp2)) rv2
    | _ => exact z.elim
theorem re_chain {a b c : Expr} {op op' : CmpOp} {g g' : D → D → Option D} {fa fb fc : M R} {pos : Pos} (ho : OpD X cl (compareOp op) g) (ho' : OpD X cl (compareOp op') g') (ha : RE X cl F W a fa) (hb : RE X cl F W b fb) (hc : RE X cl F W c fc)
    (hm : lastMarks [op, op'] [b, c] = false := by with_unfolding_all rfl) : RE X cl F W (.Compare a [op, op'] [b, c] pos) (cChain g g' fa fb fc) := by
  obtain ⟨r, h1, h2⟩ := ho
  obtain ⟨r', h1', h2'⟩ := ho'
  exact ⟨PE.imp (pe_chain h1 h1' ha.pe hb.pe hc.pe hm) fun σ H Q h => chain_D (f := compareOp op) (f' := compareOp op') h2 h2' h⟩
theorem rt_chain {a b c : Expr} {op op' : CmpOp} {g g' : D → D → Option D} {fa fb fc : M R} {pos : Pos} (ho : OpD X cl (compareOp op) g) (ho' : OpD X cl (compareOp op') g') (ha : RE X cl F W a fa) (hb : RE X cl F W b fb) (hc : RE X cl F W c fc)
    (hm : lastMarks [op, op'] [b, c] = false := by with_unfolding_all rfl) : RT X cl F W (.Compare a [op, op'] [b, c] pos) (cTest (cChain g g' fa fb fc)) := by
  obtain ⟨r, h1, h2⟩ := ho
  obtain ⟨r', h1', h2'⟩ := ho'
  refine ⟨PT.imp (pt_chain h1 h1' ha.pe hb.pe hc.pe hm) fun σ H Q h => ?_⟩
  exact chain_D (f := compareOp op) (f' := compareOp op') h2 h2' (tTest_D h)

/-! ### subscripts -/
def rIxS2 : R2 := rIxS
def ixD : D → D → Option D
  | .lst l, .int i => atI l i
  | .tup l, .int i => atI l i
  | .scr l, .int i => (atI l i).map D.int
  | .str s, .int i => if s.length ≤ sizeLine then (atI s.cps.toList i).map fun c => .str ⟨#[c]⟩ else none
  | .dct ks l, k => (keyOf k).bind fun k => ((ks.zip l).find? fun kv => decide (kv.1 = k)).map (·.2)
  | _, _ => none
theorem ixN_lt {n : Nat} {i : Int} {j : Nat} (h : ixN n i = some j) : j < n := (ixN_seq h).2.1
theorem RepL.atI {K : PySem.W.Frag} {G : Hp} {ds : List D} {vs : List V} {i : Int} {d : D} (r : RepL K cl G ds vs) (h : L2.atI ds i = some d) : ∃ v, L2.atI vs i = some v ∧ Rep K cl G d v := by
  unfold L2.atI at h ⊢
  rw [← r.length]
  obtain ⟨j, hj, hd⟩ := Option.bind_eq_some_iff.mp h
  rw [hj]
  exact r.getD hd
/-- d[k], by values -/
def rIxD : R2 := fun x y H Q => ∃ a kvs k v, x = .ref a ∧ H a = some (.dK kvs) ∧ y = kV k ∧ valV kvs k = some v ∧ Q v H
theorem ix_dict (hu : X.A.units + 1 < cLine) : IxR X rIxD := by
  intro value slice pins s σ
                                                                                                              H x y v u Q I rx ry h hs
  obtain ⟨a, kvs, k, w, rfl, h1, rfl, h2, q⟩ := h
  cases rx
  have g : DGet H a (kV k) (some w) := by
    have z := DGet.k (k := k) h1
    rw [h2] at z
    exact z
  exact tail_any (ops := [.ref a, u]) (dict_typeIs I g) PySem.F.slot_dict_getitem.lookup (d_getItem hu I g ry fun w' s3 I3 rw' => ⟨w, H, I3, rw', q⟩) hs
theorem RepL.zipFind {α : Type} [DecidableEq α] {K : PySem.W.Frag} {G : Hp} {k : α} {d : D} : ∀ {ks : List α} {ds : List D} {vs : List V}, RepL K cl G ds vs → ((ks.zip ds).find? fun kv => decide (kv.1 = k)).map (·.2) = some d → ∃ v, ((ks.zip vs).find? fun kv => decide (kv.1 = k)).map (·.2) = some v ∧ Rep K cl G d v
  | [], _, _, _, h =>
                                                                                                              by simp at h
  | _ :: _, _, _, .nil, h => by simp at h
  | a :: ks, _, _, .cons r t, h => by
    by_cases e : a = k
    · simp [e] at h ⊢; subst h; exact r
    · simp only [List.zip_cons_cons, List.find?_cons, e, decide_false] at h ⊢
      exact RepL.zipFind t h
theorem atI_map {α β : Type} (f : α → β) (l : List α) (i : Int) : L2.atI (l.map f) i = (L2.atI l i).map f := by
  unfold L2.atI
  rw [List.length_map]
  cases ixN l.length i with
  | none => rfl
  | some j => simp
theorem re_ix {a b : Expr} {fa fb : M R} {pos : Pos} (hu : X.A.units + 1 < cLine) (ha : RE X cl F W a fa) (hb : RE X cl F W b fb) (hs : PlainIx b := by intro _ _; rfl) : RE X cl F W (.Subscript a b pos) (cOp ixD fa fb) := by
  refine ⟨PE.imp (pe_ix (ix_seq.or (ix_dict hu)) ha.pe hb.pe hs) fun σ H Q h => tOp_D (f := fun _ _ => getItem .none .none) (fun H G x y dx dy dz Q gh tx ty e k => ?_) h⟩
  unfold ixD at e
  split at e
  · obtain ⟨a1, v1, rfl, h1, r1⟩ := tx.lst gh
    obtain ⟨v, hv, rv⟩ := r1.atI e
    exact .inl (.inl ⟨a1, v1, _, v, rfl, ty.int, SqL.of h1, hv, k _ H G .refl rv⟩)
  · obtain ⟨a1, v1, rfl, h1, r1⟩ := tx.tup gh
    obtain ⟨v, hv, rv⟩ := r1.atI e
    exact .inl (.inr (.inl ⟨a1, v1, _, v, rfl, ty.int, h1, hv, k _ H G .refl rv⟩))
  · obtain ⟨a1, rfl, h1⟩ := tx.scr gh
    obtain ⟨n, hn, rfl⟩ := Option.map_eq_some_iff.mp e
    exact .inl (.inl ⟨a1, _, _, .int n, rfl, ty.int, h1, by rw [atI_map, hn]; rfl, k _ H G .refl .int⟩)
  · split at e
    · rename_i hl
      obtain ⟨c, hc, rfl⟩ := Option.map_eq_some_iff.mp e
      exact .inl (.inr (.inr ⟨_, _, c, tx.str, ty.int, hl, hc, k _ H G .refl .str⟩))
    · cases e
  · obtain ⟨k', hk, hv⟩ := Option.bind_eq_some_iff.mp e
    obtain ⟨a1, vs, rfl, h1, hl, r⟩ := tx.dct gh
    obtain ⟨v, hv2, rv⟩ := r.zipFind hv
    exact .inr ⟨a1, _, k', v, rfl, h1, keyOf_rel ty hk, hv2, k _ H G .refl rv⟩
  · cases e

/-! ### slices -/
def cPart (f : M R) : M (Option Int) := fun e => (f e).bnd fun r e1 => match r with
  | .val (.int i) => .ok (some i) e1
  | _ => .bad
def cNoPart : M (Option Int) := fun e => .ok none e
structure RO (X : Cx) (cl : Str → Addr) (F : Fra) (W : WX) (x : Option Expr) (f : M (Option Int)) : Prop where
  po : PO X x fun σ H Q => ∃ e G, Stt X.K cl F e σ H G ∧ Post X.K cl F W σ (f e) fun o e' => ∀ H' G', Stt X.K cl F e' σ H' G' → Kp F σ e H G e' H' G' → Q o H'
theorem ro_none : RO X cl F W none cNoPart := ⟨⟨fun pins s σ H Q I ⟨e, G, st, q⟩ => po_none.run pins s σ H Q I (q H G st .refl)⟩⟩
theorem ro_some {x : Expr} {f : M R} (h : RE X cl F W x f) : RO X cl F W (some x) (cPart f) := by
  refine ⟨⟨fun pins s σ H Q I ⟨e, G, st, q⟩ => (po_some h.pe).run pins s σ H Q I (tD_then st q fun r e1 v H1 G1 s1 k1 r1 z => ?_)⟩⟩
  cases r with
  | whole i => exact z.elim
  | val d =>
    cases d with
    | int i => cases r1; exact ⟨i, rfl, z H1 G1 s1 k1⟩
    | _ => exact z.elim
def cutL {α : Type} (xs : List α) (lo hi : Option Int) : List α := (xs.drop (HT.sIx xs.length 0 lo)).take (HT.sIx xs.length xs.length hi - HT.sIx xs.length 0 lo)
def slD : D → Option Int → Option Int → Option D
  | .lst l, lo, hi => some (.lst (cutL l lo hi))
  | .tup l, lo, hi => some (.tup (cutL l lo hi))
  | .scr l, lo, hi => some (.lst ((cutL l lo hi).map D.int))
  | _, _, _ => none
theorem RepL.cut {K : PySem.W.Frag} {G : Hp} {ds : List D} {vs : List V} (r : RepL K cl G ds vs) (lo hi : Option Int) : RepL K cl G (cutL ds lo hi) (cutV vs lo hi) := by
  unfold cutL cutV
  rw [r.length]
  exact (r.drop _).take _
theorem cutV_map {α : Type} (f : α → V) (l : List α) (lo hi : Option Int) : cutV (l.map f) lo hi = (cutL l lo hi).map f := by
  unfold cutL cutV
  rw [List.length_map, List.map_take, List.map_drop]
theorem cutL_whole {α : Type} {l : List α} {lo hi : Option Int} (h : HT.sIx l.length 0 lo = 0 ∧ HT.sIx l.length l.length hi = l.length) : cutL l lo hi = l := by
  unfold cutL
  rw [h.1, h.2]
  simp
def cSl (f : M R) (lo hi : M (Option Int)) : M R := fun e => (f e).bnd fun r e1 => (lo e1).bnd fun l e2 => (hi e2).bnd fun h e3 => opt ((e3.rd r).bind fun d => slD d l h) e3
theorem re_sl {x : Expr} {lo hi : Option Expr} {f : M R} {fl fh : M (Option Int)} {p2 pos : Pos} (h : RE X cl F W x f) (hl : RO X cl F W lo fl) (hh : RO X cl F W hi fh) : RE X cl F W (.Subscript x (.Slice lo hi none p2) pos) (cSl f fl fh) := by
  refine ⟨PE.imp (pe_slice (sl_list.or sl_tupA) h.pe hl.po hh.po) fun σ H Q ⟨e, G, st, q⟩ => tD_then st q fun r e1 v H1 G1 s1 k1 r1 z => ?_⟩
  refine ⟨e1, G1, s1, post_imp (post_bnd z) fun l e2 z H2 G2 s2 k2 => ⟨e2, G2, s2, post_imp (post_bnd z) fun u e3 z H3 G3 s3 k3 => ?_⟩⟩
  obtain ⟨dz, z1, z⟩ := post_opt z
  obtain ⟨d, hd, hz⟩ := Option.bind_eq_some_iff.mp z1
  have t := s3.top ((r1.mono k2.gg).mono k3.gg) hd
  have k := (k1.trans k2).trans k3
  cases d with
  | lst ds =>
    cases hz
    obtain ⟨a, vs, rfl, h1, r⟩ := t.lst s3.ret.gh
    refine .inl ⟨a, vs, rfl, SqL.of h1, fun p hp => ?_⟩
    have sp : Step H3 G3 (upd H3 p (.lst (cutV vs l u))) (upd G3 p (.lst (cutV vs l u))) := .lay .refl hp
    exact z _ _ _ (s3.step sp) (k.trans (Kp.step s3 sp)) (Rep.lst upd_same ((r.cut l u).mono (sp.same s3.ret.gh).2.1))
  | scr ds =>
    cases hz
    obtain ⟨a, rfl, h1⟩ := t.scr s3.ret.gh
    refine .inl ⟨a, _, rfl, h1, fun p hp => ?_⟩
    have sp : Step H3 G3 (upd H3 p (.lst (cutV (ds.map V.int) l u))) (upd G3 p (.lst (cutV (ds.map V.int) l u))) := .lay .refl hp
    refine z _ _ _ (s3.step sp) (k.trans (Kp.step s3 sp)) (Rep.lst upd_same ?_)
    rw [cutV_map]
    exact RepL.of_ints _
  | tup ds =>
    cases hz
    obtain ⟨a, vs, rfl, h1, r⟩ := t.tup s3.ret.gh
    refine .inr ⟨a, vs, rfl, h1, fun hw => ?_, fun hw p hp => ?_⟩
    · rw [← r.length] at hw
      rw [cutL_whole hw] at z
      rcases t with t | ⟨_, _, _, t⟩
      · exact z _ H3 G3 s3 k t
      · exact t.elim
    · have sp : Step H3 G3 (upd H3 p (.tup (cutV vs l u))) (upd G3 p (.tup (cutV vs l u))) := .lay .refl hp
      exact z _ _ _ (s3.step sp) (k.trans (Kp.step s3 sp)) (Rep.tup (SqT.of upd_same) ((r.cut l u).mono (sp.same s3.ret.gh).2.1))
  | _ => cases hz

/-! ### calls of builtins -/
inductive TopL (K : PySem.W.Frag) (cl : Str → Addr) (H G : Hp) : List D → List V → Prop
  | nil : TopL K cl H G [] []
  | cons {d : D} {v : V} {ds : List D} {vs : List V} : Top K cl H G d v → TopL K cl H G ds vs → TopL K cl H G (d :: ds) (v :: vs)
def Env.rds (e : Env) : List R → Option (List D)
  | [] => some []
  | r :: rs => match e.rd r, e.rds rs with
    | some d, some ds =>
                                                                                                              some (d :: ds)
    | _, _ => none
theorem Stt.tops {K : PySem.W.Frag} {e : Env} {σ : L2.St} {H G : Hp} (st : Stt K cl F e σ H G) : ∀ {rs : List R} {vs : List V} {ds : List D}, RRs K cl σ G rs vs → e.rds rs = some ds → TopL K cl H G ds vs
  | [], _, _, .nil, h => by cases h; exact .nil
  | r :: rs, _, _, .cons h t, hd => by
    have hd : (match e.rd r, e.rds rs with
      | some d, some ds =>
                                                                                                              some (d :: ds)
      | _, _ => none) = some _ := hd
    cases q : e.rd r with
    | none => rw [q] at hd; cases hd
    | some d =>
      cases q2 : e.rds rs with
      | none => rw [q, q2] at hd; cases hd
      | some ds => rw [q, q2] at hd; cases hd; exact .cons (st.top h q) (st.tops t q2)
def CallD (X : Cx) (cl : Str → Addr) (f : Value) (g : List D → Option D) : Prop :=
  ∃ r, CallR X f r ∧ ∀ H G xs ds dz Q, Same G H → TopL X.K cl H G ds xs → g ds = some dz → (∀ v H' G', Step H G H' G' → Rep X.K cl G' dz v → Q v H') → r xs H Q
def cCB (g : List D → Option D) (fs : M (List R)) : M R := fun e => (fs e).bnd fun rs e1 => opt ((e1.rds rs).bind g) e1
theorem tCB_D {f : Value} {g : List D → Option D} {fs : M (List R)} {r : List V → Hp → VK → Prop} {σ : L2.St} {H : Hp} {Q : VK}
    (hg : ∀ H G xs ds dz Q, Same G H → TopL X.K cl H G ds xs → g ds = some dz → (∀ v H' G', Step H G H' G' → Rep X.K cl G' dz v → Q v H') → r xs H Q)
    (h : tD X.K cl F W (cCB g fs) σ H Q) : tCB r (tA X.K cl F W fs) σ H Q := by
  obtain ⟨e, G, st, q⟩ := h
  refine tA_then st q fun rs e1 vs H1 G1 s1 k1 r1 z => ?_
  obtain ⟨dz, z1, z⟩ := post_opt z
  obtain ⟨ds, hd, hz⟩ := Option.bind_eq_some_iff.mp z1
  exact hg H1 G1 vs ds dz Q s1.ret.gh (s1.tops r1 hd) hz fun v H' G' sp rv => z v H' G' (s1.step sp) (k1.trans (Kp.step s1 sp)) rv
theorem re_callB {x : Str} {p pos : Pos} {a : Expr} {es : List Expr} {id : String} {g : List D → Option D} {fs : M (List R)} (hc : CallD X cl (.builtin id) g) (hg : Gl X x) (hm : X.mg x = none) (hv : bootBuiltins x = some (.builtin id)) (ha : RA X cl F W (a :: es) fs)
    (hn : x ≠ "__name__" := by decide) (hdb : (x == ("__debug__" : Str)) = false := by decide) (he : starEach (a :: es) X.env = (false, eval a X.env) :: starEach es X.env := by rfl) (hpl : (backTo pos (starEach es X.env)).any (·.1) = false := by rfl) :
    RE X cl F W (.Call (.Name x p) (a :: es) [] pos) (cCB g fs) := by
  obtain ⟨r, h1, h2⟩ := hc
  exact ⟨PE.imp (pe_callB h1 hg hm hv ha.pa hn hdb he hpl) fun σ H Q h => tCB_D (f := .none) h2 h⟩
theorem re_callTy {x : Str} {p pos : Pos} {a : Expr} {es : List Expr} {T : String} {g : List D → Option D} {fs : M (List R)} (hc : CallD X cl (.type T) g) (hg : Gl X x) (hm : X.mg x = none) (hv : bootBuiltins x = some (.type T)) (ha : RA X cl F W (a :: es) fs)
    (hn : x ≠ "__name__" := by decide) (hdb : (x == ("__debug__" : Str)) = false := by decide) (he : starEach (a :: es) X.env = (false, eval a X.env) :: starEach es X.env := by rfl) (hpl : (backTo pos (starEach es X.env)).any (·.1) = false := by rfl) :
    RE X cl F W (.Call (.Name x p) (a :: es) [] pos) (cCB g fs) := by
  obtain ⟨r, h1, h2⟩ := hc
  exact ⟨PE.imp (pe_callTy h1 hg hm hv ha.pa hn hdb he hpl) fun σ H Q h => tCB_D (f := .none) h2 h⟩
end
end DL

namespace DL
open PySem L2 PySem.Spec PyProof.Rows

/-! ### statements -/
inductive Fl where
  | nx | rt (d : D) | bk | ct
section
variable (K : PySem.W.Frag) (cl : Str → Addr) (F : Fra) (W : WX)
def PostF (D : Ends) (G : Hp) (o : Out Fl) : Prop := match o with
  | .ok .nx e => ∀ σ' H' G', Stt K cl F e σ' H' G' → Same G G' → D.nx σ' H'
  | .ok .bk e => ∀ σ' H' G', Stt K cl F e σ' H' G' → Same G G' → D.bk σ' H'
  | .ok .ct e => ∀ σ' H' G', Stt K cl F e σ' H' G' → Same G G' → D.ct σ' H'
  | .ok (.rt d) e => ∀ v H' G', Ret K cl F H' G' e.j → Rep K cl G' d v → D.rt v H'
  | .exn x e => ∀ cls dd σ' H' G', Stt K cl F e σ' H' G' → ExcAt K cl x cls dd H' G' → W cls dd σ' H'
  | .bad => False
def tSt (f : M Fl) : TS := fun D σ H => ∃ e G, Stt K cl F e σ H G ∧ PostF K cl F W D G (f e)
end
structure RS (X : Cx) (cl : Str → Addr) (F : Fra) (W : WX) (x : Stmt) (f : M Fl) : Prop where
  ps : PS X x (tSt X.K cl F W f)
structure RSs (X : Cx) (cl : Str → Addr) (F : Fra) (W : WX) (xs : List Stmt) (f : M Fl) : Prop where
  pss : PSs X xs (tSt X.K cl F W f)
def Out.bndF (o : Out Fl) (k : Env → Out Fl) : Out Fl := o.bnd fun fl e => match fl with
  | .nx => k e
  | fl => .ok fl e
section
variable {K : PySem.W.Frag} {cl : Str → Addr} {F : Fra} {W : WX}
theorem PostF.mono {D : Ends} {G G' : Hp} {o : Out Fl} (h : PostF K cl F W D G o) (g : Same G G') : PostF K cl F W D G' o := by
  cases o with
  | ok fl e =>
    cases fl with
    | nx => exact fun σ' H' G2 s k => h σ' H' G2 s (g.trans k)
    | bk => exact fun σ' H' G2 s k => h σ' H' G2 s (g.trans k)
    | ct => exact fun σ' H' G2 s k => h σ' H' G2 s (g.trans k)
    | rt d => exact h
  | exn x e => exact h
  | bad => exact h
theorem postF_bnd {D : Ends} {G : Hp} {o : Out Fl} {k : Env → Out Fl} (h : PostF K cl F W D G (o.bndF k)) :
    PostF K cl F W { D with nx := fun σ H => ∃ e G', Stt K cl F e σ H G' ∧ PostF K cl F W D G' (k e) } G o := by
  cases o with
  | ok fl e =>
    cases fl with
    | nx => exact fun σ' H' G' s g => ⟨e, G', s, PostF.mono h g⟩
    | bk => exact h
    | ct => exact h
    | rt d => exact h
  | exn x e => exact h
  | bad => exact h
theorem Xn.of {σ : L2.St} {e : Env} {x : Exc} (h : ∀ cls dd σ' H' G', Stt K cl F e σ' H' G' → ExcAt K cl x cls dd H' G' → W cls dd σ' H') : Xn K cl F W σ e x := fun cls dd H' G' s z => h cls dd σ H' G' s z
/-- an expression in a statement -/
theorem tD_st {fa : M R} {k : R → Env → Out Fl} {σ : L2.St} {H G : Hp} {e : Env} {D : Ends} {Q : VK} (st : Stt K cl F e σ H G) (h : PostF K cl F W D G ((fa e).bnd k))
    (c : ∀ r e1 v H1 G1, Stt K cl F e1 σ H1 G1 → Kp F σ e H G e1 H1 G1 → RR K cl σ G1 r v → PostF K cl F W D G1 (k r e1) → Q v H1) : tD K cl F W fa σ H Q := by
  refine ⟨e, G, st, ?_⟩
  cases q : fa e with
  | ok r e1 =>
    rw [q] at h
    exact fun v H1 G1 s1 k1 r1 => c r e1 v H1 G1 s1 k1 r1 (PostF.mono (o := k r e1) h k1.gg)
  | exn x e1 => rw [q] at h; exact Xn.of h
  | bad => rw [q] at h; exact h
theorem tB_st {fa : M Bool} {k : Bool → Env → Out Fl} {σ : L2.St} {H G : Hp} {e : Env} {D : Ends} {Q : Bool → Hp → Prop} (st : Stt K cl F e σ H G) (h : PostF K cl F W D G ((fa e).bnd k))
    (c : ∀ r e1 H1 G1, Stt K cl F e1 σ H1 G1 → Kp F σ e H G e1 H1 G1 → PostF K cl F W D G1 (k r e1) → Q r H1) : tB' K cl F W fa σ H Q := by
  refine ⟨e, G, st, ?_⟩
  cases q : fa e with
  | ok r e1 =>
    rw [q] at h
    exact fun H1 G1 s1 k1 => c r e1 H1 G1 s1 k1 (PostF.mono (o := k r e1) h k1.gg)
  | exn x e1 => rw [q] at h; exact Xn.of h
  | bad => rw [q] at h; exact h
theorem tA_st {fa : M (List R)} {k : List R → Env → Out Fl} {σ : L2.St} {H G : Hp} {e : Env} {D : Ends} {Q : List V → Hp → Prop} (st : Stt K cl F e σ H G) (h : PostF K cl F W D G ((fa e).bnd k))
    (c : ∀ r e1 v H1 G1, Stt K cl F e1 σ H1 G1 → Kp F σ e H G e1 H1 G1 → RRs K cl σ G1 r v → PostF K cl F W D G1 (k r e1) → Q v H1) : tA K cl F W fa σ H Q := by
  refine ⟨e, G, st, ?_⟩
  cases q : fa e with
  | ok r e1 =>
    rw [q] at h
    exact fun v H1 G1 s1 k1 r1 => c r e1 v H1 G1 s1 k1 r1 (PostF.mono (o := k r e1) h k1.gg)
  | exn x e1 => rw [q] at h; exact Xn.of h
  | bad => rw [q] at h; exact h
end

def sNx : M Fl := fun e => .ok .nx e
def sBk : M Fl := fun e => .ok .bk e
def sCt : M Fl := fun e => .ok .ct e
def sBad : M Fl := fun _ => .bad
def sSeq (f g : M Fl) : M Fl := fun e => (f e).bndF g
def sExpr (f : M R) : M Fl := fun e => (f e).bnd fun _ e1 => .ok .nx e1
def sIf (c : M Bool) (f g : M Fl) : M Fl := fun e => (c e).bnd fun b e1 => if b then f e1 else g e1
def retF (o : Option (D × Env)) : Out Fl := match o with
  | some (d, e) => .ok (.rt d) e
  | none => .bad
def sRet (f : M R) : M Fl := fun e => (f e).bnd fun r e1 => retF (e1.frz r)
def sRetN : M Fl := fun e => .ok (.rt .non) e
def asgF (i : Nat) (o : Option (D × Env)) : Out Fl := match o with
  | some (d, e) => .ok .nx (e.setS i (.dat d))
  | none => .bad
def sAsg (i : Nat) (f : M R) : M Fl := fun e => (f e).bnd fun r e1 => asgF i (e1.frz r)

section
variable {X : Cx} {cl : Str → Addr} {F : Fra} {W : WX}
theorem rs_nil : RSs X cl F W [] sNx := ⟨PSs.imp pss_nil fun D σ H ⟨e, G, st, q⟩ => q σ H G st (.refl _)⟩
theorem rs_cons {s : Stmt} {ss : List Stmt} {f g : M Fl} (h : RS X cl F W s f) (t : RSs X cl F W ss g) : RSs X cl F W (s :: ss) (sSeq f g) :=
  ⟨PSs.imp (pss_cons h.ps t.pss) fun D σ H ⟨e, G, st, q⟩ => ⟨e, G, st, postF_bnd q⟩⟩
theorem rs_one {s : Stmt} {f : M Fl} (h : RS X cl F W s f) : RSs X cl F W [s] f := ⟨pss_one h.ps⟩
theorem rs_pass {pos} : RS X cl F W (.Pass pos) sNx := ⟨PS.imp ps_pass fun D σ H ⟨e, G, st, q⟩ => q σ H G st (.refl _)⟩
theorem rs_break {pos} : RS X cl F W (.Break pos) sBk := ⟨PS.imp ps_break fun D σ H ⟨e, G, st, q⟩ => q σ H G st (.refl _)⟩
theorem rs_continue {pos} : RS X cl F W (.Continue pos) sCt := ⟨PS.imp ps_continue fun D σ H ⟨e, G, st, q⟩ => q σ H G st (.refl _)⟩
/-- what the proof never comes to -/
theorem rs_never {s : Stmt} : RS X cl F W s sBad := ⟨PS.imp ps_never fun D σ H ⟨e, G, st, q⟩ => q⟩
theorem rss_never {s : List Stmt} : RSs X cl F W s sBad := ⟨PSs.imp pss_never fun D σ H ⟨e, G, st, q⟩ => q⟩
theorem rs_expr {x : Expr} {f : M R} {pos : Pos} (h : RE X cl F W x f) (hs : swapsWith x none pos.line X.env = pure false := by rfl) : RS X cl F W (.Expr x pos) (sExpr f) :=
  ⟨PS.imp (ps_expr h.pe hs) fun D σ H ⟨e, G, st, q⟩ => tD_st st q fun r e1 v H1 G1 s1 k1 r1 z => z σ H1 G1 s1 (.refl _)⟩
theorem rs_if {c : Expr} {a b : List Stmt} {fc : M Bool} {f g : M Fl} {pos : Pos} (hc : RT X cl F W c fc) (ha : RSs X cl F W a f) (hb : RSs X cl F W b g) : RS X cl F W (.If c a b pos) (sIf fc f g) := by
  refine ⟨PS.imp (ps_if hc.pt ha.pss hb.pss) fun D σ H ⟨e, G, st, q⟩ => tB_st st q fun r e1 H1 G1 s1 k1 z => ?_⟩
  cases r with
  | true => exact ⟨e1, G1, s1, z⟩
  | false => exact ⟨e1, G1, s1, z⟩
theorem rs_ret {x : Expr} {f : M R} {pos : Pos} (h : RE X cl F W x f) : RS X cl F W (.Return (some x) pos) (sRet f) := by
  refine ⟨PS.imp (ps_ret h.pe) fun D σ H ⟨e, G, st, q⟩ => tD_st st q fun r e1 v H1 G1 s1 k1 r1 z => ?_⟩
  cases y : e1.frz r with
  | none => rw [y] at z; exact z.elim
  | some p =>
    obtain ⟨d, e2⟩ := p
    rw [y] at z
    obtain ⟨G2, s2, k2, r2⟩ := frz_ok s1 r1 y
    exact z v H1 G2 s2.ret r2
theorem rs_retN {pos : Pos} : RS X cl F W (.Return none pos) sRetN := ⟨PS.imp ps_retN fun D σ H ⟨e, G, st, q⟩ => q .non H G st.ret .non⟩
/-- a slot is set -/
theorem Stt.set {K : PySem.W.Frag} {e : Env} {σ : L2.St} {H G : Hp} {i : Nat} {d : D} {v : V} (st : Stt K cl F e σ H G) (r : Rep K cl G d v) : Stt K cl F (e.setS i (.dat d)) (σ.set i (some v)) H G := by
  obtain ⟨ret, jh, len, slot, inj⟩ := st
  have hset : ∀ {j : Nat} {x : S}, (e.setS i (.dat d)).s[j]? = some x → (j = i ∧ i < e.s.length ∧ x = .dat d) ∨ (j ≠ i ∧ e.s[j]? = some x) := fun {j x} h => by
    by_cases hj : j = i
    · subst hj
      have hl : j < (e.setS j (.dat d)).s.length := (List.getElem?_eq_some_iff.mp h).1
      have hl' : j < e.s.length := by simpa [Env.setS] using hl
      have z : (e.setS j (.dat d)).s[j]? = some (.dat d) := List.getElem?_set_self hl'
      rw [z] at h; cases h; exact .inl ⟨rfl, hl', rfl⟩
    · rw [setS_ne hj] at h; exact .inr ⟨hj, h⟩
  have hσ : ∀ {j : Nat}, j ≠ i → (σ.set i (some v))[j]? = σ[j]? := fun hj => List.getElem?_set_ne (Ne.symm hj)
  refine ⟨ret, jh, by simp [Env.setS, len], fun j x h => ?_, fun j k d1 d2 p k1 k2 k3 k4 => ?_⟩
  · rcases hset h with ⟨rfl, hl, rfl⟩ | ⟨hj, h⟩
    · exact ⟨v, List.getElem?_set_self (by rw [len]; exact hl), r⟩
    · have z := slot j x h
      cases x with
      | un => trivial
      | dat d1 => obtain ⟨v1, z1, z2⟩ := z; exact ⟨v1, by rw [hσ hj]; exact z1, z2⟩
      | own d1 => obtain ⟨p, z1, z2, z3, z4⟩ := z; exact ⟨p, by rw [hσ hj]; exact z1, z2, z3, z4⟩
      | jar k => obtain ⟨p, z1, z2⟩ := z; exact ⟨p, z1, by rw [hσ hj]; exact z2⟩
  · rcases hset k1 with ⟨_, _, z⟩ | ⟨h1, k1⟩
    · cases z
    · rcases hset k2 with ⟨_, _, z⟩ | ⟨h2, k2⟩
      · cases z
      · rw [hσ h1] at k3; rw [hσ h2] at k4; exact inj j k d1 d2 p k1 k2 k3 k4
theorem asg_D {fa : M R} {i : Nat} {D : Ends} {σ : L2.St} {H : Hp} (h : tSt X.K cl F W (sAsg i fa) D σ H) : tAsg (tD X.K cl F W fa) (gName i) D σ H := by
  obtain ⟨e, G, st, q⟩ := h
  refine tD_st st q fun r e1 v H1 G1 s1 k1 r1 z => ?_
  cases y : e1.frz r with
  | none => rw [y] at z; exact z.elim
  | some p =>
    obtain ⟨d, e2⟩ := p
    rw [y] at z
    obtain ⟨G2, s2, k2, r2⟩ := frz_ok s1 r1 y
    exact z _ H1 G2 (s2.set r2) k2.gg
theorem rs_asg {i : Nat} {x : Str} {a : Expr} {f : M R} {pos pos' : Pos} (hN : X.N.Nodup) (h : RE X cl F W a f) (hi : X.N[i]? = some x := by rfl) (hx : Loc X.env.scope x := by first | exact Or.inl rfl | exact Or.inr rfl)
    (hs : swapsWith a (some (.Name x pos')) pos.line X.env = pure false := by rfl) (hf : X.fn x = true ∨ X.env.scope.names.lookup x = some .local := by first | exact .inl rfl | exact .inr rfl) : RS X cl F W (.Assign [.Name x pos'] a pos) (sAsg i f) :=
  ⟨PS.imp (ps_set hN hi hx h.pe hs hf) fun D σ H h => asg_D h⟩

/-! ### targets -/
abbrev Tg := D → Env → Option Env
def gN (i : Nat) : Tg := fun d e => some (e.setS i (.dat d))
def gTs : List Tg → List D → Env → Option Env
  | [], [], e => some e
  | g :: gs, d :: ds, e => (g d e).bind (gTs gs ds)
  | _, _, _ => none
def gT (gs : List Tg) : Tg := fun d e => match d with
  | .tup ds => gTs gs ds e
  | _ => none
/-- σ' is σ but at the slots ws -/
def Agr (ws : List Nat) (σ σ' : L2.St) : Prop := σ'.length = σ.length ∧ ∀ j, j ∉ ws → σ'[j]? = σ[j]?
theorem Agr.trans {ws vs : List Nat} {a b c : L2.St} (h : Agr ws a b) (k : Agr vs b c) : Agr (ws ++ vs) a c :=
  ⟨k.1.trans h.1, fun j hj => (k.2 j fun z => hj (List.mem_append_right _ z)).trans (h.2 j fun z => hj (List.mem_append_left _ z))⟩
def tG (K : PySem.W.Frag) (cl : Str → Addr) (F : Fra) (ws : List Nat) (g : Tg) : TG := fun v σ H Q => ∃ e e' G d, Stt K cl F e σ H G ∧ Rep K cl G d v ∧ g d e = some e' ∧ ∀ σ', Agr ws σ σ' → Stt K cl F e' σ' H G → Q σ' H
def tGs (K : PySem.W.Frag) (cl : Str → Addr) (F : Fra) (ws : List Nat) (gs : List Tg) : TGs := fun vs σ H Q => ∃ e e' G ds, Stt K cl F e σ H G ∧ RepL K cl G ds vs ∧ gTs gs ds e = some e' ∧ ∀ σ', Agr ws σ σ' → Stt K cl F e' σ' H G → Q σ' H
def S.plain : S → Bool
  | .un => true
  | .dat _ => true
  | _ => false
/-- e' is e but at the slots ws, where plain data stand -/
structure EAgr (ws : List Nat) (e e' : Env) : Prop where
  len : e'.s.length = e.s.length
  out : ∀ i, i ∉ ws → e'.s[i]? = e.s[i]?
  pl : ∀ i, i ∈ ws → ∀ x, e'.s[i]? = some x → x.plain = true
  j : e'.j = e.j
theorem EAgr.trans {ws vs : List Nat} {a b c : Env} (h : EAgr ws a b) (k : EAgr vs b c) : EAgr (ws ++ vs) a c := by
  refine ⟨k.len.trans h.len, fun i hi => (k.out i fun z => hi (List.mem_append_right _ z)).trans (h.out i fun z => hi (List.mem_append_left _ z)), fun i hi x hx => ?_, k.j.trans h.j⟩
  by_cases hv : i ∈ vs
  · exact k.pl i hv x hx
  · have hw : i ∈ ws := (List.mem_append.mp hi).resolve_right hv
    exact h.pl i hw x ((k.out i hv).symm.trans hx)
structure RG (X : Cx) (cl : Str → Addr) (F : Fra) (ws : List Nat) (x : Expr) (g : Tg) : Prop where
  pg : PG X x (tG X.K cl F ws g)
  fr : ∀ d e e', g d e = some e' → EAgr ws e e'
structure RGs (X : Cx) (cl : Str → Addr) (F : Fra) (ws : List Nat) (x : List Expr) (g : List Tg) : Prop where
  pgs : PGs X x (tGs X.K cl F ws g)
  fr : ∀ d e e', gTs g d e = some e' → EAgr ws e e'
theorem PG.imp {X : Cx} {x : Expr} {t t' : TG} (h : PG X x t) (i : ∀ v σ H Q, t' v σ H Q → t v σ H Q) : PG X x t' := ⟨fun pins s σ H v u Q I r q => h.run pins s σ H v u Q I r (i v σ H Q q)⟩
theorem PGs.imp {X : Cx} {x : List Expr} {t t' : TGs} (h : PGs X x t) (i : ∀ v σ H Q, t' v σ H Q → t v σ H Q) : PGs X x t' := ⟨fun pins s σ H v u Q I r q => h.run pins s σ H v u Q I r (i v σ H Q q)⟩
theorem rg_n (i : Nat) {x : Str} {pos : Pos} (hN : X.N.Nodup) (hi : X.N[i]? = some x := by rfl) (hx : Loc X.env.scope x := by first | exact Or.inl rfl | exact Or.inr rfl) (hf : X.fn x = true ∨ X.env.scope.names.lookup x = some .local := by first | exact .inl rfl | exact .inr rfl) : RG X cl F [i] (.Name x pos) (gN i) := by
  refine ⟨PG.imp (pg_name hN hi hx hf) fun v σ H Q ⟨e, e', G, d, st, r, h, q⟩ => ?_, fun d e e' h => ?_⟩
  · cases h
    exact q _ ⟨by simp, fun j hj => List.getElem?_set_ne (fun z => hj (by simp [z]))⟩ (st.set r)
  · cases h
    refine ⟨by simp [Env.setS], fun j hj => setS_ne (fun z => hj (by simp [z])), fun j hj x hx => ?_, rfl⟩
    have e1 : j = i := by simpa using hj
    subst e1
    have hl : j < (e.setS j (.dat d)).s.length := (List.getElem?_eq_some_iff.mp hx).1
    have hl' : j < e.s.length := by simpa [Env.setS] using hl
    have z : (e.setS j (.dat d)).s[j]? = some (.dat d) := List.getElem?_set_self hl'
    rw [z] at hx; cases hx; rfl
theorem rgs_nil : RGs X cl F [] [] [] := by
  refine ⟨PGs.imp pgs_nil fun vs σ H Q ⟨e, e', G, ds, st, r, h, q⟩ => ?_, fun ds e e' h => ?_⟩
  · cases r with
    | nil => cases h; exact ⟨rfl, q σ ⟨rfl, fun _ _ => rfl⟩ st⟩
    | cons => cases h
  · cases ds with
    | nil => cases h; exact ⟨rfl, fun _ _ => rfl, fun _ h => by simp at h, rfl⟩
    | cons => cases h
theorem rgs_cons {x : Expr} {xs : List Expr} {g : Tg} {gs : List Tg} {ws vs : List Nat} (h1 : RG X cl F ws x g) (h2 : RGs X cl F vs xs gs) (hs : (assignEach (x :: xs) X.env).map (·.2) = assign x X.env :: (assignEach xs X.env).map (·.2) := by rfl) : RGs X cl F (ws ++ vs) (x :: xs) (g :: gs) := by
  refine ⟨PGs.imp (pgs_cons h1.pg h2.pgs hs) fun us σ H Q ⟨e, e', G, ds, st, r, h, q⟩ => ?_, fun ds e e' h => ?_⟩
  · cases r with
    | nil => cases h
    | cons r1 rr =>
      obtain ⟨e1, h1, h2⟩ := Option.bind_eq_some_iff.mp h
      exact ⟨_, _, rfl, e, e1, G, _, st, r1, h1, fun σ1 a1 s1 => ⟨e1, e', G, _, s1, rr, h2, fun σ' a2 s => q σ' (a1.trans a2) s⟩⟩
  · cases ds with
    | nil => cases h
    | cons d ds =>
      obtain ⟨e1, q1, q2⟩ := Option.bind_eq_some_iff.mp h
      exact (h1.fr _ _ _ q1).trans (h2.fr _ _ _ q2)
theorem gTs_len : ∀ {gs : List Tg} {ds : List D} {e e' : Env}, gTs gs ds e = some e' → ds.length = gs.length
  | [], [], _, _, _ => rfl
  | g :: gs, d :: ds, e, e', h => by
    obtain ⟨e1, _, h2⟩ := Option.bind_eq_some_iff.mp h
    simp [gTs_len h2]
  | [], _ :: _, _, _, h => by cases h
  | _ :: _, [], _, _, h => by cases h
theorem rg_t {xs : List Expr} {gs : List Tg} {ws : List Nat} {k : Nat} {pos : Pos} (hc : X.calm = true) (h : RGs X cl F ws xs gs) (hn : (assignEach xs X.env).length = gs.length := by rfl) (hst : (assignEach xs X.env).findIdx? (·.1) = none := by rfl) : RG X cl F ws (.Tuple xs k pos) (gT gs) := by
  refine ⟨PG.imp (pg_tup hc h.pgs hn hst) fun v σ H Q ⟨e, e', G, d, st, r, h, q⟩ => ?_, fun d e e' q => ?_⟩
  · cases d with
    | tup ds =>
      cases r with
      | tup h1 r => exact ⟨_, _, rfl, SqT.same st.ret.gh h1, by rw [← r.length]; exact gTs_len h, e, e', G, ds, st, r, h, q⟩
    | _ => cases h
  · cases d with
    | tup ds => exact h.fr _ _ _ q
    | _ => cases q
def sAsgT (g : Tg) (f : M R) : M Fl := fun e => (f e).bnd fun r e1 => match e1.frz r with
  | some (d, e2) => (match g d e2 with
    | some e3 => .ok .nx e3
    | none => .bad)
  | none => .bad
theorem rs_asgT {tg a : Expr} {g : Tg} {ws : List Nat} {f : M R} {pos : Pos} (h : RE X cl F W a f) (hg : RG X cl F ws tg g) (hs : swapsWithSole [tg] a pos.line X.env = pure false := by rfl) (hw : swappedStores [tg] a X.env = pure none := by rfl)
    (h1 : (assignEach [tg] X.env).map (·.2) = [assign tg X.env] := by rfl) : RS X cl F W (.Assign [tg] a pos) (sAsgT g f) := by
  refine ⟨PS.imp (ps_asg h.pe hg.pg hs hw h1) fun D σ H ⟨e, G, st, q⟩ => tD_st st q fun r e1 v H1 G1 s1 k1 r1 z => ?_⟩
  cases y : e1.frz r with
  | none => rw [y] at z; exact z.elim
  | some p =>
    obtain ⟨d, e2⟩ := p
    rw [y] at z
    obtain ⟨G2, s2, k2, r2⟩ := frz_ok s1 r1 y
    cases y2 : g d e2 with
    | none => simp only [y2] at z; exact z.elim
    | some e3 =>
      simp only [y2] at z
      exact ⟨e2, e3, G2, d, s2, r2, y2, fun σ' a s => z σ' H1 G2 s k2.gg⟩

/-! ### walks -/
/-- what the iterator J yields: ds, as long as G stands -/
def ItOk (K : PySem.W.Frag) (cl : Str → Addr) (G : Hp) (J : It) (ds : List D) : Prop := ∀ H' G', Same G G' → Same G' H' →
  (∀ (i : Nat) d, ds[i]? = some d → J.go i H' ∧ ∀ x H2, J.yld i H' x H2 → ∃ G2, Step H' G' H2 G2 ∧ Rep K cl G2 d x) ∧ J.stop ds.length H'
structure RI (X : Cx) (cl : Str → Addr) (F : Fra) (W : WX) (tg : Expr) (x : Expr) (f : M (List D)) : Prop where
  pi : PI X tg x fun σ H Q => ∃ e G, Stt X.K cl F e σ H G ∧ Post X.K cl F W σ (f e) fun ds e' => ∀ J H' G', Stt X.K cl F e' σ H' G' → Kp F σ e H G e' H' G' → ItOk X.K cl G' J ds → Q J H'
theorem PI.imp {X : Cx} {tg x : Expr} {t t' : TI} (h : PI X tg x t) (i : ∀ σ H Q, t' σ H Q → t σ H Q) : PI X tg x t' := ⟨fun pins s σ H R I q => h.run pins s σ H R I (i σ H R q)⟩
/-- over a list, a tuple, the script, a text -/
theorem pi_seq {tg l : Expr} {tl : TE} (hl : PE X l tl) : PI X tg l fun σ H R => tl σ H fun x Ha => (∃ a, x = .ref a ∧ (∃ xs, SqL X.K Ha a xs) ∧ R (Itl X.K a) Ha) ∨ (∃ a, x = .ref a ∧ (∃ xs, SqT X.K Ha a xs) ∧ R (Itt X.K a) Ha) ∨ ∃ z, x = .str z ∧ R (Its z) Ha := by
  refine ⟨fun pinned s σ H R I h => ?_⟩
  refine thn (hl.run pinned s σ H _ I h) fun v sa ⟨x, Ha, J1, ra1, wa⟩ => ?_
  rcases wa with ⟨a, rfl, ⟨xs, hold⟩, q⟩ | ⟨a, rfl, ⟨xs, hold⟩, q⟩ | ⟨z, rfl, q⟩
  · cases ra1
    obtain ⟨elts, rvals, p, hroom⟩ := J1.list hold
    refine wpAny_pyIter_list
                                                                                                              p.isList ?_
    refine ⟨sa.heap.objs.size, [sa.heap.objs.size], _, _, Ha, rfl, J1.kept (t' := sa.toks) fun b o e => Heap.get?_push_of_some _ e, turn_list a _, ⟨_, Heap.get?_push_size _ rfl, rfl, rfl⟩, fun b hadr => ?_, q⟩
    have e : b = sa.heap.objs.size := by simpa using hadr
    subst e
    exact J1.fpOk (Nat.le_refl _) (J1.hok.fresh (Nat.le_refl _))
  · cases ra1
    obtain ⟨elts, rvals, p, hroom⟩ := J1.tuple hold
    refine wpAny_pyIter_tuple (show sa.heap.IsTuple a elts.toArray from p) ?_
    refine ⟨sa.heap.objs.size, [sa.heap.objs.size], _, _, Ha, rfl, J1.kept (t' := sa.toks) fun b o e => Heap.get?_push_of_some _ e, turn_tuple a _, ⟨_, Heap.get?_push_size _ rfl, rfl, rfl⟩, fun b hadr => ?_, q⟩
    have e : b = sa.heap.objs.size := by simpa using hadr
    subst e
    exact J1.fpOk (Nat.le_refl _) (J1.hok.fresh (Nat.le_refl _))
  · obtain ⟨t, rfl⟩ := ra1
    cases ha : z.cps.all (· < 128)
    · exact wpAny_pyIter_wide ha (pi_one (tk := sa.toks) J1 _ (turn_str _ z t "str_iterator" (.inr rfl)) ⟨_, Heap.get?_push_size _ rfl, rfl, rfl⟩ q)
    · exact wpAny_pyIter_ascii ha (pi_one (tk := sa.toks) J1 _ (turn_str _ z t "str_ascii_iterator" (.inl rfl)) ⟨_, Heap.get?_push_size _ rfl, rfl, rfl⟩ q)
end
end DL

namespace DL
open PySem L2 PySem.Spec PyProof.Rows

def seqItems : D → Option (List D)
  | .lst l => some l
  | .tup l => some l
  | .scr l => some (l.map D.int)
  | .str s => some (s.cps.toList.map fun c => .str ⟨#[c]⟩)
  | _ => none
def cIter (f : M R) : M (List D) := fun e => (f e).bnd fun r e1 => match e1.frz r with
  | some (d, e2) => optB (seqItems d) e2
  | none => .bad
def rng (lo : Int) (n : Nat) : List D := (List.range n).map fun i => .int (lo + (i : Nat))
def rngI1 : List R → Option (List D)
  | [.val (.int j)] => if -(2 ^ 62) ≤ j ∧ j < 2 ^ 62 then some (rng 0 j.toNat) else none
  | _ => none
def rngI2 : List R → Option (List D)
  | [.val (.int i), .val (.int j)] => if -(2 ^ 62) ≤ i ∧ i < 2 ^ 62 ∧ -(2 ^ 62) ≤ j ∧ j < 2 ^ 62 then some (rng i (j - i).toNat) else none
  | _ => none
def cRange1 (fs : M (List R)) : M (List D) := fun e => (fs e).bnd fun rs e1 => optB (rngI1 rs) e1
def cRange2 (fs : M (List R)) : M (List D) := fun e => (fs e).bnd fun rs e1 => optB (rngI2 rs) e1
section
variable {X : Cx} {cl : Str → Addr} {F : Fra} {W : WX}
theorem itOk_list {K : PySem.W.Frag} {G : Hp} {a : Addr} {ds : List D} {vs : List V} (h : G a = some (.lst vs)) (r : RepL K cl G ds vs) : ItOk K cl G (Itl K a) ds := fun H' G' gg gh => by
  have h1 : SqL K H' a vs := SqL.of (gh _ _ (gg _ _ h))
  refine ⟨fun i d hd => ?_, ⟨vs, h1, by rw [r.length]; exact Nat.le_refl _⟩⟩
  obtain ⟨v, hv, rv⟩ := r.getD hd
  exact ⟨⟨vs, v, h1, hv⟩, fun x H2 ⟨e1, e2⟩ => by
    subst e1
    have e3 := e2 vs h1
    rw [hv] at e3; cases e3
    exact ⟨G', .refl, rv.mono gg⟩⟩
theorem itOk_scr {K : PySem.W.Frag} {G : Hp} {a : Addr} {ns : List Int} (h : SqL K G a (ns.map V.int)) : ItOk K cl G (Itl K a) (ns.map D.int) := fun H' G' gg gh => by
  have h1 : SqL K H' a (ns.map V.int) := Same.seq gh (Same.seq gg h)
  refine ⟨fun i d hd => ?_, ⟨_, h1, by simp⟩⟩
  obtain ⟨v, hv, rv⟩ := (RepL.of_ints (K := K) (cl := cl) (G := G) ns).getD hd
  exact ⟨⟨_, v, h1, hv⟩, fun x H2 ⟨e1, e2⟩ => by
    subst e1
    have e3 := e2 _ h1
    rw [hv] at e3; cases e3
    exact ⟨G', .refl, rv.mono gg⟩⟩
theorem itOk_tup {K : PySem.W.Frag} {G : Hp} {a : Addr} {ds : List D} {vs : List V} (h : SqT K G a vs) (r : RepL K cl G ds vs) : ItOk K cl G (Itt K a) ds := fun H' G' gg gh => by
  have h1 : SqT K H' a vs := SqT.same gh (SqT.same gg h)
  refine ⟨fun i d hd => ?_, ⟨vs, h1, by rw [r.length]; exact Nat.le_refl _⟩⟩
  obtain ⟨v, hv, rv⟩ := r.getD hd
  exact ⟨⟨vs, v, h1, hv⟩, fun x H2 ⟨e1, e2⟩ => by
    subst e1
    have e3 := e2 vs h1
    rw [hv] at e3; cases e3
    exact ⟨G', .refl, rv.mono gg⟩⟩
theorem itOk_str {K : PySem.W.Frag} {G : Hp} {s : Str} : ItOk K cl G (Its s) (s.cps.toList.map fun c => .str ⟨#[c]⟩) := fun H' G' gg gh => by
  refine ⟨fun i d hd => ?_, by show s.cps.size ≤ _; simp⟩
  rw [List.getElem?_map] at hd
  obtain ⟨c, hc, rfl⟩ := Option.map_eq_some_iff.mp hd
  have hc' : s.cps[i]? = some c := by simpa using hc
  exact ⟨(Array.getElem?_eq_some_iff.mp hc').1, fun x H2 ⟨e1, c', e2, e3⟩ => by
    subst e1 e3
    rw [hc'] at e2; cases e2
    exact ⟨G', .refl, .str⟩⟩
theorem itOk_rng {K : PySem.W.Frag} {G : Hp} {lo : Int} {n : Nat} : ItOk K cl G (Itr lo n) (rng lo n) := fun H' G' gg gh => by
  refine ⟨fun i d hd => ?_, by show n ≤ _; simp [rng]⟩
  unfold rng at hd
  rw [List.getElem?_map] at hd
  obtain ⟨c, hc, rfl⟩ := Option.map_eq_some_iff.mp hd
  have hi : i < n := by
    have := (List.getElem?_eq_some_iff.mp hc).1
    simpa using this
  have hci : c = i := by rw [List.getElem?_range hi] at hc; exact (Option.some.inj hc).symm
  subst hci
  exact ⟨hi, fun x H2 ⟨e1, e2⟩ => by subst e1 e2; exact ⟨G', .refl, .int⟩⟩
theorem ri_seq {tg x : Expr} {f : M R} (h : RE X cl F W x f) : RI X cl F W tg x (cIter f) := by
  refine ⟨PI.imp (pi_seq h.pe) fun σ H Q ⟨e, G, st, q⟩ => tD_then st q fun r e1 v H1 G1 s1 k1 r1 z => ?_⟩
  cases y : e1.frz r with
  | none => rw [y] at z; exact z.elim
  | some p =>
    obtain ⟨d, e2⟩ := p
    rw [y] at z
    obtain ⟨G2, s2, k2, r2⟩ := frz_ok s1 r1 y
    obtain ⟨ds, hds, z⟩ := post_some z
    cases d with
    | lst l =>
      cases hds
      cases r2 with
      | lst h1 rl => exact .inl ⟨_, rfl, ⟨_, SqL.of (s2.ret.gh _ _ h1)⟩, z _ H1 G2 s2 (k1.trans k2) (itOk_list h1 rl)⟩
    | scr l =>
      cases hds
      cases r2 with
      | scr h1 => exact .inl ⟨_, rfl, ⟨_, Same.seq s2.ret.gh h1⟩, z _ H1 G2 s2 (k1.trans k2) (itOk_scr h1)⟩
    | tup l =>
      cases hds
      cases r2 with
      | tup h1 rl => exact .inr (.inl ⟨_, rfl, ⟨_, SqT.same s2.ret.gh h1⟩, z _ H1 G2 s2 (k1.trans k2) (itOk_tup h1 rl)⟩)
    | str s =>
      cases hds
      cases r2
      exact .inr (.inr ⟨s, rfl, z _ H1 G2 s2 (k1.trans k2) itOk_str⟩)
    | _ => cases hds
theorem rrs1 {K : PySem.W.Frag} {σ : L2.St} {G : Hp} {i : Int} {vs : List V} (h : RRs K cl σ G [.val (.int i)] vs) : vs = [.int i] := by
  cases h with
  | cons a t => cases t; cases a; rfl
theorem rrs2 {K : PySem.W.Frag} {σ : L2.St} {G : Hp} {i j : Int} {vs : List V} (h : RRs K cl σ G [.val (.int i), .val (.int j)] vs) : vs = [.int i, .int j] := by
  cases h with
  | cons a t => cases t with
    | cons b t => cases t; cases a; cases b; rfl
theorem ri_range1 {tg a : Expr} {p pos : Pos} {fs : M (List R)} (hg : Gl X "range") (hm : X.mg "range" = none) (h : RA X cl F W [a] fs) (hs : starEach [a] X.env = [(false, eval a X.env)] := by rfl) : RI X cl F W tg (.Call (.Name "range" p) [a] [] pos) (cRange1 fs) := by
  refine ⟨PI.imp (pi_range1 hg hm h.pa hs) fun σ H Q ⟨e, G, st, q⟩ => tA_then st q fun rs e1 vs H1 G1 s1 k1 r1 z => ?_⟩
  obtain ⟨ds, hds, z⟩ := post_some z
  unfold rngI1 at hds
  split at hds
  · split at hds
    · rename_i h1
      cases hds
      exact ⟨_, rrs1 r1, h1.1, h1.2, z _ H1 G1 s1 k1 itOk_rng⟩
    · cases hds
  · cases hds
theorem ri_range2 {tg a b : Expr} {p pos : Pos} {fs : M (List R)} (hg : Gl X "range") (hm : X.mg "range" = none) (h : RA X cl F W [a, b] fs) (hs : starEach [a, b] X.env = [(false, eval a X.env), (false, eval b X.env)] := by rfl)
    (hs2 : starEach [b] X.env = [(false, eval b X.env)] := by rfl) : RI X cl F W tg (.Call (.Name "range" p) [a, b] [] pos) (cRange2 fs) := by
  refine ⟨PI.imp (pi_range2 hg hm h.pa hs hs2) fun σ H Q ⟨e, G, st, q⟩ => tA_then st q fun rs e1 vs H1 G1 s1 k1 r1 z => ?_⟩
  obtain ⟨ds, hds, z⟩ := post_some z
  unfold rngI2 at hds
  split at hds
  · split at hds
    · rename_i h1
      cases hds
      exact ⟨_, _, rrs2 r1, h1, z _ H1 G1 s1 k1 itOk_rng⟩
    · cases hds
  · cases hds
end

/-! ### for -/
def forL (g : Tg) (body : M Fl) : List D → M Fl
  | [], e => .ok .nx e
  | d :: ds, e => match g d e with
    | none => .bad
    | some e1 => (body e1).bnd fun fl e2 => match fl with
      | .nx => forL g body ds e2
      | .ct => forL g body ds e2
      | .bk => .ok .nx e2
      | .rt d => .ok (.rt d) e2
def sFor (fi : M (List D)) (g : Tg) (body : M Fl) : M Fl := fun e => (fi e).bnd fun ds e1 => forL g body ds e1
def whL (c : M Bool) (body : M Fl) : Nat → M Fl
  | 0, _ => .bad
  | n + 1, e => (c e).bnd fun b e1 => if b then (body e1).bnd fun fl e2 => match fl with
      | .nx => whL c body n e2
      | .ct => whL c body n e2
      | .bk => .ok .nx e2
      | .rt d => .ok (.rt d) e2
    else .ok .nx e1
section
variable {X : Cx} {cl : Str → Addr} {F : Fra} {W : WX}
theorem tI_st {fi : M (List D)} {k : List D → Env → Out Fl} {σ : L2.St} {H G : Hp} {e : Env} {D : Ends} {Q : It → Hp → Prop} (st : Stt X.K cl F e σ H G) (h : PostF X.K cl F W D G ((fi e).bnd k))
    (c : ∀ ds e1 J H1 G1, Stt X.K cl F e1 σ H1 G1 → Kp F σ e H G e1 H1 G1 → ItOk X.K cl G1 J ds → PostF X.K cl F W D G1 (k ds e1) → Q J H1) :
    ∃ e G, Stt X.K cl F e σ H G ∧ Post X.K cl F W σ (fi e) fun ds e' => ∀ J H' G', Stt X.K cl F e' σ H' G' → Kp F σ e H G e' H' G' → ItOk X.K cl G' J ds → Q J H' := by
  refine ⟨e, G, st, ?_⟩
  cases q : fi e with
  | ok r e1 =>
    rw [q] at h
    exact fun J H1 G1 s1 k1 r1 => c r e1 J H1 G1 s1 k1 r1 (PostF.mono (o := k r e1) h k1.gg)
  | exn x e1 => rw [q] at h; exact Xn.of h
  | bad => rw [q] at h; exact h
theorem rs_for {tg iter : Expr} {body : List Stmt} {fi : M (List D)} {g : Tg} {fb : M Fl} {ws : List Nat} {pos : Pos} (hp : PassesOwn (model X.prog X.w) X.A X.env X.xe) (hc : X.calm = true) (hi : RI X cl F W tg iter fi) (hg : RG X cl F ws tg g) (hb : RSs X cl F W body fb)
    (hs : ∀ x, foldedSetIterable iter X.env x = pure x := by intro _; rfl) : RS X cl F W (.For tg iter body [] pos) (sFor fi g fb) := by
  refine ⟨PS.imp (ps_for hp hc hi.pi hg.pg hb.pss hs) fun D σ H ⟨e, G, st, q⟩ => tI_st st q fun ds e1 J H1 G1 s1 k1 it z => ?_⟩
  refine ⟨fun i m σ' H' => ∃ e' G', Stt X.K cl F e' σ' H' G' ∧ Same G1 G' ∧ m = ds.length - i ∧ i ≤ ds.length ∧ PostF X.K cl F W D G' (forL g fb (ds.drop i) e'), ⟨ds.length, e1, G1, s1, .refl _, by omega, Nat.zero_le _, by simpa using z⟩, ?_⟩
  rintro i m σ' H' ⟨e', G', s', gg, rfl, hi, z⟩
  obtain ⟨it1, it2⟩ := it H' G' gg s'.ret.gh
  by_cases hl : i < ds.length
  · have hd : ds[i]? = some ds[i] := List.getElem?_eq_getElem hl
    obtain ⟨hgo, hy⟩ := it1 i _ hd
    refine .inr ⟨hgo, fun σ2 H2 => ∃ e2 G2, Stt X.K cl F e2 σ2 H2 G2 ∧ Same G1 G2 ∧ PostF X.K cl F W D G2 (forL g fb (ds.drop (i + 1)) e2), fun σ2 H2 ⟨e2, G2, s2, g2, z2⟩ => ⟨ds.length - (i + 1), by omega, e2, G2, s2, g2, rfl, hl, z2⟩, fun x H2 y => ?_⟩
    obtain ⟨G2, sp, rx⟩ := hy x H2 y
    have s2 := s'.step sp
    have g2 := (sp.same s'.ret.gh).2.1
    rw [List.drop_eq_getElem_cons hl] at z
    have z : PostF X.K cl F W D G' (match g ds[i] e' with
      | none => .bad
      | some e1 => (fb e1).bnd fun fl e2 => match fl with
        | .nx => forL g fb (ds.drop (i + 1)) e2
        | .ct => forL g fb (ds.drop (i + 1)) e2
        | .bk => .ok .nx e2
        | .rt d => .ok (.rt d) e2) := z
    cases hgd : g ds[i] e' with
    | none => rw [hgd] at z; exact z.elim
    | some e3 =>
      rw [hgd] at z
      refine ⟨e', e3, G2, _, s2, rx, hgd, fun σ3 _ s3 => ⟨e3, G2, s3, ?_⟩⟩
      have gg3 : Same G' G2 := g2
      cases hb3 : fb e3 with
      | bad => simp only [hb3] at z; exact z.elim
      | exn x e4 => simp only [hb3] at z; exact z
      | ok fl e4 =>
        simp only [hb3] at z
        cases fl with
        | nx => exact fun σ4 H4 G4 s4 k4 => ⟨e4, G4, s4, gg.trans (gg3.trans k4), PostF.mono (o := forL g fb (ds.drop (i + 1)) e4) z (gg3.trans k4)⟩
        | ct => exact fun σ4 H4 G4 s4 k4 => ⟨e4, G4, s4, gg.trans (gg3.trans k4), PostF.mono (o := forL g fb (ds.drop (i + 1)) e4) z (gg3.trans k4)⟩
        | bk => exact fun σ4 H4 G4 s4 k4 => z σ4 H4 G4 s4 (gg3.trans k4)
        | rt d => exact z
  · have e2 : i = ds.length := by omega
    subst e2
    rw [List.drop_length] at z
    exact .inl ⟨it2, z σ' H' G' s' (.refl _)⟩
theorem rs_while {c : Expr} {body : List Stmt} {fc : M Bool} {fb : M Fl} {pos : Pos} (n : Nat) (hp : PassesOwn (model X.prog X.w) X.A X.env X.xe) (hc : RT X cl F W c fc) (hb : RSs X cl F W body fb) : RS X cl F W (.While c body [] pos) (whL fc fb n) := by
  refine ⟨PS.imp (ps_while hp hc.pt hb.pss) fun D σ H ⟨e, G, st, q⟩ => ?_⟩
  refine ⟨fun m σ' H' => ∃ e' G', Stt X.K cl F e' σ' H' G' ∧ PostF X.K cl F W D G' (whL fc fb m e'), ⟨n, e, G, st, q⟩, ?_⟩
  rintro m σ' H' ⟨e', G', s', z⟩
  cases m with
  | zero => exact z.elim
  | succ m =>
    refine tB_st s' z fun r e1 H1 G1 s1 k1 z => ?_
    cases r with
    | false => exact z σ' H1 G1 s1 (.refl _)
    | true =>
      refine ⟨fun σ2 H2 => ∃ e2 G2, Stt X.K cl F e2 σ2 H2 G2 ∧ PostF X.K cl F W D G2 (whL fc fb m e2), fun σ2 H2 ⟨e2, G2, s2, z2⟩ => ⟨m, by omega, e2, G2, s2, z2⟩, e1, G1, s1, ?_⟩
      simp only [if_true] at z
      cases hb3 : fb e1 with
      | bad => rw [hb3] at z; exact z.elim
      | exn x e4 => rw [hb3] at z; exact z
      | ok fl e4 =>
        rw [hb3] at z
        cases fl with
        | nx => exact fun σ4 H4 G4 s4 k4 => ⟨e4, G4, s4, PostF.mono (o := whL fc fb m e4) z k4⟩
        | ct => exact fun σ4 H4 G4 s4 k4 => ⟨e4, G4, s4, PostF.mono (o := whL fc fb m e4) z k4⟩
        | bk => exact fun σ4 H4 G4 s4 k4 => z σ4 H4 G4 s4 k4
        | rt d => exact z
end

/-! ### list comprehensions -/
def Env.wipe (e : Env) : List Nat → Env
  | [] => e
  | v :: vs => (e.wipe vs).setS v .un
/-- the slots vs of e' as they were in e -/
def Env.back (e e' : Env) : List Nat → Env
  | [] => e'
  | v :: vs => match e.s[v]? with
    | some x => (Env.back e e' vs).setS v x
    | none => Env.back e e' vs
def plainAt (e : Env) (vs : List Nat) : Bool := vs.all fun v => match e.s[v]? with
  | some x => x.plain
  | none => true
def lcL (vs : List Nat) (g : Tg) (t : M Bool) (f : M R) : List D → List D → M (List D)
  | [], acc, e => .ok acc e
  | d :: ds, acc, e => match g d (e.wipe vs) with
    | none => .bad
    | some e1 => match t e1 with
      | .ok true e2 => (match f e2 with
        | .ok r e3 => (match e3.frz r with
          | some (y, e4) => if acc.length < sizeLine then lcL vs g t f ds (acc ++ [y]) e4 else .bad
          | none => .bad)
        | _ => .bad)
      | .ok false e2 => lcL vs g t f ds acc e2
      | _ => .bad
def tYs : M Bool := fun e => .ok true e
def cLc (vs : List Nat) (fi : M (List D)) (g : Tg) (t : M Bool) (f : M R) : M R := fun e => (fi e).bnd fun ds e1 => if plainAt e1 vs then (match lcL vs g t f ds [] e1 with
  | .ok out e2 => .ok (.val (.lst out)) (e1.back e2 vs)
  | _ => .bad) else .bad
end DL

namespace DL
open PySem L2 PySem.Spec PyProof.Rows

section
variable {K : PySem.W.Frag} {cl : Str → Addr} {F : Fra} {e e' : Env} {σ σ' : L2.St} {H G H' G' : Hp}
/-- an object that no slot owns is changed -/
theorem Stt.updL {p : Addr} {o o' : HO} (st : Stt K cl F e σ H G) (h : H p = some o) (g : G p = none) (h0 : F.H0 p = none) (l : Loose F e σ p) : Stt K cl F e σ (upd H p o') G := by
  obtain ⟨⟨gh, g0, jr, fr, fg⟩, jh, len, slot, inj⟩ := st
  have ne : ∀ {a : Addr} {u : HO}, G a = some u → a ≠ p := fun q z => by rw [z, g] at q; cases q
  refine ⟨⟨fun b u q => by rw [upd_ne (ne q)]; exact gh b u q, g0, ⟨jr.len, jr.nd, fun k a d k1 k2 => ?_⟩, fun a u q hn => ?_, fg⟩, jh, len, fun i x hx => ?_, inj⟩
  · obtain ⟨q1, q2⟩ := jr.at_ k a d k1 k2
    have na : a ≠ p := fun z => l.1 (z ▸ List.mem_of_getElem? k1)
    exact ⟨q1, q2.mono (fun u q => by rw [upd_ne na]; exact q) (.refl _)⟩
  · have na : a ≠ p := fun z => by rw [z, h0] at q; cases q
    rw [upd_ne na]; exact fr a u q hn
  · have z := slot i x hx
    cases x with
    | un => trivial
    | dat d => exact z
    | own d =>
      obtain ⟨a, z1, z2, z3, z4⟩ := z
      have na : a ≠ p := fun w => l.2 i d hx (w ▸ z1)
      exact ⟨a, z1, z2, z3, z4.mono (fun u q => by rw [upd_ne na]; exact q) (.refl _)⟩
    | jar k => exact z
/-- such an object becomes part of G -/
theorem Stt.addG {p : Addr} {o : HO} (st : Stt K cl F e σ H G) (h : H p = some o) (g : G p = none) (h0 : F.H0 p = none) (l : Loose F e σ p) : Stt K cl F e σ H (upd G p o) := by
  obtain ⟨⟨gh, g0, jr, fr, fg⟩, jh, len, slot, inj⟩ := st
  have g1 : Same G (upd G p o) := same_upd g
  refine ⟨⟨same_add gh h, g0.trans g1, ⟨jr.len, jr.nd, fun k a d k1 k2 => ?_⟩, fr, fun a u q hn => ?_⟩, jh, len, fun i x hx => ?_, inj⟩
  · obtain ⟨q1, q2⟩ := jr.at_ k a d k1 k2
    have na : a ≠ p := fun z => l.1 (z ▸ List.mem_of_getElem? k1)
    exact ⟨by rw [upd_ne na]; exact q1, q2.mono (fun u q => q) g1⟩
  · have na : a ≠ p := fun z => by rw [z, h0] at q; cases q
    rw [upd_ne na]; exact fg a u q hn
  · have z := slot i x hx
    cases x with
    | un => trivial
    | dat d => obtain ⟨v, z1, z2⟩ := z; exact ⟨v, z1, z2.mono g1⟩
    | own d =>
      obtain ⟨a, z1, z2, z3, z4⟩ := z
      have na : a ≠ p := fun w => l.2 i d hx (w ▸ z1)
      exact ⟨a, z1, by rw [upd_ne na]; exact z2, z3, z4.mono (fun u q => q) g1⟩
    | jar k => exact z
theorem wipe_len : ∀ (vs : List Nat) (e : Env), (e.wipe vs).s.length = e.s.length
  | [], _ => rfl
  | v :: vs, e => by unfold Env.wipe Env.setS; simp [wipe_len vs e]
theorem wipe_out : ∀ (vs : List Nat) (e : Env) {i : Nat}, i ∉ vs → (e.wipe vs).s[i]? = e.s[i]?
  | [], _, _, _ => rfl
  | v :: vs, e, i, h => by
    unfold Env.wipe
    rw [setS_ne (fun z => h (by simp [z]))]
    exact wipe_out vs e fun z => h (List.mem_cons_of_mem _ z)
theorem wipe_in : ∀ (vs : List Nat) (e : Env) {i : Nat} {x : S}, i ∈ vs → (e.wipe vs).s[i]? = some x → x = .un
  | [], _, _, _, h, _ =>
                                                                                                              by simp at h
  | v :: vs, e, i, x, h, q => by
    unfold Env.wipe at q
    by_cases hv : i = v
    · subst hv
      have hl : i < ((e.wipe vs).setS i .un).s.length := (List.getElem?_eq_some_iff.mp q).1
      have hl' : i < (e.wipe vs).s.length := by simpa [Env.setS] using hl
      have z : ((e.wipe vs).setS i .un).s[i]? = some .un := List.getElem?_set_self hl'
      rw [z] at q; cases q; rfl
    · rw [setS_ne hv] at q
      exact wipe_in vs e ((List.mem_cons.mp h).resolve_left hv) q
theorem wipe_j : ∀ (vs : List Nat) (e : Env), (e.wipe vs).j = e.j
  | [], _ => rfl
  | v :: vs, e => wipe_j vs e
theorem wipeσ_out : ∀ (vs : List Nat) (σ : L2.St) {i : Nat}, i ∉ vs → (L2.wipe σ vs)[i]? = σ[i]?
  | [], _, _, _ => rfl
  | v :: vs, σ, i, h => by
    unfold L2.wipe
    rw [List.getElem?_set_ne (fun z => h (by simp [z]))]
    exact wipeσ_out vs σ fun z => h (List.mem_cons_of_mem _ z)
theorem wipeσ_in : ∀ (vs : List Nat) (σ : L2.St) {i : Nat}, i ∈ vs → (L2.wipe σ vs)[i]? = σ[i]?.map fun _ => none
  | [], _, _, h => by simp at h
  | v :: vs, σ, i, h => by
    unfold L2.wipe
    by_cases hv : i = v
    · subst hv
      by_cases hl : i < σ.length
      · rw [List.getElem?_set_self (by rw [wipe_length]; exact hl), List.getElem?_eq_getElem hl]; rfl
      · have h1 : σ[i]? = none := List.getElem?_eq_none_iff.mpr (by omega)
        rw [h1]
        exact List.getElem?_eq_none_iff.mpr (by rw [List.length_set, wipe_length]; omega)
    · rw [List.getElem?_set_ne (Ne.symm hv)]
      exact wipeσ_in vs σ ((List.mem_cons.mp h).resolve_left hv)
theorem wipe_agr {vs ws : List Nat} (h : Agr ws (L2.wipe σ vs) σ') (hw : ∀ i ∈ ws, i ∈ vs) : L2.wipe σ' vs = L2.wipe σ vs := by
  refine List.ext_getElem? fun i => ?_
  by_cases hi : i ∈ vs
  · rw [wipeσ_in vs σ' hi, wipeσ_in vs σ hi]
    have hl : σ'.length = σ.length := by rw [h.1, wipe_length]
    by_cases h2 : i < σ.length
    · rw [List.getElem?_eq_getElem h2, List.getElem?_eq_getElem (by omega)]; rfl
    · rw [List.getElem?_eq_none_iff.mpr (by omega), List.getElem?_eq_none_iff.mpr (by omega)]
  · rw [wipeσ_out vs σ' hi, h.2 i (fun z => hi (hw i z))]
theorem Stt.wipe (st : Stt K cl F e σ H G) (vs : List Nat) : Stt K cl F (e.wipe vs) (L2.wipe σ vs) H G := by
  obtain ⟨ret, jh, len, slot, inj⟩ := st
  refine ⟨by rw [wipe_j]; exact ret, jh, by rw [wipe_length, wipe_len]; exact len, fun i x h => ?_, fun i j d d' a h1 h2 h3 h4 => ?_⟩
  · by_cases hi : i ∈ vs
    · rw [wipe_in vs e hi h]; trivial
    · rw [wipe_out vs e hi] at h
      have z := slot i x h
      cases x with
      | un => trivial
      | dat d => obtain ⟨v, z1, z2⟩ := z; exact ⟨v, by rw [wipeσ_out vs σ hi]; exact z1, z2⟩
      | own d => obtain ⟨a, z1, z2⟩ := z; exact ⟨a, by rw [wipeσ_out vs σ hi]; exact z1, z2⟩
      | jar k => obtain ⟨a, z1, z2⟩ := z; exact ⟨a, z1, by rw [wipeσ_out vs σ hi]; exact z2⟩
  · by_cases hi : i ∈ vs
    · cases wipe_in vs e hi h1
    · by_cases hj : j ∈ vs
      · cases wipe_in vs e hj h2
      · rw [wipe_out vs e hi] at h1
        rw [wipe_out vs e hj] at h2
        rw [wipeσ_out vs σ hi] at h3
        rw [wipeσ_out vs σ hj] at h4
        exact inj i j d d' a h1 h2 h3 h4
theorem back_out : ∀ (vs : List Nat) (e e' : Env) {i : Nat}, i ∉ vs → (e.back e' vs).s[i]? = e'.s[i]?
  | [], _, _, _, _ => rfl
  | v :: vs, e, e', i, h => by
    unfold Env.back
    cases e.s[v]? with
    | none => exact back_out vs e e' fun z => h (List.mem_cons_of_mem _ z)
    | some x =>
      show ((e.back e' vs).setS v x).s[i]? = _
      rw [setS_ne (fun z => h (by simp [z]))]
      exact back_out vs e e' fun z => h (List.mem_cons_of_mem _ z)
theorem back_len : ∀ (vs : List Nat) (e e' : Env), (e.back e' vs).s.length = e'.s.length
  | [], _, _ => rfl
  | v :: vs, e, e' => by
    unfold Env.back
    cases e.s[v]? with
    | none => exact back_len vs e e'
    | some x => show ((e.back e' vs).setS v x).s.length = _; simp [Env.setS, back_len vs e e']
theorem back_j : ∀ (vs : List Nat) (e e' : Env), (e.back e' vs).j = e'.j
  | [], _, _ => rfl
  | v :: vs, e, e' => by
    unfold Env.back
    cases e.s[v]? with
    | none => exact back_j vs e e'
    | some x => exact back_j vs e e'
theorem back_in : ∀ (vs : List Nat) (e e' : Env) {i : Nat}, e.s.length = e'.s.length → i ∈ vs → (e.back e' vs).s[i]? = e.s[i]?
  | [], _, _, _, _, h =>
                                                                                                              by simp at h
  | v :: vs, e, e', i, hl, h => by
    unfold Env.back
    by_cases hv : i = v
    · subst hv
      cases q : e.s[i]? with
      | none =>
        have h1 : e.s.length ≤ i := List.getElem?_eq_none_iff.mp q
        exact List.getElem?_eq_none_iff.mpr (by show (e.back e' vs).s.length ≤ i; rw [back_len]; omega)
      | some x =>
        have h1 : i < e.s.length := (List.getElem?_eq_some_iff.mp q).1
        exact List.getElem?_set_self (by rw [back_len]; omega)
    · have hi := (List.mem_cons.mp h).resolve_left hv
      cases e.s[v]? with
      | none => exact back_in vs e e' hl hi
      | some x =>
        show ((e.back e' vs).setS v x).s[i]? = _
        rw [setS_ne hv]
        exact back_in vs e e' hl hi
theorem plainAt_ok {vs : List Nat} (h : plainAt e vs = true) {i : Nat} {x : S} (hi : i ∈ vs) (hx : e.s[i]? = some x) : x.plain = true := by
  have q := List.all_eq_true.mp h i hi
  rw [hx] at q
  exact q
/-- out of the block: the slots vs as they were -/
theorem Stt.back {e1 e2 : Env} {H1 G1 : Hp} {vs : List Nat} (s1 : Stt K cl F e1 σ H1 G1) (p : plainAt e1 vs = true) (gg : Same G1 G) (st : Stt K cl F (e2.wipe vs) (L2.wipe σ vs) H G) : Stt K cl F (e1.back e2 vs) σ H G := by
  have hl : e1.s.length = e2.s.length := by rw [← s1.len, ← wipe_len vs e2, ← st.len, wipe_length]
  have hr := st.ret
  rw [wipe_j] at hr
  refine ⟨by rw [back_j]; exact hr, st.jh, by rw [back_len, ← hl]; exact s1.len, fun i x h => ?_, fun i j d d' a h1 h2 h3 h4 => ?_⟩
  · by_cases hi : i ∈ vs
    · rw [back_in vs e1 e2 hl hi] at h
      have z := s1.slot i x h
      have pl := plainAt_ok p hi h
      cases x with
      | un => trivial
      | dat d => obtain ⟨v, z1, z2⟩ := z; exact ⟨v, z1, z2.mono gg⟩
      | _ => cases pl
    · rw [back_out vs e1 e2 hi] at h
      have z := st.slot i x (by rw [wipe_out vs e2 hi]; exact h)
      cases x with
      | un => trivial
      | dat d => obtain ⟨v, z1, z2⟩ := z; exact ⟨v, by rw [← wipeσ_out vs σ hi]; exact z1, z2⟩
      | own d => obtain ⟨a, z1, z2⟩ := z; exact ⟨a, by rw [← wipeσ_out vs σ hi]; exact z1, z2⟩
      | jar k => obtain ⟨a, z1, z2⟩ := z; exact ⟨a, z1, by rw [← wipeσ_out vs σ hi]; exact z2⟩
  · have no : ∀ {i : Nat} {d : D}, (e1.back e2 vs).s[i]? = some (.own d) → i ∉ vs := fun {i d} h hi => by
      rw [back_in vs e1 e2 hl hi] at h
      have pl := plainAt_ok p hi h
      cases pl
    have hi := no h1
    have hj := no h2
    rw [back_out vs e1 e2 hi] at h1
    rw [back_out vs e1 e2 hj] at h2
    exact st.inj i j d d' a (by rw [wipe_out vs e2 hi]; exact h1) (by rw [wipe_out vs e2 hj]; exact h2) (by rw [wipeσ_out vs σ hi]; exact h3) (by rw [wipeσ_out vs σ hj]; exact h4)
end

section
variable {X : Cx} {cl : Str → Addr} {F : Fra} {W : WX}
structure RTs (X : Cx) (cl : Str → Addr) (F : Fra) (W : WX) (xs : List Expr) (f : M Bool) : Prop where
  pts : PTs X xs (tB' X.K cl F W f)
theorem rts_nil : RTs X cl F W [] tYs := ⟨⟨fun pins s σ H Q I ⟨e, G, st, q⟩ => pts_nil.run pins s σ H Q I (q H G st .refl)⟩⟩
theorem rts_one {x : Expr} {f : M Bool} (h : RT X cl F W x f) : RTs X cl F W [x] f := ⟨pts_one h.pt⟩
abbrev W0 : WX := fun _ _ _ _ => False
end
end DL

namespace DL
open PySem L2 PySem.Spec PyProof.Rows

section
variable {K : PySem.W.Frag} {cl : Str → Addr} {F : Fra} {e e' : Env} {σ σ' : L2.St} {H G H' G' : Hp}
theorem Stt.layL {p : Addr} {o : HO} (st : Stt K cl F e σ H G) (h : H p = none) : Stt K cl F e σ (upd H p o) G := by
  obtain ⟨⟨gh, g0, jr, fr, fg⟩, jh, len, slot, inj⟩ := st
  have sm : Same H (upd H p o) := same_upd h
  refine ⟨⟨gh.trans sm, g0, ⟨jr.len, jr.nd, fun k a d k1 k2 => ?_⟩, fun a u q hn => sm _ _ (fr a u q hn), fg⟩, jh, len, fun i x hx => ?_, inj⟩
  · obtain ⟨q1, q2⟩ := jr.at_ k a d k1 k2
    exact ⟨q1, q2.mono (fun u q => sm _ _ q) (.refl _)⟩
  · have z := slot i x hx
    cases x with
    | un => trivial
    | dat d => exact z
    | own d => obtain ⟨a, z1, z2, z3, z4⟩ := z; exact ⟨a, z1, z2, z3, z4.mono (fun u q => sm _ _ q) (.refl _)⟩
    | jar k => exact z
/-- what is free in H is loose, and was free at the entry -/
theorem Stt.fresh (st : Stt K cl F e σ H G) {p : Addr} (h : H p = none) : Loose F e σ p ∧ F.H0 p = none := by
  have hj : p ∉ F.js := fun hp => by
    obtain ⟨k, hk⟩ := List.getElem?_of_mem hp
    have hl : k < e.j.length := by rw [st.ret.jars.len]; exact (List.getElem?_eq_some_iff.mp hk).1
    obtain ⟨q1, q2⟩ := st.ret.jars.at_ k p _ hk (List.getElem?_eq_getElem hl)
    obtain ⟨o, q3⟩ := q2.ex
    rw [h] at q3; cases q3
  refine ⟨⟨hj, fun i d hi hs => ?_⟩, ?_⟩
  · obtain ⟨a, h1, h2, h3, h4⟩ := st.slot i _ hi
    rw [hs] at h1; cases h1
    obtain ⟨o, q3⟩ := h4.ex
    rw [h] at q3; cases q3
  · cases q : F.H0 p with
    | none => rfl
    | some o => have := st.ret.fr p o q hj; rw [h] at this; cases this
/-- e'', σ'' own no more than e1, σ do, outside vs -/
structure Sub (vs : List Nat) (e1 : Env) (σ : L2.St) (e'' : Env) (σ'' : L2.St) : Prop where
  ow : ∀ (i : Nat) (d : D), e''.s[i]? = some (.own d) → i ∉ vs ∧ ∃ d', e1.s[i]? = some (.own d')
  eq : ∀ i, i ∉ vs → σ''[i]? = σ[i]?
theorem Loose.sub {vs : List Nat} {e1 e'' : Env} {σ'' : L2.St} {a : Addr} (l : Loose F e1 σ a) (s : Sub vs e1 σ e'' σ'') : Loose F e'' σ'' a :=
  ⟨l.1, fun i d h => by
    obtain ⟨hi, d', h'⟩ := s.ow i d h
    rw [s.eq i hi]
    exact l.2 i d' h'⟩
/-- through the turns of a comprehension: e1 at the beginning, e now -/
structure LcI (K : PySem.W.Frag) (cl : Str → Addr) (F : Fra) (σ : L2.St) (vs : List Nat) (p : Addr) (e1 : Env) (H1 G1 : Hp) (e : Env) (acc : List D) (H G : Hp) : Prop where
  st : Stt K cl F (e.wipe vs) (L2.wipe σ vs) H G
  gg : Same G1 G
  hd : ∃ us, H p = some (.lst us) ∧ RepL K cl G acc us
  gd : G p = none
  kp : ∀ a o, H1 a = some o → Loose F e1 σ a → H a = some o ∧ (G1 a = none → G a = none)
  ow : ∀ (i : Nat) (d : D), i ∉ vs → e.s[i]? = some (.own d) → ∃ d', e1.s[i]? = some (.own d')
theorem tI_then {α : Type} {W : WX} {fi : M (List D)} {k : List D → Env → Out α} {q : α → Env → Prop} {Q : It → Hp → Prop} (st : Stt K cl F e σ H G) (h : Post K cl F W σ ((fi e).bnd k) q)
    (c : ∀ ds e1 J H1 G1, Stt K cl F e1 σ H1 G1 → Kp F σ e H G e1 H1 G1 → ItOk K cl G1 J ds → Post K cl F W σ (k ds e1) q → Q J H1) :
    ∃ e G, Stt K cl F e σ H G ∧ Post K cl F W σ (fi e) fun ds e' => ∀ J H' G', Stt K cl F e' σ H' G' → Kp F σ e H G e' H' G' → ItOk K cl G' J ds → Q J H' :=
  ⟨e, G, st, post_imp (post_bnd h) fun r e1 z J H1 G1 s1 k1 r1 => c r e1 J H1 G1 s1 k1 r1 z⟩
/-- one turn's target: the state within the turn -/
theorem LcI.turn {vs ws : List Nat} {p : Addr} {e1 e3 : Env} {H1 G1 H2 G2 : Hp} {acc : List D} {σ2 : L2.St} (L : LcI K cl F σ vs p e1 H1 G1 e acc H G) (hp : Loose F e1 σ p) (sp : Step H G H2 G2) (hw : ∀ i ∈ ws, i ∈ vs)
    (ag : Agr ws (L2.wipe σ vs) σ2) (ea : EAgr ws (e.wipe vs) e3) :
    Sub vs e1 σ e3 σ2 ∧ Same G1 G2 ∧ (∃ us, H2 p = some (.lst us) ∧ RepL K cl G2 acc us) ∧ G2 p = none ∧ (∀ a o, H1 a = some o → Loose F e1 σ a → H2 a = some o ∧ (G1 a = none → G2 a = none)) := by
  obtain ⟨a1, a2, a3⟩ := sp.same L.st.ret.gh
  obtain ⟨us, h1, h2⟩ := L.hd
  refine ⟨⟨fun i d h => ?_, fun i hi => ?_⟩, L.gg.trans a2, ⟨us, a1 _ _ h1, h2.mono a2⟩, sp.none L.st.ret.gh h1 L.gd, fun a o q l => ?_⟩
  · by_cases hiw : i ∈ ws
    · have := ea.pl i hiw _ h; cases this
    · rw [ea.out i hiw] at h
      by_cases hiv : i ∈ vs
      · cases wipe_in vs e hiv h
      · rw [wipe_out vs e hiv] at h
        exact ⟨hiv, L.ow i d hiv h⟩
  · rw [ag.2 i (fun z => hi (hw i z)), wipeσ_out vs σ hi]
  · obtain ⟨q1, q2⟩ := L.kp a o q l
    exact ⟨a1 _ _ q1, fun g => sp.none L.st.ret.gh q1 (q2 g)⟩
theorem lc_D {W : WX} {vs ws : List Nat} {fi : M (List D)} {g : Tg} {ft : M Bool} {fe : M R} {Q : VK} (hw : ∀ i ∈ ws, i ∈ vs) (hfr : ∀ d e e', g d e = some e' → EAgr ws e e') (h : tD K cl F W (cLc vs fi g ft fe) σ H Q) :
    tLc (fun σ H Q => ∃ e G, Stt K cl F e σ H G ∧ Post K cl F W σ (fi e) fun ds e' => ∀ J H' G', Stt K cl F e' σ H' G' → Kp F σ e H G e' H' G' → ItOk K cl G' J ds → Q J H') (tG K cl F ws g) (tB' K cl F W0 ft) (tD K cl F W0 fe) vs σ H Q := by
  obtain ⟨e0, G0, st, q⟩ := h
  refine tI_then st q fun ds e1 J H1 G1 s1 k1 it z p hp => ?_
  by_cases pl : plainAt e1 vs = true
  · rw [if_pos pl] at z
    cases hl : lcL vs g ft fe ds [] e1 with
    | bad => rw [hl] at z; exact z.elim
    | exn x e2 => rw [hl] at z; exact z.elim
    | ok out e2 =>
      rw [hl] at z
      obtain ⟨lp, hp0⟩ := s1.fresh hp
      refine ⟨fun i m H => ∃ e acc G, LcI K cl F σ vs p e1 H1 G1 e acc H G ∧ m = ds.length - i ∧ i ≤ ds.length ∧ lcL vs g ft fe (ds.drop i) acc e = .ok out e2, ⟨ds.length, e1, [], G1, ?_, by omega, Nat.zero_le _, by simpa using hl⟩, ?_⟩
      · have g1p : G1 p = none := s1.ret.gh.free hp
        exact ⟨(s1.layL hp).wipe vs, .refl _, ⟨[], upd_same, .nil⟩, g1p, fun a o h1 _ => ⟨by rw [upd_ne (ne_of_none h1 hp)]; exact h1, fun g => g⟩, fun i d _ h => ⟨d, h⟩⟩
      · rintro i m H ⟨e, acc, G, L, rfl, hi, hl⟩
        obtain ⟨it1, it2⟩ := it H G L.gg L.st.ret.gh
        by_cases hlt : i < ds.length
        · have hd : ds[i]? = some ds[i] := List.getElem?_eq_getElem hlt
          obtain ⟨hgo, hy⟩ := it1 i _ hd
          refine .inr ⟨hgo, fun H' => ∃ e acc G, LcI K cl F σ vs p e1 H1 G1 e acc H' G ∧ lcL vs g ft fe (ds.drop (i + 1)) acc e = .ok out e2, fun H' ⟨e', acc', G', L', hl'⟩ => ⟨ds.length - (i + 1), by omega, e', acc', G', L', rfl, hlt, hl'⟩, fun x H2 y => ?_⟩
          obtain ⟨G2, sp, rx⟩ := hy x H2 y
          rw [List.drop_eq_getElem_cons hlt] at hl
          have hl : (match g ds[i] (e.wipe vs) with
            | none => Out.bad
            | some e1 => match ft e1 with
              | .ok true e2 => (match fe e2 with
                | .ok r e3 => (match e3.frz r with
                  | some (y, e4) => if acc.length < sizeLine then lcL vs g ft fe (ds.drop (i + 1)) (acc ++ [y]) e4 else .bad
                  | none => .bad)
                | _ => .bad)
              | .ok false e2 => lcL vs g ft fe (ds.drop (i + 1)) acc e2
              | _ => .bad) = .ok out e2 := hl
          cases hg : g ds[i] (e.wipe vs) with
          | none => rw [hg] at hl; cases hl
          | some e3 =>
            rw [hg] at hl
            refine ⟨e.wipe vs, e3, G2, _, L.st.step sp, rx, hg, fun σ2 ag s2 => ⟨wipe_agr ag hw, e3, G2, s2, ?_⟩⟩
            obtain ⟨sub, gg2, ⟨us, hu1, hu2⟩, gp2, kp2⟩ := L.turn lp sp hw ag (hfr _ _ _ hg)
            have wag := wipe_agr ag hw
            cases ht : ft e3 with
            | bad => simp only [ht] at hl; cases hl
            | exn x e4 => simp only [ht] at hl; cases hl
            | ok b e4 =>
              simp only [ht] at hl
              cases b with
              | false =>
                intro H3 G3 s3 k3
                refine iteF ⟨e4, acc, G3, ⟨?_, gg2.trans k3.gg, ⟨us, (k3.kp p _ hu1 (lp.sub sub)).1, hu2.mono k3.gg⟩, (k3.kp p _ hu1 (lp.sub sub)).2 gp2, fun a o h1 l => ?_, fun j d _ h => ?_⟩, hl⟩
                · have := s3.wipe vs; rw [wag] at this; exact this
                · obtain ⟨q1, q2⟩ := kp2 a o h1 l
                  obtain ⟨q3, q4⟩ := k3.kp a o q1 (l.sub sub)
                  exact ⟨q3, fun g => q4 (q2 g)⟩
                · obtain ⟨d', h'⟩ := k3.ow j d h
                  exact (sub.ow j d' h').2
              | true =>
                intro H3 G3 s3 k3
                refine iteT ⟨e4, G3, s3, ?_⟩
                cases hf : fe e4 with
                | bad => simp only [hf] at hl; cases hl
                | exn x e5 => simp only [hf] at hl; cases hl
                | ok r e5 =>
                  simp only [hf] at hl
                  intro y H4 G4 s4 k4 r4
                  cases hz : e5.frz r with
                  | none => simp only [hz] at hl; cases hl
                  | some py =>
                    obtain ⟨dy, e6⟩ := py
                    simp only [hz] at hl
                    by_cases hsz : acc.length < sizeLine
                    · rw [if_pos hsz] at hl
                      obtain ⟨G5, s5, k5, r5⟩ := frz_ok s4 r4 hz
                      have kk := (k3.trans k4).trans k5
                      obtain ⟨h4p, g5p⟩ := kk.kp p _ hu1 (lp.sub sub)
                      have g5p := g5p gp2
                      refine ⟨us, h4p, by rw [← hu2.length]; exact hsz, e6, acc ++ [dy], G5, ⟨?_, gg2.trans kk.gg, ⟨us ++ [y], upd_same, (hu2.mono kk.gg).append (.cons r5 .nil)⟩, g5p, fun a o h1 l => ?_, fun j d _ h => ?_⟩, hl⟩
                      · have := s5.wipe vs
                        rw [wag] at this
                        refine this.updL h4p g5p hp0 ⟨lp.1, fun j d hj => ?_⟩
                        by_cases hjv : j ∈ vs
                        · cases wipe_in vs e6 hjv hj
                        · rw [wipe_out vs e6 hjv] at hj
                          obtain ⟨d', h'⟩ := kk.ow j d hj
                          obtain ⟨_, d2, h2⟩ := sub.ow j d' h'
                          rw [wipeσ_out vs σ hjv]
                          exact lp.2 j d2 h2
                      · obtain ⟨q1, q2⟩ := kp2 a o h1 l
                        obtain ⟨q3, q4⟩ := kk.kp a o q1 (l.sub sub)
                        exact ⟨by rw [upd_ne (ne_of_none h1 hp)]; exact q3, fun g => q4 (q2 g)⟩
                      · obtain ⟨d', h'⟩ := kk.ow j d h
                        exact (sub.ow j d' h').2
                    · rw [if_neg hsz] at hl; cases hl
        · have e3 : i = ds.length := by omega
          subst e3
          rw [List.drop_length] at hl
          cases hl
          obtain ⟨us, hu1, hu2⟩ := L.hd
          have sb : Stt K cl F (e1.back e2 vs) σ H G := s1.back pl L.gg L.st
          have lb : Loose F (e1.back e2 vs) σ p := ⟨lp.1, fun j d hj => by
            by_cases hjv : j ∈ vs
            · rw [back_in vs e1 e2 (by rw [← s1.len, ← wipe_len vs e2, ← L.st.len, wipe_length]) hjv] at hj
              exact lp.2 j d hj
            · rw [back_out vs e1 e2 hjv] at hj
              obtain ⟨d', h'⟩ := L.ow j d hjv hj
              exact lp.2 j d' h'⟩
          refine .inl ⟨it2, z _ H _ (sb.addG hu1 L.gd hp0 lb) (k1.trans ⟨L.gg.trans (same_upd L.gd), fun a o h1 l => ?_, fun j d hj => ?_⟩) (Rep.lst upd_same (hu2.mono (same_upd L.gd)))⟩
          · obtain ⟨q1, q2⟩ := L.kp a o h1 l
            exact ⟨q1, fun g => by rw [upd_ne (ne_of_none h1 hp)]; exact q2 g⟩
          · by_cases hjv : j ∈ vs
            · rw [back_in vs e1 e2 (by rw [← s1.len, ← wipe_len vs e2, ← L.st.len, wipe_length]) hjv] at hj
              exact ⟨d, hj⟩
            · rw [back_out vs e1 e2 hjv] at hj
              exact L.ow j d hjv hj
  · rw [if_neg pl] at z; exact z.elim
end

section
variable {X : Cx} {cl : Str → Addr} {F : Fra} {W : WX}
theorem re_lc {elt tg iter : Expr} {ifs : List Expr} {scope : Scope} {own : List (Str × Nat)} {ws : List Nat} {pos : Pos} {fi : M (List D)} {g : Tg} {ft : M Bool} {fe : M R} (hc : X.calm = true) (hN : X.N.Nodup) (hi : RI X cl F W tg iter fi) (ok : BlkOk X.N X.env.scope scope own)
    (hg : ∀ (s : Shared) (H : Hp) (C : Addr) (cs : List (Str × Addr)) (fp : List Addr), RG (X.blk s H scope (compEnvC scope cs C X.env) fp) cl F ws tg g)
    (ht : ∀ (s : Shared) (H : Hp) (C : Addr) (cs : List (Str × Addr)) (fp : List Addr), RTs (X.blk s H scope (compEnvC scope cs C X.env) fp) cl F W0 ifs ft)
    (he : ∀ (s : Shared) (H : Hp) (C : Addr) (cs : List (Str × Addr)) (fp : List Addr), RE (X.blk s H scope (compEnvC scope cs C X.env) fp) cl F W0 elt fe)
    (hw : ∀ i ∈ ws, i ∈ own.map (·.2) := by decide) (hs : ∀ x, foldedSetIterable iter X.env x = pure x := by intro _; rfl) : RE X cl F W (.ListComp elt [⟨tg, iter, ifs, 0⟩] scope pos) (cLc (own.map (·.2)) fi g ft fe) :=
  ⟨⟨fun pins s σ H Q I h => (pe_lc hc hN hi.pi ok (fun s H C cs fp => (hg s H C cs fp).pg) (fun s H C cs fp => (ht s H C cs fp).pts) (fun s H C cs fp => (he s H C cs fp).pe) hs).run pins s σ H Q I (lc_D hw (hg s H 0 [] []).fr h)⟩⟩
theorem rs_setLc {i : Nat} {y : Str} {py : Pos} {elt tg iter : Expr} {ifs : List Expr} {scope : Scope} {own : List (Str × Nat)} {ws : List Nat} {pos spos : Pos} {fi : M (List D)} {g : Tg} {ft : M Bool} {fe : M R} (hc : X.calm = true) (hN : X.N.Nodup) (hi : RI X cl F W tg iter fi) (ok : BlkOk X.N X.env.scope scope own)
    (hg : ∀ (s : Shared) (H : Hp) (C : Addr) (cs : List (Str × Addr)) (fp : List Addr), RG (X.blk s H scope (compEnvC scope cs C X.env) fp) cl F ws tg g)
    (ht : ∀ (s : Shared) (H : Hp) (C : Addr) (cs : List (Str × Addr)) (fp : List Addr), RTs (X.blk s H scope (compEnvC scope cs C X.env) fp) cl F W0 ifs ft)
    (he : ∀ (s : Shared) (H : Hp) (C : Addr) (cs : List (Str × Addr)) (fp : List Addr), RE (X.blk s H scope (compEnvC scope cs C X.env) fp) cl F W0 elt fe)
    (hsw : swapsWith (.ListComp elt [⟨tg, iter, ifs, 0⟩] scope pos) (some (.Name y py)) spos.line X.env = pure true)
    (hy : X.N[i]? = some y := by rfl) (hyl : X.env.scope.names.lookup y = some .local := by rfl)
    (hw : ∀ i ∈ ws, i ∈ own.map (·.2) := by decide) (hs : ∀ x, foldedSetIterable iter X.env x = pure x := by intro _; rfl) : RS X cl F W (.Assign [.Name y py] (.ListComp elt [⟨tg, iter, ifs, 0⟩] scope pos) spos) (sAsg i (cLc (own.map (·.2)) fi g ft fe)) := by
  refine ⟨⟨fun pins s σ H D I ⟨e, G, st, q⟩ => (ps_setLc (te := tD X.K cl F W0 fe) (tt := tB' X.K cl F W0 ft) (g := tG X.K cl F ws g) hc hN hy hyl hsw hi.pi ok (fun s H C cs fp => (hg s H C cs fp).pg) (fun s H C cs fp => (ht s H C cs fp).pts) (fun s H C cs fp => (he s H C cs fp).pe) hs).run pins s σ H D I ?_⟩⟩
  refine lc_D (W := W) hw (hg s H 0 [] []).fr ?_
  refine tD_st st q fun r e1 v H1 G1 s1 k1 r1 z => ?_
  cases y : e1.frz r with
  | none => rw [y] at z; exact z.elim
  | some p =>
    obtain ⟨d, e2⟩ := p
    rw [y] at z
    obtain ⟨G2, s2, k2, r2⟩ := frz_ok s1 r1 y
    exact z _ H1 G2 (s2.set r2) k2.gg
end
end DL

namespace DL
open PySem L2 PySem.Spec PyProof.Rows

/-! ### what a def is worth -/
inductive A where
  | dat (d : D) | jar (k : Nat)
inductive OutF where
  | ok (d : D) (j : List D) | exn (x : Exc) (j : List D) | bad
abbrev Fn := List A → List D → OutF
def A.s : A → S
  | .dat d => .dat d
  | .jar k => .jar k
inductive ArgsOk (K : PySem.W.Frag) (cl : Str → Addr) (js : List Addr) (G : Hp) : List A → List V → Prop
  | nil : ArgsOk K cl js G [] []
  | dat {d : D} {v : V} {as : List A} {vs : List V} : Rep K cl G d v → ArgsOk K cl js G as vs → ArgsOk K cl js G (.dat d :: as) (v :: vs)
  | jar {k : Nat} {p : Addr} {as : List A} {vs : List V} : js[k]? = some p → ArgsOk K cl js G as vs → ArgsOk K cl js G (.jar k :: as) (.ref p :: vs)
def PostFn (K : PySem.W.Frag) (cl : Str → Addr) (F : Fra) (Q : VK) (E : XK) (o : OutF) : Prop := match o with
  | .ok d j => ∀ v H' G', Ret K cl F H' G' j → Rep K cl G' d v → Q v H'
  | .exn x j => ∀ cls dd H' G', Ret K cl F H' G' j → ExcAt K cl x cls dd H' G' → E cls dd H'
  | .bad => False
def spD (K : PySem.W.Frag) (cl : Str → Addr) (Φ : Fn) : Sp := fun vs H Q E => ∃ (as : List A) (j : List D) (js : List Addr) (G : Hp), Same G H ∧ ArgsOk K cl js G as vs ∧ Jars K cl js H G j ∧ PostFn K cl ⟨H, G, js⟩ Q E (Φ as j)
def outF (o : Out Fl) : OutF := match o with
  | .ok (.rt d) e => .ok d e.j
  | .ok .nx e => .ok .non e.j
  | .exn x e => .exn x e.j
  | _ => .bad
/-- n names, np of them parameters -/
def env0 (n : Nat) (as : List A) (j : List D) : Env := ⟨as.map A.s ++ List.replicate (n - as.length) .un, j⟩
def fnOf (n np : Nat) (g : M Fl) : Fn := fun as j => if as.length = np then outF (g (env0 n as j)) else .bad
section
variable {K : PySem.W.Frag} {cl : Str → Addr}
theorem ArgsOk.length {js : List Addr} {G : Hp} {as : List A} {vs : List V} (h : ArgsOk K cl js G as vs) : as.length = vs.length := by
  induction h with
  | nil => rfl
  | dat _ _ ih => simp [ih]
  | jar _ _ ih => simp [ih]
theorem ArgsOk.get {js : List Addr} {G : Hp} {as : List A} {vs : List V} (h : ArgsOk K cl js G as vs) : ∀ (i : Nat) (a : A), as[i]? = some a → ∃ v, vs[i]? = some v ∧ match a with
    | .dat d => Rep K cl G d v
    | .jar k => ∃ p, js[k]? = some p ∧ v = .ref p := by
  induction h with
  | nil => intro i a h; simp at h
  | @dat d v as vs r _ ih =>
    intro i a h
    cases i with
    | zero => simp at h; subst h; exact ⟨v, rfl, r⟩
    | succ i => exact ih i a (by simpa using h)
  | @jar k p as vs r _ ih =>
    intro i a h
    cases i with
    | zero => simp at h; subst h; exact ⟨_, rfl, p, r, rfl⟩
    | succ i => exact ih i a (by simpa using h)
/-- the state at the entry -/
theorem stt_start {H G : Hp} {js : List Addr} {as : List A} {j : List D} {vs : List V} {N : List Str} (gh : Same G H) (ao : ArgsOk K cl js G as vs) (jr : Jars K cl js H G j) : Stt K cl ⟨H, G, js⟩ (env0 N.length as j) (L2.start N vs) H G := by
  have hl := ao.length
  refine ⟨⟨gh, .refl _, jr, fun a o h _ => h, fun a o _ h => h⟩, fun a ha hn => ?_, by simp [env0, L2.start, hl], fun i x h => ?_, fun i k d d' a h1 h2 h3 h4 => ?_⟩
  · obtain ⟨k, hk⟩ := List.getElem?_of_mem ha
    have hl : k < j.length := by rw [jr.len]; exact (List.getElem?_eq_some_iff.mp hk).1
    obtain ⟨_, q2⟩ := jr.at_ k a _ hk (List.getElem?_eq_getElem hl)
    obtain ⟨o, q3⟩ := q2.ex
    have hn : H a = none := hn
    rw [hn] at q3; cases q3
  · by_cases hi : i < as.length
    · have e1 : (env0 N.length as j).s[i]? = (as.map A.s)[i]? := List.getElem?_append_left (by simpa using hi)
      rw [e1, List.getElem?_map] at h
      obtain ⟨a, ha, rfl⟩ := Option.map_eq_some_iff.mp h
      obtain ⟨v, hv, r⟩ := ao.get i a ha
      have e2 : (L2.start N vs)[i]? = some (some v) := by
        unfold L2.start
        rw [List.getElem?_append_left (by simp; omega), List.getElem?_map, hv]; rfl
      cases a with
      | dat d => exact ⟨v, e2, r⟩
      | jar k => obtain ⟨p, hp, rfl⟩ := r; exact ⟨p, hp, e2⟩
    · have e1 : (env0 N.length as j).s[i]? = (List.replicate (N.length - as.length) S.un)[i - as.length]? := by
        unfold env0
        rw [List.getElem?_append_right (by simp; omega)]
        simp
      rw [e1] at h
      rw [List.getElem?_replicate] at h
      split at h
      · cases h; trivial
      · cases h
  · have no : ∀ {i : Nat} {d : D}, (env0 N.length as j).s[i]? = some (.own d) → False := fun {i d} h => by
      have hm := List.mem_of_getElem? h
      unfold env0 at hm
      rcases List.mem_append.mp
                                                                                                              hm with hm | hm
      · obtain ⟨a, _, e⟩ := List.mem_map.mp hm
        cases a <;> cases e
      · cases (List.mem_replicate.mp hm).2
    exact (no h1).elim
theorem PostFn.of {F : Fra} {Q : VK} {E : XK} {G : Hp} {o : Out Fl} (h : PostFn K cl F Q E (outF o)) : PostF K cl F (fun c d _ H => E c d H) { nx := fun _ H' => Q .non H', rt := Q } G o := by
  cases o with
  | ok fl e =>
    cases fl with
    | nx => exact fun σ' H' G' s g => h .non H' G' s.ret .non
    | rt d => exact fun v H' G' s r => h v H' G' s r
    | bk => exact h.elim
    | ct => exact h.elim
  | exn x e => exact fun cls dd σ' H' G' s z => h cls dd H' G' s.ret z
  | bad => exact h.elim
/-- THE RULE for a def -/
theorem fn_D {P : Program} {w : World} {mg : Str → Option Value} {base : Heap} {x qual : Str} {params : Arguments} {body : List Stmt} {scope : Scope} {kws : List (Str × V)} {dvs : List V} {f : Addr} {fd : FuncData} {N ps : List Str} {k : Nat} {g : M Fl}
    (Fn : FunD K x qual params body scope dvs kws f fd) (S : FnScope N ps scope)
    (hbody : ∀ (F : Fra) (cdv : Value) (A : Around) (outer : List PySem.Env) (s : Shared) (H : Hp) (E : XK), Room k (A.deeper (envOfC qual scope s.heap.objs.size f cdv)) →
      RSs (cxOf (L2.CX P w) P w K mg base N qual scope f cdv A outer s H E) cl F (fun c d _ H => E c d H) body g) :
    FnOk P w K mg base (L2.CX P w) (k + 1) f fd ps (spD K cl (fnOf N.length ps.length g)) := by
  refine FunD.ok Fn S (fun vs H Q E h => ?_) fun cdv A outer s H vs Q E hr h => ?_
  · obtain ⟨as, j, js, G, gh, ao, jr, q⟩ := h
    unfold fnOf at q
    split at q
    · rename_i hl; rw [← ao.length, hl]
    · exact q.elim
  · obtain ⟨as, j, js, G, gh, ao, jr, q⟩ := h
    refine ⟨_, (hbody ⟨H, G, js⟩ cdv A outer s H E hr).pss, _, _, stt_start gh ao jr, ?_⟩
    unfold fnOf at q
    split at q
    · exact PostFn.of (K := K) q
    · exact q.elim
/-- a def's worth by a better known function -/
theorem FnOk.by {P : Program} {w : World} {mg : Str → Option Value} {base : Heap} {CX : CXT} {k : Nat} {f : Addr} {fd : FuncData} {ps : List Str} {Φ Ψ : Fn} (h : FnOk P w K mg base CX k f fd ps (spD K cl Φ)) (e : ∀ as j, Ψ as j ≠ .bad → Φ as j = Ψ as j) : FnOk P w K mg base CX k f fd ps (spD K cl Ψ) :=
  h.imp fun vs H Q E ⟨as, j, js, G, gh, ao, jr, q⟩ => ⟨as, j, js, G, gh, ao, jr, by
    rw [e as j fun z => by rw [z] at q; exact q]
    exact q⟩
end

/-! ### calls -/
def callO (e : Env) (o : OutF) : Out R := match o with
  | .ok d [] => .ok (.val d) e
  | .exn x [] => .exn x e
  | _ => .bad
/-- f(..), data alone -/
def cCall (Φ : Fn) (fs : M (List R)) : M R := fun e => (fs e).bnd fun rs e1 => match e1.frzs rs with
  | some (ds, e2) => callO e2 (Φ (ds.map A.dat) [])
  | none => .bad
/-- what slot i owns (or was lent) is now d -/
def Env.put (e : Env) (i : Nat) (d : D) : Option Env := match e.s[i]? with
  | some (.own _) => some (e.setS i (.own d))
  | some (.jar k) => some ⟨e.s, e.j.set k d⟩
  | _ => none
def outE {α : Type} (o : Option Env) (k : Env → Out α) : Out α := match o with
  | some e => k e
  | none => .bad
def callJ (e : Env) (i : Nat) (o : OutF) : Out R := match o with
  | .ok d [x] => outE (e.put i x) fun e' => .ok (.val d) e'
  | .exn y [x] => outE (e.put i x) fun e' => .exn y e'
  | _ => .bad
/-- f(jar, ..) -/
def cCallJ (Φ : Fn) (fs : M (List R)) : M R := fun e => (fs e).bnd fun rs e1 => match rs with
  | .whole i :: rs => (match e1.rd (.whole i), e1.frzs rs with
    | some x, some (ds, e2) => (match e2.rd (.whole i) with
      | some x => callJ e2 i (Φ (.jar 0 :: ds.map A.dat) [x])
      | none => .bad)
    | _, _ => .bad)
  | _ => .bad
section
variable {K : PySem.W.Frag} {cl : Str → Addr} {F : Fra} {e e' : Env} {σ : L2.St} {H G H' G' : Hp}
theorem argsOk_dat {js : List Addr} : ∀ {ds : List D} {vs : List V}, RepL K cl G ds vs → ArgsOk K cl js G (ds.map A.dat) vs
  | _, _, .nil => .nil
  | _, _, .cons r t => .dat r (argsOk_dat t)
/-- behind a call that was lent nothing -/
theorem Stt.called (st : Stt K cl F e σ H G) (r : Ret K cl ⟨H, G, []⟩ H' G' []) : Stt K cl F e σ H' G' ∧ Kp F σ e H G e H' G' := by
  have hk : ∀ {a : Addr} {o : HO}, H a = some o → H' a = some o := fun {a o} q => r.fr a o q (by simp)
  have hg : ∀ {a : Addr} {o : HO}, H a = some o → G a = none → G' a = none := fun {a o} q n => r.fg a o q n
  obtain ⟨⟨gh, g0, jr, fr, fg⟩, jh, len, slot, inj⟩ := st
  refine ⟨⟨⟨r.gh, g0.trans r.g0, ⟨jr.len, jr.nd, fun k a d k1 k2 => ?_⟩, fun a o q hn => hk (fr a o q hn), fun a o q hn => ?_⟩, jh, len, fun i x hx => ?_, inj⟩, ⟨r.g0, fun a o q _ => ⟨hk q, fun n => hg q n⟩, fun i d h => ⟨d, h⟩⟩⟩
  · obtain ⟨q1, q2⟩ := jr.at_ k a d k1 k2
    obtain ⟨o, q3⟩ := q2.ex
    exact ⟨hg q3 q1, q2.mono (fun o q => hk q) r.g0⟩
  · by_cases hp : a ∈ F.js
    · obtain ⟨k, hk'⟩ := List.getElem?_of_mem hp
      have hl : k < e.j.length := by rw [jr.len]; exact (List.getElem?_eq_some_iff.mp hk').1
      obtain ⟨q1, q2⟩ := jr.at_ k a _ hk' (List.getElem?_eq_getElem hl)
      obtain ⟨o, q3⟩ := q2.ex
      exact hg q3 q1
    · exact hg (fr a o q hp) (fg a o q hn)
  · have z := slot i x hx
    cases x with
    | un => trivial
    | dat d => obtain ⟨v, z1, z2⟩ := z; exact ⟨v, z1, z2.mono r.g0⟩
    | own d =>
      obtain ⟨a, z1, z2, z3, z4⟩ := z
      obtain ⟨o, q3⟩ := z4.ex
      exact ⟨a, z1, hg q3 z2, z3, z4.mono (fun o q => hk q) r.g0⟩
    | jar k => exact z
/-- where slot i's object is, and what it is -/
theorem Stt.lent (st : Stt K cl F e σ H G) {i : Nat} {v : V} {d : D} (hs : σ[i]? = some (some v)) (hd : e.rd (.whole i) = some d) : ∃ a, v = .ref a ∧ G a = none ∧ Own K cl H G a d := by
  have hd : (match e.s[i]? with
    | some (.own d) => some d
    | some (.jar k) => e.j[k]?
    | _ => none) = some d := hd
  cases q : e.s[i]? with
  | none => rw [q] at hd; cases hd
  | some x =>
    rw [q] at hd
    have z := st.slot i x q
    cases x with
    | own d' =>
      cases hd
      obtain ⟨a, h1, h2, h3, h4⟩ := z
      rw [hs] at h1; cases h1
      exact ⟨a, rfl, h2, h4⟩
    | jar k =>
      obtain ⟨a, h1, h2⟩ := z
      rw [hs] at h2; cases h2
      obtain ⟨q1, q2⟩ := st.ret.jars.at_ k a d h1 hd
      exact ⟨a, rfl, q1, q2⟩
    | _ => cases hd
/-- behind a change of slot i's object alone (and new objects) -/
theorem Stt.calledJ (st : Stt K cl F e σ H G) {i : Nat} {a : Addr} {x : D} (hs : σ[i]? = some (some (.ref a))) (r : Ret K cl ⟨H, G, [a]⟩ H' G' [x]) (hp : e.put i x = some e') : Stt K cl F e' σ H' G' ∧ Kp F σ e H G e' H' G' := by
  have hk : ∀ {b : Addr} {o : HO}, b ≠ a → H b = some o → H' b = some o := fun {b o} n q => r.fr b o q (by simpa using n)
  have hg : ∀ {b : Addr} {o : HO}, H b = some o → G b = none → G' b = none := fun {b o} q n => r.fg b o q n
  obtain ⟨ga, oa⟩ := r.jars.at_ 0 a x rfl rfl
  have hp : (match e.s[i]? with
    | some (.own _) => some (e.setS i (.own x))
    | some (.jar k) => some (⟨e.s, e.j.set k x⟩ : Env)
    | _ => none) = some e' := hp
  cases q : e.s[i]? with
  | none => rw [q] at hp; cases hp
  | some y =>
    rw [q] at hp
    have zi := st.slot i y q
    cases y with
    | un => cases hp
    | dat d => cases hp
    | own d0 =>
      cases hp
      obtain ⟨a', h1, h2, h3, h4⟩ := zi
      rw [hs] at h1; cases h1
      obtain ⟨⟨gh, g0, jr, fr, fg⟩, jh, len, slot, inj⟩ := st
      have aj : a ∉ F.js := fun hj => jh a hj h3
      have hset : ∀ {j : Nat} {y : S}, (e.setS i (.own x)).s[j]? = some y → (j = i ∧ y = .own x) ∨ (j ≠ i ∧ e.s[j]? = some y) := fun {j y} h => by
        by_cases hj : j = i
        · subst hj; rw [setS_same q] at h; cases h; exact .inl ⟨rfl, rfl⟩
        · rw [setS_ne hj] at h; exact .inr ⟨hj, h⟩
      have old : ∀ {j : Nat} {d : D}, (e.setS i (.own x)).s[j]? = some (.own d) → ∃ d', e.s[j]? = some (.own d') := fun {j d} h => by
        rcases hset h with ⟨rfl, _⟩ | ⟨_, h⟩
        · exact ⟨_, q⟩
        · exact ⟨_, h⟩
      refine ⟨⟨⟨r.gh, g0.trans r.g0, ⟨jr.len, jr.nd, fun k b d k1 k2 => ?_⟩, fun b o q' hn => ?_, fun b o q' hn => ?_⟩, jh, by simp [Env.setS, len], fun j y h => ?_, fun j k d d' b k1 k2 k3 k4 => ?_⟩, ⟨r.g0, fun b o q' l => ?_, fun j d h => old h⟩⟩
      · obtain ⟨q1, q2⟩ := jr.at_ k b d k1 k2
        obtain ⟨o, q3⟩ := q2.ex
        have nb : b ≠ a := fun z => aj (z ▸ List.mem_of_getElem? k1)
        exact ⟨hg q3 q1, q2.mono (fun o q => hk nb q) r.g0⟩
      · have nb : b ≠ a := fun z => by rw [z, h3] at q'; cases q'
        exact hk nb (fr b o q' hn)
      · by_cases hp : b ∈ F.js
        · obtain ⟨k, hk'⟩ := List.getElem?_of_mem hp
          have hl : k < e.j.length := by rw [jr.len]; exact (List.getElem?_eq_some_iff.mp hk').1
          obtain ⟨q1, q2⟩ := jr.at_ k b _ hk' (List.getElem?_eq_getElem hl)
          obtain ⟨o, q3⟩ := q2.ex
          exact hg q3 q1
        · exact hg (fr b o q' hp) (fg b o q' hn)
      · rcases hset h with ⟨rfl, rfl⟩ | ⟨hj, h⟩
        · exact ⟨a, hs, ga, h3, oa⟩
        · have z := slot j y h
          cases y with
          | un => trivial
          | dat d => obtain ⟨v, z1, z2⟩ := z; exact ⟨v, z1, z2.mono r.g0⟩
          | own d =>
            obtain ⟨b, z1, z2, z3, z4⟩ := z
            obtain ⟨o, q3⟩ := z4.ex
            have nb : b ≠ a := fun w => hj (inj j i _ _ a h q (w ▸ z1) hs)
            exact ⟨b, z1, hg q3 z2, z3, z4.mono (fun o q => hk nb q) r.g0⟩
          | jar k => exact z
      · obtain ⟨d1, k1⟩ := old k1
        obtain ⟨d2, k2⟩ := old k2
        exact inj j k d1 d2 b k1 k2 k3 k4
      · have nb : b ≠ a := fun w => l.2 i _ q (w ▸ hs)
        exact ⟨hk nb q', fun n => hg q' n⟩
    | jar k0 =>
      cases hp
      obtain ⟨a', h1, h2⟩ := zi
      rw [hs] at h2; cases h2
      obtain ⟨⟨gh, g0, jr, fr, fg⟩, jh, len, slot, inj⟩ := st
      have aj : a ∈ F.js := List.mem_of_getElem? h1
      have hl0 : k0 < e.j.length := by rw [jr.len]; exact (List.getElem?_eq_some_iff.mp h1).1
      refine ⟨⟨⟨r.gh, g0.trans r.g0, ⟨by simp [jr.len], jr.nd, fun k b d k1 k2 => ?_⟩, fun b o q' hn => ?_, fun b o q' hn => ?_⟩, jh, len, fun j y h => ?_, inj⟩, ⟨r.g0, fun b o q' l => ?_, fun j d h => ⟨d, h⟩⟩⟩
      · have k2 : (e.j.set k0 x)[k]? = some d := k2
        by_cases hk0 : k = k0
        · subst hk0
          rw [h1] at k1; cases k1
          rw [List.getElem?_set_self hl0] at k2; cases k2
          exact ⟨ga, oa⟩
        · rw [List.getElem?_set_ne (Ne.symm hk0)] at k2
          obtain ⟨q1, q2⟩ := jr.at_ k b d k1 k2
          obtain ⟨o, q3⟩ := q2.ex
          have nb : b ≠ a := fun z => hk0 (by
            subst z
            have i1 := (List.getElem?_eq_some_iff.mp k1)
            have i2 := (List.getElem?_eq_some_iff.mp h1)
            exact (List.getElem_inj jr.nd).mp (i1.2.trans i2.2.symm))
          exact ⟨hg q3 q1, q2.mono (fun o q => hk nb q) r.g0⟩
      · have nb : b ≠ a := fun z => hn (z ▸ aj)
        exact hk nb (fr b o q' hn)
      · by_cases hp : b ∈ F.js
        · obtain ⟨k, hk'⟩ := List.getElem?_of_mem hp
          have hl : k < e.j.length := by rw [jr.len]; exact (List.getElem?_eq_some_iff.mp hk').1
          obtain ⟨q1, q2⟩ := jr.at_ k b _ hk' (List.getElem?_eq_getElem hl)
          obtain ⟨o, q3⟩ := q2.ex
          exact hg q3 q1
        · exact hg (fr b o q' hp) (fg b o q' hn)
      · have z := slot j y h
        cases y with
        | un => trivial
        | dat d => obtain ⟨v, z1, z2⟩ := z; exact ⟨v, z1, z2.mono r.g0⟩
        | own d =>
          obtain ⟨b, z1, z2, z3, z4⟩ := z
          obtain ⟨o, q3⟩ := z4.ex
          have nb : b ≠ a := fun w => jh a aj (w ▸ z3)
          exact ⟨b, z1, hg q3 z2, z3, z4.mono (fun o q => hk nb q) r.g0⟩
        | jar k => exact z
      · have nb : b ≠ a := fun w => l.1 (w ▸ aj)
        exact ⟨hk nb q', fun n => hg q' n⟩
theorem ExcAt.mono {x : Exc} {cls : Value} {dd : Option Addr} {H G : Hp} (h : ExcAt K cl x cls dd H G) : ExcAt K cl x cls dd H G := h
end
section
variable {X : Cx} {cl : Str → Addr} {F : Fra} {W : WX}
theorem call_D {Φ : Fn} {fs : M (List R)} {σ : L2.St} {H : Hp} {Q : VK} (h : tD X.K cl F W (cCall Φ fs) σ H Q) : tA X.K cl F W fs σ H fun vs H1 => spD X.K cl Φ vs H1 Q (fun c d H => W c d σ H) := by
  obtain ⟨e, G, st, q⟩ := h
  refine tA_then st q fun rs e1 vs H1 G1 s1 k1 r1 z => ?_
  cases y : e1.frzs rs with
  | none => rw [y] at z; exact z.elim
  | some p =>
    obtain ⟨ds, e2⟩ := p
    rw [y] at z
    obtain ⟨G2, s2, k2, r2⟩ := frzs_ok s1 r1 y
    refine ⟨ds.map A.dat, [], [], G2, s2.ret.gh, argsOk_dat r2, ⟨rfl, List.nodup_nil, fun k a d h => by simp at h⟩, ?_⟩
    cases o : Φ (ds.map A.dat) [] with
    | bad => simp only [o] at z; exact z.elim
    | ok d j =>
      simp only [o] at z
      cases j with
      | cons => exact z.elim
      | nil =>
        intro v H' G' r rv
        obtain ⟨s3, k3⟩ := s2.called r
        exact z v H' G' s3 ((k1.trans k2).trans k3) rv
    | exn x j =>
      simp only [o] at z
      cases j with
      | cons => exact z.elim
      | nil =>
        intro cls dd H' G' r ex
        obtain ⟨s3, k3⟩ := s2.called r
        exact z cls dd H' G' s3 ex
theorem callJ_D {Φ : Fn} {fs : M (List R)} {σ : L2.St} {H : Hp} {Q : VK} (h : tD X.K cl F W (cCallJ Φ fs) σ H Q) : tA X.K cl F W fs σ H fun vs H1 => spD X.K cl Φ vs H1 Q (fun c d H => W c d σ H) := by
  obtain ⟨e, G, st, q⟩ := h
  refine tA_then st q fun rs e1 vs H1 G1 s1 k1 r1 z => ?_
  cases r1 with
  | nil => exact z.elim
  | @cons r v rs vs r0 rr =>
    cases r with
    | val d => exact z.elim
    | whole i =>
      have hs : σ[i]? = some (some v) := r0
      simp only at z
      cases y0 : e1.rd (.whole i) with
      | none => simp only [y0] at z; exact z.elim
      | some x0 =>
        cases y : e1.frzs rs with
        | none => simp only [y0, y] at z; exact z.elim
        | some p =>
          obtain ⟨ds, e2⟩ := p
          simp only [y0, y] at z
          obtain ⟨G2, s2, k2, r2⟩ := frzs_ok s1 rr y
          cases y1 : e2.rd (.whole i) with
          | none => simp only [y1] at z; exact z.elim
          | some x =>
            simp only [y1] at z
            obtain ⟨a, rfl, ga, oa⟩ := s2.lent hs y1
            refine ⟨.jar 0 :: ds.map A.dat, [x], [a], G2, s2.ret.gh, .jar rfl (argsOk_dat r2), ⟨rfl, by simp, fun k b d h1 h2 => ?_⟩, ?_⟩
            · cases k with
              | zero => cases h1; cases h2; exact ⟨ga, oa⟩
              | succ k => simp at h1
            · cases o : Φ (.jar 0 :: ds.map A.dat) [x] with
              | bad => rw [o] at z; exact z.elim
              | ok d j =>
                rw [o] at z
                match j, z, o with
                | [], z, o => exact z.elim
                | _ :: _ :: _, z, o => exact z.elim
                | [x'], z, o =>
                  intro v' H' G' r rv
                  cases hp : e2.put i x' with
                  | none => simp only [callJ, hp] at z; exact z.elim
                  | some e3 =>
                    simp only [callJ, hp] at z
                    obtain ⟨s3, k3⟩ := s2.calledJ hs r hp
                    exact z v' H' G' s3 ((k1.trans k2).trans k3) rv
              | exn ex j =>
                rw [o] at z
                match j, z, o with
                | [], z, o => exact z.elim
                | _ :: _ :: _, z, o => exact z.elim
                | [x'], z, o =>
                  intro cls dd H' G' r xa
                  cases hp : e2.put i x' with
                  | none => simp only [callJ, hp] at z; exact z.elim
                  | some e3 =>
                    simp only [callJ, hp] at z
                    obtain ⟨s3, k3⟩ := s2.calledJ hs r hp
                    exact z cls dd H' G' s3 xa
section
variable {k : Nat} {f : Addr} {fd : FuncData} {ps : List Str} {Φ : Fn} {x : Str} {p pos : Pos} {a : Expr} {es : List Expr} {fs : M (List R)}
theorem re_call (Fn : FnOk X.prog X.w X.K X.mg X.base (L2.CX X.prog X.w) k f fd ps (spD X.K cl Φ)) (hr : Room k X.A) (tk : Takes X W) (hg : Gl X x) (hm : X.mg x = some (.ref f)) (hk : PySem.W.keepIn X.K (.ref f) = true) (hb : Binds X.K fd ps [])
    (ha : RA X cl F W (a :: es) fs) (hdb : (x == ("__debug__" : Str)) = false := by decide) (he : starEach (a :: es) X.env = (false, eval a X.env) :: starEach es X.env := by rfl) (hpl : (backTo pos (starEach es X.env)).any (·.1) = false := by rfl) :
    RE X cl F W (.Call (.Name x p) (a :: es) [] pos) (cCall Φ fs) :=
  ⟨PE.imp (pe_callS Fn hr hg hm hk hb (fun σ => passAt tk σ) ha.pa hdb he hpl) fun σ H Q h => call_D h⟩
theorem re_callJ (Fn : FnOk X.prog X.w X.K X.mg X.base (L2.CX X.prog X.w) k f fd ps (spD X.K cl Φ)) (hr : Room k X.A) (tk : Takes X W) (hg : Gl X x) (hm : X.mg x = some (.ref f)) (hk : PySem.W.keepIn X.K (.ref f) = true) (hb : Binds X.K fd ps [])
    (ha : RA X cl F W (a :: es) fs) (hdb : (x == ("__debug__" : Str)) = false := by decide) (he : starEach (a :: es) X.env = (false, eval a X.env) :: starEach es X.env := by rfl) (hpl : (backTo pos (starEach es X.env)).any (·.1) = false := by rfl) :
    RE X cl F W (.Call (.Name x p) (a :: es) [] pos) (cCallJ Φ fs) :=
  ⟨PE.imp (pe_callS Fn hr hg hm hk hb (fun σ => passAt tk σ) ha.pa hdb he hpl) fun σ H Q h => callJ_D h⟩
end
end
end DL

namespace DL
open PySem L2 PySem.Spec PyProof.Rows

section
variable {X : Cx} {cl : Str → Addr} {F : Fra} {W : WX}
theorem topL1 {K : PySem.W.Frag} {H G : Hp} {d : D} {vs : List V} (h : TopL K cl H G [d] vs) : ∃ v, vs = [v] ∧ Top K cl H G d v := by
  cases h with
  | cons a t => cases t; exact ⟨_, rfl, a⟩
theorem topL2 {K : PySem.W.Frag} {H G : Hp} {d d' : D} {vs : List V} (h : TopL K cl H G [d, d'] vs) : ∃ v v', vs = [v, v'] ∧ Top K cl H G d v ∧ Top K cl H G d' v' := by
  cases h with
  | cons a t => cases t with
    | cons b t => cases t; exact ⟨_, _, rfl, a, b⟩
def lenD : List D → Option D
  | [.lst l] => some (.int l.length)
  | [.tup l] => some (.int l.length)
  | [.scr l] => some (.int l.length)
  | [.str s] => if s.length ≤ sizeLine then some (.int s.length) else none
  | [.dct ks _] => some (.int ks.length)
  | _ => none
theorem cd_len : CallD X cl (.builtin "len") lenD := by
  refine ⟨_, (call_len.or call_lenD), fun H G xs ds dz Q gh t e k => ?_⟩
  unfold lenD at e
  split at e
  · cases e
    obtain ⟨v, rfl, tv⟩ := topL1 t
    obtain ⟨a, vs, rfl, h1, r⟩ := tv.lst gh
    exact .inl ⟨_, _, rfl, .inl ⟨vs, SqL.of h1, r.length⟩, k _ H G .refl .int⟩
  · cases e
    obtain ⟨v, rfl, tv⟩ := topL1 t
    obtain ⟨a, vs, rfl, h1, r⟩ := tv.tup gh
    exact .inl ⟨_, _, rfl, .inr ⟨vs, h1, r.length⟩, k _ H G .refl .int⟩
  · cases e
    obtain ⟨v, rfl, tv⟩ := topL1 t
    obtain ⟨a, rfl, h1⟩ := tv.scr gh
    exact .inl ⟨_, _, rfl, .inl ⟨_, h1, by simp⟩, k _ H G .refl .int⟩
  · split at e
    · rename_i hl
      cases e
      obtain ⟨v, rfl, tv⟩ := topL1 t
      cases tv.str
      exact .inl ⟨_, _, rfl, ⟨hl, rfl⟩, k _ H G .refl .int⟩
    · cases e
  · rename_i ks l
    cases e
    obtain ⟨v, rfl, tv⟩ := topL1 t
    obtain ⟨a, vs, rfl, h1, hl, r⟩ := tv.dct gh
    refine .inr ⟨a, _, rfl, h1, ?_⟩
    have e1 : (ks.zip vs).length = ks.length := by rw [List.length_zip, ← hl, Nat.min_self]
    rw [e1]
    exact k _ H G .refl .int
  · cases e
def intFnD : List D → Option D
  | [.int i] => some (.int i)
  | [.bl b] => some (.int (if b then 1 else 0))
  | _ => none
theorem cd_int : CallD X cl (.type "int") intFnD := by
  refine ⟨_, call_int1, fun H G xs ds dz Q gh t e k => ?_⟩
  unfold intFnD at e
  split at e
  · cases e
    obtain ⟨v, rfl, tv⟩ := topL1 t
    cases tv.int
    exact .inl ⟨_, rfl, k _ H G .refl .int⟩
  · cases e
    obtain ⟨v, rfl, tv⟩ := topL1 t
    cases tv.bl
    exact .inr ⟨_, rfl, k _ H G .refl .int⟩
  · cases e
def absD : List D → Option D
  | [.int i] => some (.int (if i < 0 then -i else i))
  | _ => none
theorem cd_abs : CallD X cl (.builtin "abs") absD := by
  refine ⟨_, call_abs, fun H G xs ds dz Q gh t e k => ?_⟩
  unfold absD at e
  split at e
  · cases e
    obtain ⟨v, rfl, tv⟩ := topL1 t
    cases tv.int
    exact ⟨_, rfl, k _ H G .refl .int⟩
  · cases e
def min2D : List D → Option D
  | [.int i, .int j] => some (.int (if j < i then j else i))
  | _ => none
def max2D : List D → Option D
  | [.int i, .int j] => some (.int (if j > i then j else i))
  | _ => none
theorem cd_min2 (hc : X.calm = true) : CallD X cl (.builtin "min") min2D := by
  refine ⟨_, call_min2 hc, fun H G xs ds dz Q gh t e k => ?_⟩
  unfold min2D at e
  split at e
  · cases e
    obtain ⟨v, v', rfl, tv, tv'⟩ := topL2 t
    cases tv.int
    cases tv'.int
    exact ⟨_, _, rfl, k _ H G .refl .int⟩
  · cases e
theorem cd_max2 (hc : X.calm = true) : CallD X cl (.builtin "max") max2D := by
  refine ⟨_, call_max2 hc, fun H G xs ds dz Q gh t e k => ?_⟩
  unfold max2D at e
  split at e
  · cases e
    obtain ⟨v, v', rfl, tv, tv'⟩ := topL2 t
    cases tv.int
    cases tv'.int
    exact ⟨_, _, rfl, k _ H G .refl .int⟩
  · cases e
def listD : List D → Option D
  | [.lst l] => some (.lst l)
  | [.tup l] => some (.lst l)
  | _ => none
theorem cd_list : CallD X cl (.type "list") listD := by
  refine ⟨_, call_list_of, fun H G xs ds dz Q gh t e k => ?_⟩
  unfold listD at e
  split at e
  · cases e
    obtain ⟨v, rfl, tv⟩ := topL1 t
    obtain ⟨a, vs, rfl, h1, r⟩ := tv.lst gh
    exact ⟨_, vs, rfl, .inl (SqL.of h1), fun p hp => k _ _ _ (.lay .refl hp) (.lst upd_same (r.mono (same_upd (gh.free hp))))⟩
  · cases e
    obtain ⟨v, rfl, tv⟩ := topL1 t
    obtain ⟨a, vs, rfl, h1, r⟩ := tv.tup gh
    exact ⟨_, vs, rfl, .inr h1, fun p hp => k _ _ _ (.lay .refl hp) (.lst upd_same (r.mono (same_upd (gh.free hp))))⟩
  · cases e
def tupleD : List D → Option D
  | [.lst l] => some (.tup l)
  | [.tup l] => some (.tup l)
  | _ => none
theorem cd_tuple : CallD X cl (.type "tuple") tupleD := by
  refine ⟨_, call_tuple_of, fun H G xs ds dz Q gh t e k => ?_⟩
  unfold tupleD at e
  split at e
  · cases e
    obtain ⟨v, rfl, tv⟩ := topL1 t
    obtain ⟨a, vs, rfl, h1, r⟩ := tv.lst gh
    exact ⟨_, vs, rfl, .inl ⟨SqL.of h1, fun p hp => k _ _ _ (.lay .refl hp) (.tup (SqT.of upd_same) (r.mono (same_upd (gh.free hp))))⟩⟩
  · cases e
    obtain ⟨v, rfl, tv⟩ := topL1 t
    rcases tv with tv | ⟨_, _, _, tv⟩
    · have tv' := tv
      cases tv with
      | tup h1 r => exact ⟨_, _, rfl, .inr ⟨SqT.same gh h1, k _ H G .refl tv'⟩⟩
    · exact tv.elim
  · cases e
/-- the truth values of a list -/
def blsOf : List D → Option (List Bool)
  | [] => some []
  | .bl b :: r => (blsOf r).map (b :: ·)
  | _ :: _ => none
theorem blsOf_ok {K : PySem.W.Frag} {G : Hp} : ∀ {ds : List D} {bs : List Bool} {vs : List V}, blsOf ds = some bs → RepL K cl G ds vs → vs = bs.map V.bl
  | [], _, _, h, r => by cases h; cases r; rfl
  | .bl b :: ds, _, _, h, r => by
    obtain ⟨bs, h1, rfl⟩ := Option.map_eq_some_iff.mp h
    cases r with
    | cons r1 rr => cases r1; rw [blsOf_ok h1 rr]; rfl
  | .non :: _, _, _, h, _ | .int _ :: _, _, _, h, _ | .str _ :: _, _, _, h, _ | .tup _ :: _, _, _, h, _ | .lst _ :: _, _, _, h, _ | .dct _ _ :: _, _, _, h, _ | .dcT _ _ :: _, _, _, h, _ | .obj _ _ _ :: _, _, _, h, _ | .scr _ :: _, _, _, h, _ => by cases h
def allD : List D → Option D
  | [.lst l] => (blsOf l).map fun bs => .bl (bs.all id)
  | _ => none
def anyD : List D → Option D
  | [.lst l] => (blsOf l).map fun bs => .bl (bs.any id)
  | _ => none
theorem cd_all (hc : X.calm = true) : CallD X cl (.builtin "all") allD := by
  refine ⟨_, cr_all hc, fun H G xs ds dz Q gh t e k => ?_⟩
  unfold allD at e
  split at e
  · obtain ⟨bs, hb, rfl⟩ := Option.map_eq_some_iff.mp e
    obtain ⟨v, rfl, tv⟩ := topL1 t
    obtain ⟨a, vs, rfl, h1, r⟩ := tv.lst gh
    exact ⟨a, bs, rfl, by rw [← blsOf_ok hb r]; exact SqL.of h1, k _ H G .refl .bl⟩
  · cases e
theorem cd_any (hc : X.calm = true) : CallD X cl (.builtin "any") anyD := by
  refine ⟨_, cr_any hc, fun H G xs ds dz Q gh t e k => ?_⟩
  unfold anyD at e
  split at e
  · obtain ⟨bs, hb, rfl⟩ := Option.map_eq_some_iff.mp e
    obtain ⟨v, rfl, tv⟩ := topL1 t
    obtain ⟨a, vs, rfl, h1, r⟩ := tv.lst gh
    exact ⟨a, bs, rfl, by rw [← blsOf_ok hb r]; exact SqL.of h1, k _ H G .refl .bl⟩
  · cases e
def strFnD : List D → Option D
  | [.int i] => if i.natAbs.log2 < 1920 then some (.str (toString i)) else none
  | _ => none
theorem cd_strInt : CallD X cl (.type "str") strFnD := by
  refine ⟨_, call_str_int, fun H G xs ds dz Q gh t e k => ?_⟩
  unfold strFnD at e
  split at e
  · split at e
    · rename_i h
      cases e
      obtain ⟨v, rfl, tv⟩ := topL1 t
      cases tv.int
      exact ⟨_, rfl, h, k _ H G .refl .str⟩
    · cases e
  · cases e

/-! ### isinstance -/
/-- the built-in type of plain data -/
def tyN : D → Option String
  | .non => some "NoneType"
  | .bl _ => some "bool"
  | .int _ => some "int"
  | .str _ => some "str"
  | .tup _ => some "tuple"
  | .lst _ => some "list"
  | .scr _ => some "list"
  | .dct _ _ => some "dict"
  | .dcT _ _ => some "dict"
  | .obj _ _ _ => none
def isTy (a b : String) : Bool := a == b || (a == "bool" && b == "int")
/-- what K must say of the classes whose instances are asked -/
structure InsOk (K : PySem.W.Frag) (C : Addr) : Prop where
  cl : Cls K C
  ha : PySem.W.findIn K (.ref C) "__class__"
                                                                                                              = some (some (.builtin "object.__class__"))
  hn : PySem.W.specialIn K (.builtin "object.__class__")
                                                                                                              "__get__" = some (some (.builtin "getset_descriptor.__get__"))
  htk : PySem.W.takesIn K (.builtin
                                                                                                              "object.__class__") = some true
  hm : PySem.W.mroIn K C
                                                                                                              (.type "object") = some true
theorem Rep.tyX {K : PySem.W.Frag} {H : Hp} {d : D} {v : V} {n : String} (h : Rep K cl H d v) (e : tyN d = some n) : TyX K H v (.type n) := by
  cases h with
  | non => cases e; exact .base .non
  | bl => cases e; exact .base (.bl _)
  | int => cases e; exact .base (.int _)
  | str => cases e; exact .base (.str _)
  | tup h r =>
    cases e
    rcases h with (h | ⟨o, h⟩) | ⟨o, its, k, h1, h2, h3⟩
    · exact .base (.tup h)
    · exact .fTuple h
    · exact .kTuple h1 h2
  | lst h r => cases e; exact .base (.lst h)
  | scr h =>
    cases e
    rcases h with (h | ⟨o, h⟩) | ⟨o, its, k, h1, h2, h3⟩
    · exact .base (.lst h)
    · exact .base (.frz h)
    · exact .kList h1 h2
  | dct h l r => cases e; exact .base (.dK h)
  | dcT h l r => cases e; exact .base (.dT h)
  | obj h l r => cases e
/-- isinstance(x, T), T a built-in type: fO: which classes' instances are asked besides -/
def isiTy (cs : List Str) (T : String) (d : D) : Option Bool := match d with
  | .obj c _ _ => if c ∈ cs then some false else none
  | d => (tyN d).map fun n => isTy n T
def kinds : List String := ["NoneType", "bool", "int", "str", "tuple", "list", "dict"]
theorem tyN_in {d : D} {n : String} (h : tyN d = some n) : n ∈ kinds := by
  cases d <;> simp only [tyN] at h <;> first | (cases h; decide) | cases h
theorem kinds_ty : ∀ T ∈ ["str", "int", "bool", "tuple", "list", "dict"], ∀ n ∈ kinds, kitB n T = some (isTy n T) := by decide +kernel
def cIsT (cs : List Str) (T : String) (f : M R) : M R := fun e => (f e).bnd fun r e1 => opt (((e1.rd r).bind (isiTy cs T)).map D.bl) e1
structure ClsX (K : PySem.W.Frag) (cl : Str → Addr) (cs : List Str) : Prop where
  ins : ∀ c ∈ cs, InsOk K (cl c)
  ty : ∀ c ∈ cs, ∀ T ∈ ["str", "int", "bool", "tuple", "list", "dict"], PySem.W.kitOne K (.ref (cl c)) (.type T) = some false
  no : ∀ c ∈ cs, ∀ n ∈ kinds, PySem.W.kitOne K (.type n) (.ref (cl c)) = some false
  own : ∀ c ∈ cs, ∀ c' ∈ cs, PySem.W.kitOne K (.ref (cl c)) (.ref (cl c')) = some (decide (c = c'))
theorem re_isT {a : Expr} {f : M R} {T : String} {x : Str} {p p2 pos : Pos} {cs : List Str} (hx : ClsX X.K cl cs) (h : RE X cl F W a f) (hg : Gl X "isinstance") (hm : X.mg "isinstance" = none) (hg2 : Gl X x) (hm2 : X.mg x = none) (hv : bootBuiltins x = some (.type T))
    (hT : T ∈ ["str", "int", "bool", "tuple", "list", "dict"]) (hn : x ≠ "__name__" := by decide) (hdb : (x == ("__debug__" : Str)) = false := by decide)
    (he : starEach [a, .Name x p2] X.env = (false, eval a X.env) :: starEach [.Name x p2] X.env := by rfl) (hpl : (backTo pos (starEach [.Name x p2] X.env)).any (·.1) = false := by rfl) :
    RE X cl F W (.Call (.Name "isinstance" p) [a, .Name x p2] [] pos) (cIsT cs T f) := by
  refine ⟨PE.imp (pe_callB call_isi hg hm (by decide +kernel) (pa_cons h.pe (pa_cons (pe_bltn (v := .ty T) hg2 hm2 hv rfl hn hdb) pa_nil) he) (by decide) (by decide) he hpl) fun σ H Q ⟨e, G, st, q⟩ => tD_then st q fun r e1 v H1 G1 s1 k1 r1 z => ?_⟩
  obtain ⟨dz, z1, z⟩ := post_opt z
  obtain ⟨b, hb, rfl⟩ := Option.map_eq_some_iff.mp z1
  obtain ⟨d, hd, hi⟩ := Option.bind_eq_some_iff.mp hb
  have rep := (s1.top r1 hd).rep s1.ret.gh
  have fin := z (.bl b) H1 G1 s1 k1 .bl
  cases d
  case obj c ns l =>
    simp only [isiTy] at hi
    split at hi
    · rename_i hc
      cases hi
      have i := hx.ins c hc
      cases rep with
      | obj h1 hl rl => exact ⟨_, _, _, _, false, rfl, .ty T, .base (.ins h1 i.cl i.ha i.hn i.htk i.hm), hx.ty c hc T hT, fin⟩
    · cases hi
  all_goals
    simp only [isiTy, tyN, Option.map_some, Option.some.injEq] at hi
    subst hi
    exact ⟨_, _, _, _, _, rfl, .ty T, rep.tyX rfl, kit_ty (kinds_ty T hT _ (by decide)), fin⟩
/-- isinstance(x, C), C a class of the program -/
def isiC (cs : List Str) (C : Str) (d : D) : Option Bool := match d with
  | .obj c _ _ => if c ∈ cs then some (decide (c = C)) else none
  | _ => some false
def cIsC (cs : List Str) (C : Str) (f : M R) : M R := fun e => (f e).bnd fun r e1 => opt (((e1.rd r).bind (isiC cs C)).map D.bl) e1
theorem re_isC {a : Expr} {f : M R} {x : Str} {p p2 pos : Pos} {cs : List Str} (hx : ClsX X.K cl cs) (hc : x ∈ cs) (h : RE X cl F W a f) (hg : Gl X "isinstance") (hm : X.mg "isinstance" = none) (hg2 : Gl X x) (hm2 : X.mg x = some (.ref (cl x)))
    (hdb : (x == ("__debug__" : Str)) = false := by decide)
    (he : starEach [a, .Name x p2] X.env = (false, eval a X.env) :: starEach [.Name x p2] X.env := by rfl) (hpl : (backTo pos (starEach [.Name x p2] X.env)).any (·.1) = false := by rfl) :
    RE X cl F W (.Call (.Name "isinstance" p) [a, .Name x p2] [] pos) (cIsC cs x f) := by
  refine ⟨PE.imp (pe_callB call_isi hg hm (by decide +kernel) (pa_cons h.pe (pa_cons (pe_glob (v := .ref (cl x)) hg2 hm2 rfl hdb) pa_nil) he) (by decide) (by decide) he hpl) fun σ H Q ⟨e, G, st, q⟩ => tD_then st q fun r e1 v H1 G1 s1 k1 r1 z => ?_⟩
  obtain ⟨dz, z1, z⟩ := post_opt z
  obtain ⟨b, hb, rfl⟩ := Option.map_eq_some_iff.mp z1
  obtain ⟨d, hd, hi⟩ := Option.bind_eq_some_iff.mp hb
  have rep := (s1.top r1 hd).rep s1.ret.gh
  have fin := z (.bl b) H1 G1 s1 k1 .bl
  cases d
  case obj c ns l =>
    simp only [isiC] at hi
    split at hi
    · rename_i hc'
      cases hi
      have i := hx.ins c hc'
      cases rep with
      | obj h1 hl rl => exact ⟨_, _, _, _, _, rfl, .own _, .base (.ins h1 i.cl i.ha i.hn i.htk i.hm), hx.own c hc' x hc, fin⟩
    · cases hi
  all_goals
    simp only [isiC, Option.some.injEq] at hi
    subst hi
    exact ⟨_, _, _, _, _, rfl, .own _, rep.tyX rfl, hx.no x hc _ (by decide), fin⟩
end
end DL

namespace DL
open PySem L2 PySem.Spec PyProof.Rows

section
variable {K : PySem.W.Frag} {cl : Str → Addr} {F : Fra} {e e' : Env} {σ : L2.St} {H G H' G' : Hp}
/-- what slot i owns is changed -/
theorem Stt.put (st : Stt K cl F e σ H G) {i : Nat} {a : Addr} {x d : D} {o : HO} (hs : σ[i]? = some (some (.ref a))) (hd : e.rd (.whole i) = some d) (hp : e.put i x = some e') (ho : ∀ H', H' a = some o → Own K cl H' G a x) : Stt K cl F e' σ (upd H a o) G ∧ Kp F σ e H G e' (upd H a o) G := by
  obtain ⟨a', ea, ga, oa⟩ := st.lent hs hd
  cases ea
  refine st.calledJ hs ⟨fun b u q => ?_, .refl _, ⟨rfl, by simp, fun k b y h1 h2 => ?_⟩, fun b u q hn => ?_, fun b u _ g => g⟩ hp
  · have nb : b ≠ a := fun z => by rw [z, ga] at q; cases q
    rw [upd_ne nb]; exact st.ret.gh b u q
  · cases k with
    | zero => cases h1; cases h2; exact ⟨ga, ho _ upd_same⟩
    | succ k => simp at h1
  · have nb : b ≠ a := by simpa using hn
    rw [upd_ne nb]; exact q
theorem frz_rd {r : R} {d : D} (h : e.frz r = some (d, e')) : e.rd r = some d := by
  cases r with
  | val d' => cases h; rfl
  | whole i =>
    have h : (match e.s[i]? with
      | some (.own d) => some (d, e.setS i (.dat d))
      | _ => none) = some (d, e') := h
    cases q : e.s[i]? with
    | none => rw [q] at h; cases h
    | some y =>
      rw [q] at h
      cases y with
      | own d' =>
        cases h
        show (match e.s[i]? with
          | some (.own d) => some d
          | some (.jar k) => e.j[k]?
          | _ => none) = some d
        rw [q]
      | _ => cases h
end

/-! ### lists that a name owns: append, pop, a place stored -/
def isLst : Option D → Bool
  | some (.lst _) => true
  | _ => false
def appO (i : Nat) (o : Option (D × Env)) : Out R := match o with
  | some (d, e2) => (match e2.rd (.whole i) with
    | some (.lst l) => if l.length < sizeLine then outE (e2.put i (.lst (l ++ [d]))) fun e3 => .ok (.val .non) e3 else .bad
    | _ => .bad)
  | none => .bad
def cApp (i : Nat) (f : M R) : M R := fun e => if isLst (e.rd (.whole i)) then (f e).bnd fun r e1 => appO i (e1.frz r) else .bad
def cPop (i : Nat) : M R := fun e => match e.rd (.whole i) with
    | some (.lst l) => (match l.getLast? with
      | some d => outE (e.put i (.lst l.dropLast)) fun e3 => .ok (.val d) e3
      | none => .bad)
    | _ => .bad
section
variable {X : Cx} {cl : Str → Addr} {F : Fra} {W : WX}
theorem outE_ok {α : Type} {K : PySem.W.Frag} {σ : L2.St} {o : Option Env} {k : Env → Out α} {q : α → Env → Prop} (h : Post K cl F W σ (outE o k) q) : ∃ e, o = some e ∧ Post K cl F W σ (k e) q := by
  cases o with
  | some e => exact ⟨e, rfl, h⟩
  | none => exact h.elim
/-- slot i holds a reference, and what it owns or was lent -/
theorem Stt.ref_at {K : PySem.W.Frag} {e : Env} {σ : L2.St} {H G : Hp} (st : Stt K cl F e σ H G) {i : Nat} {d : D} (hd : e.rd (.whole i) = some d) : ∃ a, σ[i]? = some (some (.ref a)) ∧ Own K cl H G a d := by
  have hd' : (match e.s[i]? with
    | some (.own d) => some d
    | some (.jar k) => e.j[k]?
    | _ => none) = some d := hd
  cases q : e.s[i]? with
  | none => rw [q] at hd'; cases hd'
  | some y =>
    have z := st.slot i y q
    cases y with
    | un => rw [q] at hd'; cases hd'
    | dat d => rw [q] at hd'; cases hd'
    | own d' =>
      obtain ⟨a, h1, _⟩ := z
      obtain ⟨a', e1, _, o⟩ := st.lent h1 hd
      cases e1
      exact ⟨a, h1, o⟩
    | jar k =>
      obtain ⟨a, _, h1⟩ := z
      obtain ⟨a', e1, _, o⟩ := st.lent h1 hd
      cases e1
      exact ⟨a, h1, o⟩
theorem re_app (i : Nat) {x : Str} {a : Expr} {f : M R} {p apos cpos : Pos} (h : RE X cl F W a f) (hN : X.N[i]? = some x := by rfl) (hv : Vis X.env.scope x := by first | exact Or.inl rfl | exact Or.inr (Or.inl rfl) | exact Or.inr (Or.inr rfl)) (hd : (x == ("__debug__" : Str)) = false := by decide)
    (hcd : (x == ("__classdict__" : Str)) = false := by decide)
    (hbase : attributeBase (.Name x p) "append" X.env (eval (.Name x p) X.env) = eval (.Name x p) X.env := by rfl)
    (hfew : ((backTo cpos (starEach [a] X.env)).all (fun x => !x.1) && (backToKw cpos (keywordEach [] X.env)).all (fun x => x.1.isSome)
      && decide ([a].length + ([] : List Keyword).length + (if ([] : List Keyword).isEmpty then 0 else 1) < 30)) = true := by rfl)
    (hline : (apos.endLine == cpos.line) = true := by rfl) (hs : starEach [a] X.env = (false, eval a X.env) :: starEach [] X.env := by rfl) (hplain : (backTo cpos (starEach [] X.env)).any (·.1) = false := by rfl) :
    RE X cl F W (.Call (.Attribute (.Name x p) "append" apos) [a] [] cpos) (cApp i f) := by
  refine ⟨PE.imp (pe_bm PySem.F.plainAttrs_list PySem.F.slot_list_append PySem.F.type_list_append mt_append (pe_var hN hv hd hcd) (pa_cons h.pe pa_nil hs) hbase hfew hline hs hplain) fun σ H Q ⟨e, G, st, q⟩ => ?_⟩
  unfold cApp at q
  split at q
  · rename_i hl
    cases h0 : e.rd (.whole i) with
    | none => rw [h0] at hl; cases hl
    | some d0 =>
      obtain ⟨a0, hs0, o0⟩ := st.ref_at h0
      cases d0 with
      | lst l0 =>
        obtain ⟨us0, hu0, _⟩ := o0
        refine ⟨_, hs0, .inl ⟨rfl, us0, SqL.of hu0⟩, tD_then st q fun r e1 v H1 G1 s1 k1 r1 z => ?_⟩
        cases y : e1.frz r with
        | none => rw [y] at z; exact z.elim
        | some p =>
          obtain ⟨dv, e2⟩ := p
          rw [y] at z
          obtain ⟨G2, s2, k2, r2⟩ := frz_ok s1 r1 y
          simp only [appO] at z
          cases h2 : e2.rd (.whole i) with
          | none => rw [h2] at z; exact z.elim
          | some d2 =>
            rw [h2] at z
            cases d2 with
            | lst l =>
              simp only at z
              split at z
              · rename_i hz
                obtain ⟨e3, hp, z⟩ := outE_ok z
                obtain ⟨a2, hs2, us, hu, ru⟩ := s2.ref_at h2
                rw [hs0] at hs2; cases hs2
                refine ⟨a0, us, v, rfl, rfl, hu, by rw [← ru.length]; exact hz, ?_⟩
                obtain ⟨s3, k3⟩ := s2.put (o := .lst (us ++ [v])) hs0 h2 hp fun H' h => ⟨us ++ [v], h, ru.append (.cons r2 .nil)⟩
                exact z _ _ _ s3 ((k1.trans k2).trans k3) .non
              · exact z.elim
            | _ => exact z.elim
      | _ => rw [h0] at hl; cases hl
  · exact q.elim
theorem RepL.last {K : PySem.W.Frag} {G : Hp} {ds : List D} {vs : List V} {d : D} (r : RepL K cl G ds vs) (h : ds.getLast? = some d) : ∃ v, vs[vs.length - 1]? = some v ∧ Rep K cl G d v := by
  rw [List.getLast?_eq_getElem?] at h
  obtain ⟨v, h1, h2⟩ := r.getD h
  rw [r.length] at h1
  exact ⟨v, h1, h2⟩
theorem re_pop (i : Nat) {x : Str} {p apos cpos : Pos} (hN : X.N[i]? = some x := by rfl) (hv : Vis X.env.scope x := by first | exact Or.inl rfl | exact Or.inr (Or.inl rfl) | exact Or.inr (Or.inr rfl)) (hd : (x == ("__debug__" : Str)) = false := by decide)
    (hcd : (x == ("__classdict__" : Str)) = false := by decide)
    (hbase : attributeBase (.Name x p) "pop" X.env (eval (.Name x p) X.env) = eval (.Name x p) X.env := by rfl) (hline : (apos.endLine == cpos.line) = true := by rfl) :
    RE X cl F W (.Call (.Attribute (.Name x p) "pop" apos) [] [] cpos) (cPop i) := by
  refine ⟨PE.imp (pe_bm0 PySem.F.plainAttrs_list PySem.F.slot_list_pop PySem.F.type_list_pop mt_pop (pe_var hN hv hd hcd) hbase hline) fun σ H Q ⟨e, G, st, q⟩ => ?_⟩
  unfold cPop at q
  cases h0 : e.rd (.whole i) with
  | none => rw [h0] at q; exact q.elim
  | some d0 =>
    rw [h0] at q
    obtain ⟨a0, hs0, o0⟩ := st.ref_at h0
    cases d0 with
    | lst l =>
      simp only at q
      obtain ⟨us, hu, ru⟩ := o0
      cases hl : l.getLast? with
      | none => simp only [hl] at q; exact q.elim
      | some d =>
        simp only [hl] at q
        obtain ⟨e3, hp, z⟩ := outE_ok q
        obtain ⟨v, hv, rv⟩ := ru.last hl
        obtain ⟨s3, k3⟩ := st.put (o := .lst us.dropLast) hs0 h0 hp fun H' h => ⟨us.dropLast, h, ru.dropLast⟩
        exact ⟨_, hs0, .inl ⟨rfl, us, SqL.of hu⟩, a0, us, v, rfl, rfl, hu, hv, z v _ _ s3 k3 rv⟩
    | _ => exact q.elim
/-- x[k] = e, x a name -/
def setO (i : Nat) (k : Int) (d : D) (e : Env) : Out Fl := match e.rd (.whole i) with
  | some (.lst l) => (match ixN l.length k with
    | some j => outE (e.put i (.lst (l.set j d))) fun e3 => .ok .nx e3
    | none => .bad)
  | _ => .bad
def setK (i : Nat) (d : D) (rk : R) (e : Env) : Out Fl := match rk with
  | .val (.int k) => setO i k d e
  | _ => .bad
def setV (i : Nat) (fk : M R) (o : Option (D × Env)) : Out Fl := match o with
  | some (d, e2) => if isLst (e2.rd (.whole i)) then (fk e2).bnd fun rk e3 => setK i d rk e3 else .bad
  | none => .bad
def sSetIx (i : Nat) (fk fv : M R) : M Fl := fun e => (fv e).bnd fun r e1 => setV i fk (e1.frz r)
theorem rs_setIx (i : Nat) {x : Str} {a b : Expr} {fk fv : M R} {p pos pos' : Pos} (hk : RE X cl F W a fk) (hv : RE X cl F W b fv) (hN : X.N[i]? = some x := by rfl) (hvis : Vis X.env.scope x := by first | exact Or.inl rfl | exact Or.inr (Or.inl rfl) | exact Or.inr (Or.inr rfl)) (hd : (x == ("__debug__" : Str)) = false := by decide)
    (hcd : (x == ("__classdict__" : Str)) = false := by decide)
    (ha : ∀ v, assign (.Subscript (.Name x p) a pos') X.env v = (do
      let ov ← holding [v] (eval (.Name x p) X.env)
      let iv ← holding [v, ov] (eval a X.env)
      standAt pos'
      holding [v, ov, iv]
                                                                                                              (setItem ov iv v)
      release [v, ov, iv] []) := by intro _; rfl)
    (hs : swapsWithSole [.Subscript (.Name x p) a pos'] b pos.line X.env = pure false := by rfl) (hw : swappedStores [.Subscript (.Name x p) a pos'] b X.env = pure none := by rfl)
    (h1 : (assignEach [.Subscript (.Name x p) a pos'] X.env).map (·.2) = [assign (.Subscript (.Name x p) a pos') X.env] := by rfl) :
    RS X cl F W (.Assign [.Subscript (.Name x p) a pos'] b pos) (sSetIx i fk fv) := by
  refine ⟨PS.imp (ps_asg hv.pe (pg_sub (pe_var hN hvis hd hcd) hk.pe set_list ha) hs hw h1) fun D σ H ⟨e, G, st, q⟩ => tD_st st q fun r e1 v H1 G1 s1 k1 r1 z => ?_⟩
  cases y : e1.frz r with
  | none => rw [y] at z; exact z.elim
  | some p =>
    obtain ⟨dv, e2⟩ := p
    rw [y] at z
    obtain ⟨G2, s2, k2, r2⟩ := frz_ok s1 r1 y
    simp only [setV] at z
    split at z
    · rename_i hl
      cases h0 : e2.rd (.whole i) with
      | none => rw [h0] at hl; cases hl
      | some d0 =>
        obtain ⟨a0, hs0, o0⟩ := s2.ref_at h0
        refine ⟨_, hs0, tD_st s2 (z.mono k2.gg) fun rk e3 vk H3 G3 s3 k3 r3 z => ?_⟩
        cases rk with
        | whole j => exact z.elim
        | val dk =>
          cases dk with
          | int k =>
            cases r3
            simp only [setK, setO] at z
            cases h3 : e3.rd (.whole i) with
            | none => rw [h3] at z; exact z.elim
            | some d3 =>
              rw [h3] at z
              cases d3 with
              | lst l =>
                simp only at z
                obtain ⟨a3, hs3, us, hu, ru⟩ := s3.ref_at h3
                rw [hs0] at hs3; cases hs3
                cases hj : ixN l.length k with
                | none => simp only [hj] at z; exact z.elim
                | some j =>
                  simp only [hj] at z
                  cases hp : e3.put i (.lst (l.set j dv)) with
                  | none => rw [hp] at z; exact z.elim
                  | some e4 =>
                    rw [hp] at z
                    have r4 := r2.mono k3.gg
                    obtain ⟨s4, k4⟩ := s3.put (o := .lst (us.set j v)) hs0 h3 hp fun H' h => ⟨us.set j v, h, RepL.set r4 j ru⟩
                    refine ⟨a0, us, k, j, rfl, rfl, hu, by rw [← ru.length]; exact hj, ?_⟩
                    exact z σ _ _ s4 (.refl _)
              | _ => exact z.elim
          | _ => exact z.elim
    · exact z.elim

/-! ### new lists that a name is to own -/
def tFr (K : PySem.W.Frag) (cl : Str → Addr) (F : Fra) (W : WX) (f : M D) : TE := fun σ H Q => ∃ e G, Stt K cl F e σ H G ∧ Post K cl F W σ (f e) fun d e' => ∀ a H' G', Stt K cl F e' σ H' G' → Kp F σ e H G e' H' G' → Own K cl H' G' a d → G' a = none → F.H0 a = none → Loose F e' σ a →
  (∀ b o, H b = some o → Loose F e σ b → b ≠ a) → Q (.ref a) H'
structure RF (X : Cx) (cl : Str → Addr) (F : Fra) (W : WX) (x : Expr) (f : M D) : Prop where
  pe : PE X x (tFr X.K cl F W f)
/-- behind a new object -/
theorem Stt.new {K : PySem.W.Frag} {e e1 : Env} {σ : L2.St} {H G H1 G1 : Hp} {p : Addr} {o : HO} (s1 : Stt K cl F e1 σ H1 G1) (k : Kp F σ e H G e1 H1 G1) (hp : H1 p = none) :
    Stt K cl F e1 σ (upd H1 p o) G1 ∧ Kp F σ e H G e1 (upd H1 p o) G1 ∧ G1 p = none ∧ F.H0 p = none ∧ Loose F e1 σ p ∧ ∀ b u, H b = some u → Loose F e σ b → b ≠ p := by
  obtain ⟨l, h0⟩ := s1.fresh hp
  refine ⟨s1.layL hp, k.trans ⟨.refl _, fun b u q _ => ⟨by rw [upd_ne (ne_of_none q hp)]; exact q, fun g => g⟩, fun i d h => ⟨d, h⟩⟩, s1.ret.gh.free hp, h0, l, fun b u q lb => ?_⟩
  obtain ⟨q1, _⟩ := k.kp b u q lb
  exact ne_of_none q1 hp
def fLst (f : M (List R)) : M D := fun e => (f e).bnd fun rs e1 => match e1.frzs rs with
  | some (ds, e2) => if ds.length ≤ sizeLine then .ok (.lst ds) e2 else .bad
  | none => .bad
theorem rf_lst {xs : List Expr} {f : M (List R)} {pos} (h : RA X cl F W xs f) : RF X cl F W (.List xs pos) (fLst f) := by
  refine ⟨PE.imp (pe_lst h.pa) fun σ H Q ⟨e, G, st, q⟩ => tA_then st q fun rs e1 vs H1 G1 s1 k1 r1 z => ?_⟩
  cases y : e1.frzs rs with
  | none => rw [y] at z; exact z.elim
  | some p =>
    obtain ⟨ds, e2⟩ := p
    rw [y] at z
    obtain ⟨G2, s2, k2, r2⟩ := frzs_ok s1 r1 y
    by_cases hz : ds.length ≤ sizeLine
    · simp only [hz, if_true] at z
      refine ⟨by rw [← r2.length]; exact hz, fun p hp => ?_⟩
      obtain ⟨a1, a2, a3, a4, a5, a6⟩ := s2.new (o := .lst vs) (k1.trans k2) hp
      exact z p _ G2 a1 a2 ⟨vs, upd_same, r2⟩ a3 a4 a5 a6
    · simp only [hz, if_false] at z; exact z.elim
def fAddO (a b : Option D) (e : Env) : Out D := match a, b with
  | some (.lst x), some (.lst y) => if x.length + y.length ≤ sizeLine then .ok (.lst (x ++ y)) e else .bad
  | _, _ => .bad
def fAdd (fa fb : M R) : M D := fun e => (fa e).bnd fun x e1 => (fb e1).bnd fun y e2 => fAddO (e2.rd x) (e2.rd y) e2
theorem rf_add {a b : Expr} {fa fb : M R} {pos : Pos} (ha : RE X cl F W a fa) (hb : RE X cl F W b fb) : RF X cl F W (.BinOp a .Add b pos) (fAdd fa fb) := by
  refine ⟨PE.imp (pe_op op_cat ha.pe hb.pe) fun σ H Q ⟨e, G, st, q⟩ => tD_then st q fun x e1 v1 H1 G1 s1 k1 r1 z => tD_then s1 z fun y e2 v2 H2 G2 s2 k2 r2 z => ?_⟩
  simp only [fAddO] at z
  split at z
  · rename_i x' y' hx hy
    split at z
    · rename_i hz
      obtain ⟨p1, u1, rfl, h1, q1⟩ := (s2.top (r1.mono k2.gg) hx).lst s2.ret.gh
      obtain ⟨p2, u2, rfl, h2, q2⟩ := (s2.top r2 hy).lst s2.ret.gh
      refine ⟨p1, p2, u1, u2, rfl, rfl, h1, h2, by rw [← q1.length, ← q2.length]; exact hz, fun p hp => ?_⟩
      obtain ⟨a1, a2, a3, a4, a5, a6⟩ := s2.new (o := .lst (u1 ++ u2)) (k1.trans k2) hp
      exact z p _ G2 a1 a2 ⟨u1 ++ u2, upd_same, q1.append q2⟩ a3 a4 a5 a6
    · exact z.elim
  · exact z.elim
def fListO (a : Option D) (e : Env) : Out D := match a with
  | some (.lst x) => .ok (.lst x) e
  | some (.tup x) => .ok (.lst x) e
  | _ => .bad
def fList (fs : M (List R)) : M D := fun e => (fs e).bnd fun rs e1 => match rs with
  | [r] => fListO (e1.rd r) e1
  | _ => .bad
theorem rf_list {x : Str} {p pos : Pos} {a : Expr} {es : List Expr} {fs : M (List R)} (hg : Gl X x) (hm : X.mg x = none) (hv : bootBuiltins x = some (.type "list")) (ha : RA X cl F W (a :: es) fs)
    (hn : x ≠ "__name__" := by decide) (hdb : (x == ("__debug__" : Str)) = false := by decide) (he : starEach (a :: es) X.env = (false, eval a X.env) :: starEach es X.env := by rfl) (hpl : (backTo pos (starEach es X.env)).any (·.1) = false := by rfl) :
    RF X cl F W (.Call (.Name x p) (a :: es) [] pos) (fList fs) := by
  refine ⟨PE.imp (pe_callTy call_list_of hg hm hv ha.pa hn hdb he hpl) fun σ H Q ⟨e, G, st, q⟩ => tA_then st q fun rs e1 vs H1 G1 s1 k1 r1 z => ?_⟩
  match rs, r1, z with
  | [], _, z => exact z.elim
  | _ :: _ :: _, _, z => exact z.elim
  | [r], .cons (v := v) rr .nil, z =>
    cases hd : e1.rd r with
    | none => simp only [fListO, hd] at z; exact z.elim
    | some d =>
      simp only [fListO, hd] at z
      have t := s1.top rr hd
      cases d with
      | lst l =>
        obtain ⟨p1, u1, rfl, h1, q1⟩ := t.lst s1.ret.gh
        refine ⟨p1, u1, rfl, .inl (SqL.of h1), fun p hp => ?_⟩
        obtain ⟨a1, a2, a3, a4, a5, a6⟩ := s1.new (o := .lst u1) k1 hp
        exact z p _ G1 a1 a2 ⟨u1, upd_same, q1⟩ a3 a4 a5 a6
      | tup l =>
        obtain ⟨p1, u1, rfl, h1, q1⟩ := t.tup s1.ret.gh
        refine ⟨p1, u1, rfl, .inr h1, fun p hp => ?_⟩
        obtain ⟨a1, a2, a3, a4, a5, a6⟩ := s1.new (o := .lst u1) k1 hp
        exact z p _ G1 a1 a2 ⟨u1, upd_same, q1⟩ a3 a4 a5 a6
      | _ => exact z.elim
/-- slot i is to own what stands at a -/
theorem Stt.setOwn {K : PySem.W.Frag} {e : Env} {σ : L2.St} {H G : Hp} {i : Nat} {d : D} {a : Addr} (st : Stt K cl F e σ H G) (o : Own K cl H G a d) (g : G a = none) (h0 : F.H0 a = none) (l : Loose F e σ a) : Stt K cl F (e.setS i (.own d)) (σ.set i (some (.ref a))) H G := by
  obtain ⟨ret, jh, len, slot, inj⟩ := st
  have hset : ∀ {j : Nat} {x : S}, (e.setS i (.own d)).s[j]? = some x → (j = i ∧ i < e.s.length ∧ x = .own d) ∨ (j ≠ i ∧ e.s[j]? = some x) := fun {j x} h => by
    by_cases hj : j = i
    · subst hj
      have hl : j < (e.setS j (.own d)).s.length := (List.getElem?_eq_some_iff.mp h).1
      have hl' : j < e.s.length := by simpa [Env.setS] using hl
      have z : (e.setS j (.own d)).s[j]? = some (.own d) := List.getElem?_set_self hl'
      rw [z] at h; cases h; exact .inl ⟨rfl, hl', rfl⟩
    · rw [setS_ne hj] at h; exact .inr ⟨hj, h⟩
  have hσ : ∀ {j : Nat}, j ≠ i → (σ.set i (some (.ref a)))[j]? = σ[j]? := fun hj => List.getElem?_set_ne (Ne.symm hj)
  have hσi : i < e.s.length → (σ.set i (some (.ref a)))[i]? = some (some (.ref a)) := fun hl => List.getElem?_set_self (by rw [len]; exact hl)
  refine ⟨ret, jh, by simp [Env.setS, len], fun j x h => ?_, fun j k d1 d2 p k1 k2 k3 k4 => ?_⟩
  · rcases hset h with ⟨rfl, hl, rfl⟩ | ⟨hj, h⟩
    · exact ⟨a, hσi hl, g, h0, o⟩
    · have z := slot j x h
      cases x with
      | un => trivial
      | dat d1 => obtain ⟨v1, z1, z2⟩ := z; exact ⟨v1, by rw [hσ hj]; exact z1, z2⟩
      | own d1 => obtain ⟨p, z1, z2, z3, z4⟩ := z; exact ⟨p, by rw [hσ hj]; exact z1, z2, z3, z4⟩
      | jar k => obtain ⟨p, z1, z2⟩ := z; exact ⟨p, z1, by rw [hσ hj]; exact z2⟩
  · rcases hset k1 with ⟨e1, hl, _⟩ | ⟨h1, q1⟩
    · rcases hset k2 with ⟨e2, _, _⟩ | ⟨h2, q2⟩
      · rw [e1, e2]
      · rw [e1, hσi hl] at k3; cases k3
        rw [hσ h2] at k4
        exact absurd k4 (l.2 k d2 q2)
    · rcases hset k2 with ⟨e2, hl, _⟩ | ⟨h2, q2⟩
      · rw [e2, hσi hl] at k4; cases k4
        rw [hσ h1] at k3
        exact absurd k3 (l.2 j d1 q1)
      · rw [hσ h1] at k3; rw [hσ h2] at k4; exact inj j k d1 d2 p q1 q2 k3 k4
def sOwn (i : Nat) (f : M D) : M Fl := fun e => (f e).bnd fun d e1 => .ok .nx (e1.setS i (.own d))
theorem tFr_st {K : PySem.W.Frag} {fa : M D} {k : D → Env → Out Fl} {σ : L2.St} {H G : Hp} {e : Env} {En : Ends} {Q : VK} (st : Stt K cl F e σ H G) (h : PostF K cl F W En G ((fa e).bnd k))
    (c : ∀ d e1 a H1 G1, Stt K cl F e1 σ H1 G1 → Kp F σ e H G e1 H1 G1 → Own K cl H1 G1 a d → G1 a = none → F.H0 a = none → Loose F e1 σ a → (∀ b o, H b = some o → Loose F e σ b → b ≠ a) → PostF K cl F W En G1 (k d e1) → Q (.ref a) H1) : tFr K cl F W fa σ H Q := by
  refine ⟨e, G, st, ?_⟩
  cases q : fa e with
  | ok r e1 =>
    rw [q] at h
    exact fun a H1 G1 s1 k1 o g h0 l n => c r e1 a H1 G1 s1 k1 o g h0 l n (PostF.mono (o := k r e1) h k1.gg)
  | exn x e1 => rw [q] at h; exact Xn.of h
  | bad => rw [q] at h; exact h
theorem rs_own {i : Nat} {x : Str} {a : Expr} {f : M D} {pos pos' : Pos} (hN : X.N.Nodup) (h : RF X cl F W a f) (hi : X.N[i]? = some x := by rfl) (hx : Loc X.env.scope x := by first | exact Or.inl rfl | exact Or.inr rfl)
    (hs : swapsWith a (some (.Name x pos')) pos.line X.env = pure false := by rfl) (hf : X.fn x = true ∨ X.env.scope.names.lookup x = some .local := by first | exact .inl rfl | exact .inr rfl) : RS X cl F W (.Assign [.Name x pos'] a pos) (sOwn i f) := by
  refine ⟨PS.imp (ps_set hN hi hx h.pe hs hf) fun D σ H ⟨e, G, st, q⟩ => tFr_st st q fun d e1 a H1 G1 s1 k1 o g h0 l n z => ?_⟩
  exact z _ H1 G1 (s1.setOwn o g h0 l) (.refl _)

/-! ### a, b = x, y -/
inductive P where
  | v (d : D) | n (d : D)
def PRel (K : PySem.W.Frag) (cl : Str → Addr) (F : Fra) (σ : L2.St) (e : Env) (H G : Hp) : P → V → Prop
  | .v d, u => Rep K cl G d u
  | .n d, u => ∃ a, u = .ref a ∧ Own K cl H G a d ∧ G a = none ∧ F.H0 a = none ∧ Loose F e σ a
def tP (K : PySem.W.Frag) (cl : Str → Addr) (F : Fra) (W : WX) (f : M P) : TE := fun σ H Q => ∃ e G, Stt K cl F e σ H G ∧ Post K cl F W σ (f e) fun p e' => ∀ u H' G', Stt K cl F e' σ H' G' → Kp F σ e H G e' H' G' → PRel K cl F σ e' H' G' p u →
  (∀ d, p = .n d → ∀ b o, H b = some o → Loose F e σ b → u ≠ .ref b) → Q u H'
structure RP (X : Cx) (cl : Str → Addr) (F : Fra) (W : WX) (x : Expr) (f : M P) : Prop where
  pe : PE X x (tP X.K cl F W f)
def pFrz (o : Option (D × Env)) : Out P := match o with
  | some (d, e) => .ok (.v d) e
  | none => .bad
def pV (f : M R) : M P := fun e => (f e).bnd fun r e1 => pFrz (e1.frz r)
def pN (f : M D) : M P := fun e => (f e).bnd fun d e1 => .ok (.n d) e1
theorem rp_v {x : Expr} {f : M R} (h : RE X cl F W x f) : RP X cl F W x (pV f) := by
  refine ⟨PE.imp h.pe fun σ H Q ⟨e, G, st, q⟩ => tD_then st q fun r e1 v H1 G1 s1 k1 r1 z => ?_⟩
  cases y : e1.frz r with
  | none => rw [y] at z; exact z.elim
  | some p =>
    obtain ⟨dv, e2⟩ := p
    rw [y] at z
    obtain ⟨G2, s2, k2, r2⟩ := frz_ok s1 r1 y
    exact z v H1 G2 s2 (k1.trans k2) r2 (fun d h => by cases h)
theorem rp_n {x : Expr} {f : M D} (h : RF X cl F W x f) : RP X cl F W x (pN f) := by
  refine ⟨PE.imp h.pe fun σ H Q ⟨e, G, st, q⟩ => ⟨e, G, st, post_imp (post_bnd q) fun d e1 z a H1 G1 s1 k1 o g h0 l n => ?_⟩⟩
  exact z (.ref a) H1 G1 s1 k1 ⟨a, rfl, o, g, h0, l⟩ fun _ _ b u q lb z => n b u q lb (by cases z; rfl)
def P.s : P → S
  | .v d => .dat d
  | .n d => .own d
def sPar (i j : Nat) (f g : M P) : M Fl := fun e => (f e).bnd fun p e1 => (g e1).bnd fun q e2 => .ok .nx ((e2.setS i p.s).setS j q.s)
theorem PRel.mono {K : PySem.W.Frag} {σ : L2.St} {e e' : Env} {H G H' G' : Hp} {p : P} {u : V} (h : PRel K cl F σ e H G p u) (k : Kp F σ e H G e' H' G') : PRel K cl F σ e' H' G' p u := by
  cases p with
  | v d => exact Rep.mono k.gg h
  | n d =>
    obtain ⟨a, h1, h2, h3, h4, h5⟩ := h
    obtain ⟨o, q⟩ := h2.ex
    obtain ⟨q1, q2⟩ := k.kp a o q h5
    exact ⟨a, h1, h2.mono (fun u z => (k.kp a u z h5).1) k.gg, q2 h3, h4, k.loose h5⟩
theorem Stt.setP {K : PySem.W.Frag} {σ : L2.St} {e : Env} {H G : Hp} {p : P} {u : V} (st : Stt K cl F e σ H G) (h : PRel K cl F σ e H G p u) (i : Nat) : Stt K cl F (e.setS i p.s) (σ.set i (some u)) H G := by
  cases p with
  | v d => exact st.set h
  | n d => obtain ⟨a, rfl, h2, h3, h4, h5⟩ := h; exact st.setOwn h2 h3 h4 h5
theorem rs_par {i j : Nat} {x y : Str} {a b : Expr} {f g : M P} {px py pt pos : Pos} {kt k2 pt2} (hc : X.calm = true) (hN : X.N.Nodup) (ha : RP X cl F W a f) (hb : RP X cl F W b g)
    (hw : swappedStores [.Tuple [.Name x px, .Name y py] kt
                                                                                                              pt] (.Tuple [a, b] k2 pt2) X.env = pure (some [x, y]))
    (hi : X.N[i]? = some x := by rfl) (hj : X.N[j]? = some y := by rfl) (hij : i ≠ j := by decide)
    (hx : X.env.scope.names.lookup x = some .local := by rfl) (hy : X.env.scope.names.lookup y = some .local := by rfl)
    (hs : swapsWithSole [.Tuple [.Name x px, .Name y py] kt pt] (.Tuple [a, b] k2 pt2) pos.line X.env = pure false := by rfl)
    (h1 : starEach [a, b] X.env = (false, eval a X.env) :: starEach [b] X.env := by rfl) (h2 : starEach [b] X.env = (false, eval b X.env) :: starEach [] X.env := by rfl) :
    RS X cl F W (.Assign [.Tuple [.Name x px, .Name y py] kt pt] (.Tuple [a, b] k2 pt2) pos) (sPar i j f g) := by
  refine ⟨PS.imp (ps_par hc hN hi hj hij hx hy (pa_cons ha.pe (pa_cons hb.pe pa_nil h2) h1) hw hs) fun D σ H ⟨e, G, st, q⟩ => ⟨e, G, st, ?_⟩⟩
  cases hf : f e with
  | bad => simp only [sPar, hf] at q; exact q
  | exn x e1 => simp only [sPar, hf] at q; exact Xn.of q
  | ok p e1 =>
    simp only [sPar, hf] at q
    intro u H1 G1 s1 k1 r1 n1
    refine ⟨e1, G1, s1, ?_⟩
    cases hg : g e1 with
    | bad => simp only [Out.bnd, hg] at q; exact q
    | exn x e2 => simp only [Out.bnd, hg] at q; exact Xn.of q
    | ok p2 e2 =>
      simp only [Out.bnd, hg] at q
      intro u2 H2 G2 s2 k2 r2 n2
      refine ⟨u, u2, rfl, q _ H2 G2 ?_ (k1.gg.trans k2.gg)⟩
      have r1' := r1.mono k2
      have s3 := s2.setP r1' i
      refine s3.setP ?_ j
      cases p2 with
      | v d => exact r2
      | n d2 =>
        obtain ⟨b2, rfl, o2, g2, h02, l2⟩ := r2
        refine ⟨b2, rfl, o2, g2, h02, l2.1, fun k d hk hσ => ?_⟩
        by_cases hki : k = i
        · subst hki
          have hl : k < e2.s.length := by
            have := (List.getElem?_eq_some_iff.mp hk).1
            simpa [Env.setS] using this
          have e3 : (e2.setS k p.s).s[k]? = some p.s := List.getElem?_set_self hl
          rw [e3] at hk
          rw [List.getElem?_set_self (by rw [s2.len]; exact hl)] at hσ
          cases hσ
          cases p with
          | v d => cases hk
          | n d1 =>
            obtain ⟨b1, e4, o1, g1, h01, l1⟩ := r1
            cases e4
            obtain ⟨oo, qq⟩ := o1.ex
            exact n2 d2 rfl b2 oo qq l1 rfl
        · rw [setS_ne hki] at hk
          rw [List.getElem?_set_ne (Ne.symm hki)] at hσ
          exact l2.2 k d hk hσ
end
end DL

namespace DL
open PySem L2 PySem.Spec PyProof.Rows

section
variable {K : PySem.W.Frag} {cl : Str → Addr} {F : Fra} {e e' : Env} {σ : L2.St} {H G H' G' : Hp}
/-- behind a call that was lent a loose object alone -/
theorem Stt.calledL (st : Stt K cl F e σ H G) {a : Addr} {x : D} (l : Loose F e σ a) (h0 : F.H0 a = none) (r : Ret K cl ⟨H, G, [a]⟩ H' G' [x]) : Stt K cl F e σ H' G' ∧ ∀ b o, b ≠ a → H b = some o → H' b = some o ∧ (G b = none → G' b = none) := by
  have hk : ∀ {b : Addr} {o : HO}, b ≠ a → H b = some o → H' b = some o := fun {b o} n q => r.fr b o q (by simpa using n)
  have hg : ∀ {b : Addr} {o : HO}, H b = some o → G b = none → G' b = none := fun {b o} q n => r.fg b o q n
  obtain ⟨⟨gh, g0, jr, fr, fg⟩, jh, len, slot, inj⟩ := st
  refine ⟨⟨⟨r.gh, g0.trans r.g0, ⟨jr.len, jr.nd, fun k b d k1 k2 => ?_⟩, fun b o q hn => ?_, fun b o q hn => ?_⟩, jh, len, fun i y hy => ?_, inj⟩, fun b o n q => ⟨hk n q, fun g => hg q g⟩⟩
  · obtain ⟨q1, q2⟩ := jr.at_ k b d k1 k2
    obtain ⟨o, q3⟩ := q2.ex
    have nb : b ≠ a := fun z => l.1 (z ▸ List.mem_of_getElem? k1)
    exact ⟨hg q3 q1, q2.mono (fun o q => hk nb q) r.g0⟩
  · have nb : b ≠ a := fun z => by rw [z, h0] at q; cases q
    exact hk nb (fr b o q hn)
  · by_cases hp : b ∈ F.js
    · obtain ⟨k, hk'⟩ := List.getElem?_of_mem hp
      have hl : k < e.j.length := by rw [jr.len]; exact (List.getElem?_eq_some_iff.mp hk').1
      obtain ⟨q1, q2⟩ := jr.at_ k b _ hk' (List.getElem?_eq_getElem hl)
      obtain ⟨o, q3⟩ := q2.ex
      exact hg q3 q1
    · exact hg (fr b o q hp) (fg b o q hn)
  · have z := slot i y hy
    cases y with
    | un => trivial
    | dat d => obtain ⟨v, z1, z2⟩ := z; exact ⟨v, z1, z2.mono r.g0⟩
    | own d =>
      obtain ⟨b, z1, z2, z3, z4⟩ := z
      obtain ⟨o, q3⟩ := z4.ex
      have nb : b ≠ a := fun w => l.2 i d hy (w ▸ z1)
      exact ⟨b, z1, hg q3 z2, z3, z4.mono (fun o q => hk nb q) r.g0⟩
    | jar k => exact z
end

/-! ### fields, properties, methods -/
def lookD (f : Str) : List Str → List D → Option D
  | n :: ns, d :: ds => if n = f then some d else lookD f ns ds
  | _, _ => none
def fldD (cs : List Str) (f : Str) : D → Option D
  | .obj c ns l => if c ∈ cs then lookD f ns l else none
  | _ => none
def cFld (cs : List Str) (f : Str) (g : M R) : M R := fun e => (g e).bnd fun r e1 => opt ((e1.rd r).bind (fldD cs f)) e1
/-- the object of class c that r is, as data -/
def isObjC (c : Str) : D → Bool
  | .obj c' _ _ => decide (c' = c)
  | _ => false
def propO (c : Str) (Φ : Fn) (o : Option (D × Env)) : Out R := match o with
  | some (d, e) => if isObjC c d then callO e (Φ [.dat d] []) else .bad
  | none => .bad
def cProp (c : Str) (Φ : Fn) (g : M R) : M R := fun e => (g e).bnd fun r e1 => propO c Φ (e1.frz r)
def hasN (m : Str) : D → Bool
  | .obj _ ns _ => ns.contains m
  | _ => true
/-- o.m(..) of an object of class c; data alone -/
def methO (c m : Str) (Φ : Fn) (o : Option (D × Env)) (fs : M (List R)) : Out R := match o with
  | some (d, e) => if isObjC c d && !hasN m d then (fs e).bnd fun rs e1 => (match e1.frzs rs with
    | some (ds, e2) => callO e2 (Φ (.dat d :: ds.map A.dat) [])
    | none => .bad) else .bad
  | none => .bad
def cMeth (c m : Str) (Φ : Fn) (g : M R) (fs : M (List R)) : M R := fun e => (g e).bnd fun r e1 => methO c m Φ (e1.frz r) fs
/-- the wish hangs on no slots -/
def SI (W : WX) : Prop := ∀ c d σ σ' H, W c d σ H → W c d σ' H
section
variable {X : Cx} {cl : Str → Addr} {F : Fra} {W : WX}
theorem lookup_zip {K : PySem.W.Frag} {G : Hp} {f : Str} : ∀ {ns : List Str} {l : List D} {vs : List V} {d : D}, lookD f ns l = some d → RepL K cl G l vs → ∃ v, (ns.zip vs).lookup f = some v ∧ Rep K cl G d v
  | [], _, _, _, h, _ => by cases h
  | _ :: _, [], _, _, h, _ => by cases h
  | n :: ns, x :: l, _, d, h, .cons (v := v) (vs := vs) r t => by
    by_cases hn : n = f
    · subst hn
      have h : (if n = n then some x else lookD n ns l) = some d := h
      rw [if_pos rfl] at h
      cases h
      exact ⟨v, by simp, r⟩
    · have h : (if n = f then some x else lookD f ns l) = some d := h
      rw [if_neg hn] at h
      obtain ⟨v', h1, h2⟩ := lookup_zip h t
      have hb : (f == n) = false := beq_eq_false_iff_ne.mpr fun z => hn z.symm
      exact ⟨v', by show List.lookup f ((n, v) :: ns.zip vs) = _; simp only [List.lookup, hb]; exact h1, h2⟩
theorem lookup_zip_none {α : Type} {f : Str} : ∀ {ns : List Str} {vs : List α}, ns.contains f = false → (ns.zip vs).lookup f = none
  | [], _, _ => rfl
  | _ :: _, [], _ => rfl
  | n :: ns, v :: vs, h => by
    simp only [List.contains_cons, Bool.or_eq_false_iff] at h
    show List.lookup f ((n, v) :: ns.zip vs) = none
    simp only [List.lookup, h.1]
    exact lookup_zip_none h.2
theorem Top.obj {K : PySem.W.Frag} {H G : Hp} {c : Str} {ns : List Str} {l : List D} {v : V} (g : Same G H) (h : Top K cl H G (.obj c ns l) v) : ∃ a dx vs, v = .ref a ∧ H a = some (.ins (cl c) dx (ns.zip vs)) ∧ ns.length = vs.length ∧ RepL K cl G l vs := by
  rcases h with h | ⟨a, rfl, hn, dx, vs, h1, h3, h2⟩
  · cases h with
    | obj h l r => exact ⟨_, _, _, rfl, g _ _ h, l, r⟩
  · exact ⟨_, dx, vs, rfl, h1, h3, h2⟩
theorem re_fld {a : Expr} {f : Str} {g : M R} {pos : Pos} {cs : List Str} (hc : ∀ c ∈ cs, Cls X.K (cl c) ∧ NoAttr X.K (cl c) f) (h : RE X cl F W a g) (hb : attributeBase a f X.env (eval a X.env) = eval a X.env := by rfl) : RE X cl F W (.Attribute a f pos) (cFld cs f g) := by
  refine ⟨PE.imp (pe_fld h.pe hb) fun σ H Q ⟨e, G, st, q⟩ => tD_then st q fun r e1 v H1 G1 s1 k1 r1 z => ?_⟩
  obtain ⟨dz, z1, z⟩ := post_opt z
  obtain ⟨d, hd, hf⟩ := Option.bind_eq_some_iff.mp z1
  have t := s1.top r1 hd
  cases d with
  | obj c ns l =>
    simp only [fldD] at hf
    split at hf
    · rename_i hm
      obtain ⟨a, dx, vs, rfl, h1, hl, rl⟩ := t.obj s1.ret.gh
      obtain ⟨v', h2, h3⟩ := lookup_zip hf rl
      exact ⟨a, _, dx, _, v', rfl, h1, (hc c hm).1, (hc c hm).2, h2, z v' H1 G1 s1 k1 h3⟩
    · cases hf
  | _ => cases hf
theorem isObjC_inv {c : Str} {d : D} (h : isObjC c d = true) : ∃ ns l, d = .obj c ns l := by
  cases d with
  | obj c' ns l =>
    have e : c' = c := of_decide_eq_true h
    subst e
    exact ⟨ns, l, rfl⟩
  | _ => cases h
/-- a call of a def, data alone, by the state -/
theorem callO_D {Φ : Fn} {ds : List D} {vs : List V} {σ : L2.St} {H G : Hp} {e : Env} {q : R → Env → Prop} {Q : VK} {E : XK} (st : Stt X.K cl F e σ H G) (r : RepL X.K cl G ds vs) (h : Post X.K cl F W σ (callO e (Φ (ds.map A.dat) [])) q)
    (hQ : ∀ d v H' G', Stt X.K cl F e σ H' G' → Kp F σ e H G e H' G' → Rep X.K cl G' d v → q (.val d) e → Q v H') (hE : ∀ c d H', W c d σ H' → E c d H') : spD X.K cl Φ vs H Q E := by
  refine ⟨ds.map A.dat, [], [], G, st.ret.gh, argsOk_dat r, ⟨rfl, List.nodup_nil, fun k a d h => by simp at h⟩, ?_⟩
  cases o : Φ (ds.map A.dat) [] with
  | bad => rw [o] at h; exact h.elim
  | ok d j =>
    rw [o] at h
    cases j with
    | cons => exact h.elim
    | nil =>
      intro v H' G' r rv
      obtain ⟨s3, k3⟩ := st.called r
      exact hQ d v H' G' s3 k3 rv h
  | exn x j =>
    rw [o] at h
    cases j with
    | cons => exact h.elim
    | nil =>
      intro cls dd H' G' r ex
      obtain ⟨s3, k3⟩ := st.called r
      exact hE _ _ _ (h cls dd H' G' s3 ex)
variable {k : Nat} {f pr : Addr} {fd : FuncData} {ps : List Str} {Φ : Fn} {c m : Str} {a : Expr} {es : List Expr} {g : M R} {fs : M (List R)} {pos apos : Pos}
theorem re_prop (hc : Cls X.K (cl c)) (hp : PropOf X.K (cl c) m pr f) (Fn : FnOk X.prog X.w X.K X.mg X.base (L2.CX X.prog X.w) k f fd ps (spD X.K cl Φ)) (hr : Room (k + 1) X.A) (hb : Binds X.K fd ps []) (hnx : ∀ d x j, Φ [.dat d] [] ≠ .exn x j)
    (h : RE X cl F W a g) (hab : attributeBase a m X.env (eval a X.env) = eval a X.env := by rfl) : RE X cl F W (.Attribute a m pos) (cProp c Φ g) := by
  refine ⟨PE.imp (pe_prop (E := E0) (dvs := []) h.pe hc hp Fn hr hb .nil passL hab) fun σ H Q ⟨e, G, st, q⟩ => tD_then st q fun r e1 v H1 G1 s1 k1 r1 z => ?_⟩
  cases y : e1.frz r with
  | none => rw [y] at z; exact z.elim
  | some p =>
    obtain ⟨d, e2⟩ := p
    rw [y] at z
    obtain ⟨G2, s2, k2, r2⟩ := frz_ok s1 r1 y
    simp only [propO] at z
    split at z
    · rename_i hi
      obtain ⟨ns, l, rfl⟩ := isObjC_inv hi
      have r2' := r2
      cases r2 with
      | obj h1 hl rl =>
        refine ⟨_, _, _, rfl, s2.ret.gh _ _ h1, ?_⟩
        refine callO_D (Φ := Φ) (W := fun _ _ _ _ => False) (E := E0) (ds := [.obj c ns l]) (q := fun r e' => ∀ v H' G', Stt X.K cl F e' σ H' G' → Kp F σ e H G e' H' G' → RR X.K cl σ G' r v → Q v H') s2 (.cons r2' .nil) ?_ (fun d v H' G' s3 k3 rv hq => hq v H' G' s3 ((k1.trans k2).trans k3) rv) (fun _ _ _ z => z)
        cases o : Φ ([D.obj c ns l].map A.dat) [] with
        | bad => rw [show Φ [.dat (.obj c ns l)] [] = _ from o] at z; exact z.elim
        | exn x j => exact (hnx _ _ _ o).elim
        | ok d j =>
          rw [show Φ [.dat (.obj c ns l)] [] = _ from o] at z
          cases j with
          | cons => exact z.elim
          | nil => exact z
    · exact z.elim
theorem re_meth (hc : Cls X.K (cl c)) (hm : Meth X.K (cl c) m f) (Fn : FnOk X.prog X.w X.K X.mg X.base (L2.CX X.prog X.w) k f fd ps (spD X.K cl Φ)) (hr : Room k X.A) (tk : Takes X W) (hW : SI W) (hb : Binds X.K fd ps [])
    {x : Expr} {xs : List Expr} (h : RE X cl F W a g) (ha : RA X cl F W (x :: xs) fs) {pl : Sem Bool} (hst : starEach (x :: xs) X.env = (false, eval x X.env) :: starEach xs X.env := by rfl) (hpl : (backTo pos (starEach xs X.env)).any (·.1) = false := by rfl)
    (ht : eval (.Call (.Attribute a m apos) (x :: xs) [] pos) X.env = (do
      let ov ← eval a X.env
      standAt apos.atName
      let (f, first) ← holding
                                                                                                              [ov] (getMethod ov m pl)
      callWith pos f first (backTo pos (starEach (x :: xs) X.env)) (backToKw pos (keywordEach [] X.env))) := by rfl) : RE X cl F W (.Call (.Attribute a m apos) (x :: xs) [] pos) (cMeth c m Φ g fs) := by
  refine ⟨PE.imp (pe_meth (pl := pl) (E := fun c d H => ∃ σ, W c d σ H) (dvs := []) h.pe hc hm Fn hr hb .nil (passes_call tk fun c d σ H ⟨σ', z⟩ => hW c d σ' σ H z) ha.pa hst hpl ht) fun σ H Q ⟨e, G, st, q⟩ => tD_then st q fun r e1 v H1 G1 s1 k1 r1 z => ?_⟩
  cases y : e1.frz r with
  | none => rw [y] at z; exact z.elim
  | some p =>
    obtain ⟨d, e2⟩ := p
    rw [y] at z
    obtain ⟨G2, s2, k2, r2⟩ := frz_ok s1 r1 y
    simp only [methO] at z
    split at z
    · rename_i hi
      obtain ⟨hi1, hi2⟩ := Bool.and_eq_true_iff.mp hi
      obtain ⟨ns, l, rfl⟩ := isObjC_inv hi1
      have r2' := r2
      cases r2 with
      | obj h1 hl rl =>
        refine ⟨_, _, _, rfl, s2.ret.gh _ _ h1, lookup_zip_none (by simpa [hasN] using hi2), tA_then s2 z fun rs e3 vs H3 G3 s3 k3 r3 z => ?_⟩
        rw [List.append_nil]
        cases y3 : e3.frzs rs with
        | none => rw [y3] at z; exact z.elim
        | some p3 =>
          obtain ⟨ds, e4⟩ := p3
          rw [y3] at z
          obtain ⟨G4, s4, k4, r4⟩ := frzs_ok s3 r3 y3
          exact callO_D (Φ := Φ) (ds := .obj c ns l :: ds) s4 (.cons ((r2'.mono k3.gg).mono k4.gg) r4) z (fun d v H' G' s5 k5 rv hq => hq v H' G' s5 ((((k1.trans k2).trans k3).trans k4).trans k5) rv) (fun c d H' z => ⟨σ, z⟩)
    · exact z.elim

/-! ### C(..) -/
def makeO (c : Str) (e : Env) (o : OutF) : Out R := match o with
  | .ok .non [.obj c' ns l] => if c' = c then .ok (.val (.obj c ns l)) e else .bad
  | .exn x [_] => .exn x e
  | _ => .bad
def makeD (c : Str) (Φ : Fn) (o : Option (List D × Env)) : Out R := match o with
  | some (ds, e) => makeO c e (Φ (.jar 0 :: ds.map A.dat) [.obj c [] []])
  | none => .bad
def cMake (c : Str) (Φ : Fn) (fs : M (List R)) : M R := fun e => (fs e).bnd fun rs e1 => makeD c Φ (e1.frzs rs)
theorem make_D {ds : List D} {vs : List V} {σ : L2.St} {H G : Hp} {e : Env} {q : R → Env → Prop} {Q : VK} {E : XK} (st : Stt X.K cl F e σ H G) (r : RepL X.K cl G ds vs) (h : Post X.K cl F W σ (makeO c e (Φ (.jar 0 :: ds.map A.dat) [.obj c [] []])) q)
    (hQ : ∀ d v H' G', Stt X.K cl F e σ H' G' → Kp F σ e H G e H' G' → Rep X.K cl G' d v → q (.val d) e → Q v H') (hE : ∀ c d H', W c d σ H' → E c d H') :
    ∀ x dx, H x = none → H dx = none → dx ≠ x → spD X.K cl Φ (.ref x :: vs) (upd (upd H dx (.own x)) x (.ins (cl c) dx [])) (fun v H2 => v = .non ∧ Q (.ref x) H2) E := by
  intro x dx hx hdx ne
  obtain ⟨lx, x0⟩ := st.fresh hx
  have hx1 : upd H dx (.own x) x = none := by rw [upd_ne ne.symm]; exact hx
  have s1 := (st.layL (o := .own x) hdx).layL (o := .ins (cl c) dx []) hx1
  have g1 : G x = none := st.ret.gh.free hx
  have kp1 : ∀ b o, H b = some o → upd (upd H dx (.own x)) x (.ins (cl c) dx []) b = some o := fun b o q => by rw [upd_ne (ne_of_none q hx), upd_ne (ne_of_none q hdx)]; exact q
  refine ⟨.jar 0 :: ds.map A.dat, [.obj c [] []], [x], G, s1.ret.gh, .jar rfl (argsOk_dat r), ⟨rfl, by simp, fun k a d h1 h2 => ?_⟩, ?_⟩
  · cases k with
    | zero => cases h1; cases h2; exact ⟨g1, dx, [], upd_same, rfl, .nil⟩
    | succ k => simp at h1
  · cases o : Φ (.jar 0 :: ds.map A.dat) [.obj c [] []] with
    | bad => rw [o] at h; exact h.elim
    | ok d j =>
      rw [o] at h
      intro v H' G' r rv
      cases d with
      | non =>
        match j, h, r with
        | [.obj c' ns l], h, r =>
          simp only [makeO] at h
          split at h
          · rename_i ec
            subst ec
            cases rv
            obtain ⟨s2, k2⟩ := s1.calledL lx x0 r
            obtain ⟨gx, dx', us, hx2, hl, ru⟩ := r.jars.at_ 0 x _ rfl rfl
            refine ⟨rfl, hQ _ (.ref x) H' _ (s2.addG hx2 gx x0 lx) ⟨r.g0.trans (same_upd gx), fun b o q l => ?_, fun i d h => ⟨d, h⟩⟩ (.obj upd_same hl (ru.mono (same_upd gx))) h⟩
            have nb := ne_of_none q hx
            obtain ⟨q1, q2⟩ := k2 b o nb (kp1 b o q)
            exact ⟨q1, fun g => by rw [upd_ne nb]; exact q2 g⟩
          · exact h.elim
        | [], h, r => exact h.elim
        | [.non], h, r | [.bl _], h, r | [.int _], h, r | [.str _], h, r | [.tup _], h, r | [.lst _], h, r | [.dct _ _], h, r | [.dcT _ _], h, r | [.scr _], h, r => exact h.elim
        | .non :: _ :: _, h, r | .bl _ :: _ :: _, h, r | .int _ :: _ :: _, h, r | .str _ :: _ :: _, h, r | .tup _ :: _ :: _, h, r | .lst _ :: _ :: _, h, r | .dct _ _ :: _ :: _, h, r | .dcT _ _ :: _ :: _, h, r | .scr _ :: _ :: _, h, r | .obj _ _ _ :: _ :: _, h, r => exact h.elim
      | _ => exact h.elim
    | exn y j =>
      rw [o] at h
      intro cls dd H' G' r ex
      match j, h, r with
      | [d], h, r =>
        obtain ⟨s2, k2⟩ := s1.calledL lx x0 r
        exact hE _ _ _ (h cls dd H' G' s2 ex)
      | [], h, r => exact h.elim
      | _ :: _ :: _, h, r => exact h.elim
theorem re_make {x : Expr} {xs : List Expr} {p : Pos} (M : Mk X.K (cl c) f) (Fn : FnOk X.prog X.w X.K X.mg X.base (L2.CX X.prog X.w) k f fd ps (spD X.K cl Φ)) (hr : Room (k + 1) X.A) (tk : Takes X W) (hW : SI W) (hg : Gl X c) (hm : X.mg c = some (.ref (cl c))) (hb : Binds X.K fd ps [])
    (ha : RA X cl F W (x :: xs) fs) (hdb : (c == ("__debug__" : Str)) = false := by decide) (he : starEach (x :: xs) X.env = (false, eval x X.env) :: starEach xs X.env := by rfl) (hpl : (backTo pos (starEach xs X.env)).any (·.1) = false := by rfl) : RE X cl F W (.Call (.Name c p) (x :: xs) [] pos) (cMake c Φ fs) := by
  refine ⟨PE.imp (pe_make (E := fun c d H => ∃ σ, W c d σ H) (dvs := []) M Fn hr hg hm hb .nil (passes_call tk fun c d σ H ⟨σ', z⟩ => hW c d σ' σ H z) ha.pa hdb he hpl) fun σ H Q ⟨e, G, st, q⟩ => tA_then st q fun rs e1 vs H1 G1 s1 k1 r1 z => ?_⟩
  cases y : e1.frzs rs with
  | none => rw [y] at z; exact fun _ _ _ _ _ => z.elim
  | some pr =>
    obtain ⟨ds, e2⟩ := pr
    rw [y] at z
    obtain ⟨G2, s2, k2, r2⟩ := frzs_ok s1 r1 y
    intro x dx hx hdx ne
    have := make_D (Q := Q) (E := fun c d H => ∃ σ, W c d σ H) s2 r2 z (fun d v H' G' s5 k5 rv hq => hq v H' G' s5 ((k1.trans k2).trans k5) rv) (fun c d H' z => ⟨σ, z⟩) x dx hx hdx ne
    rw [List.append_nil]
    exact this
/-- self.f = e, self lent or owned -/
def putN (f : Str) (d : D) : List Str → List D → List Str × List D
  | n :: ns, x :: xs => if n = f then (n :: ns, d :: xs) else (n :: (putN f d ns xs).1, x :: (putN f d ns xs).2)
  | _, _ => ([f], [d])
def fldSet (cs : List Str) (i : Nat) (f : Str) (d : D) (e : Env) : Out Fl := match e.rd (.whole i) with
  | some (.obj c ns l) => if c ∈ cs ∧ ns.length < 1000 then outE (e.put i (.obj c (putN f d ns l).1 (putN f d ns l).2)) fun e3 => .ok .nx e3 else .bad
  | _ => .bad
def fldSetO (cs : List Str) (i : Nat) (f : Str) (o : Option (D × Env)) : Out Fl := match o with
  | some (d, e) => fldSet cs i f d e
  | none => .bad
def sFldSet (cs : List Str) (i : Nat) (f : Str) (g : M R) : M Fl := fun e => (g e).bnd fun r e1 => fldSetO cs i f (e1.frz r)
theorem putN_zip {K : PySem.W.Frag} {G : Hp} {f : Str} {d : D} {v : V} (r : Rep K cl G d v) : ∀ {ns : List Str} {l : List D} {vs : List V}, ns.length = vs.length → RepL K cl G l vs → ∃ us, putF f v (ns.zip vs) = (putN f d ns l).1.zip us ∧ (putN f d ns l).1.length = us.length ∧ RepL K cl G (putN f d ns l).2 us
  | [], [], [], _, _ => ⟨[v], rfl, rfl, .cons r .nil⟩
  | [], _ :: _, [], _, t => by cases t
  | [], _, _ :: _, h, _ => by simp at h
  | _ :: _, _, [], h, _ => by simp at h
  | _ :: _, [], _ :: _, _, t => by cases t
  | n :: ns, x :: l, w :: vs, h, .cons rw t => by
    have hl : ns.length = vs.length := by simpa using h
    by_cases hn : n = f
    · subst hn
      refine ⟨v :: vs, ?_, ?_, ?_⟩
      · show (if n = n then (n, v) :: ns.zip vs else _) = _
        rw [if_pos rfl]; simp [putN]
      · simp [putN, hl]
      · simp only [putN, if_true]; exact .cons r t
    · obtain ⟨us, e1, e2, e3⟩ := putN_zip (f := f) r hl t
      refine ⟨w :: us, ?_, ?_, ?_⟩
      · show (if n = f then (n, v) :: ns.zip vs else (n, w) :: putF f v (ns.zip vs)) = _
        rw [if_neg hn, e1]; simp [putN, hn]
      · simp [putN, hn, e2]
      · simp only [putN, hn, if_false]; exact .cons rw e3
theorem rs_fld (i : Nat) {x : Str} {b : Expr} {f : Str} {g : M R} {p pos pos' : Pos} {cs : List Str} (hc : ∀ c ∈ cs, Cls X.K (cl c) ∧ NoAttr X.K (cl c) f) (h : RE X cl F W b g) (hN : X.N[i]? = some x := by rfl) (hvis : Vis X.env.scope x := by first | exact Or.inl rfl | exact Or.inr (Or.inl rfl) | exact Or.inr (Or.inr rfl)) (hd : (x == ("__debug__" : Str)) = false := by decide)
    (hcd : (x == ("__classdict__" : Str)) = false := by decide) (hs : swapsWith b (some (.Attribute (.Name x p) f pos')) pos.line X.env = pure false := by rfl) : RS X cl F W (.Assign [.Attribute (.Name x p) f pos'] b pos) (sFldSet cs i f g) := by
  refine ⟨PS.imp (ps_fld (pe_var hN hvis hd hcd) h.pe hs) fun D σ H ⟨e, G, st, q⟩ => tD_st st q fun r e1 v H1 G1 s1 k1 r1 z => ?_⟩
  cases y : e1.frz r with
  | none => rw [y] at z; exact z.elim
  | some pq =>
    obtain ⟨d, e2⟩ := pq
    rw [y] at z
    obtain ⟨G2, s2, k2, r2⟩ := frz_ok s1 r1 y
    simp only [fldSetO, fldSet] at z
    cases h0 : e2.rd (.whole i) with
    | none => rw [h0] at z; exact z.elim
    | some d0 =>
      rw [h0] at z
      obtain ⟨a0, hs0, o0⟩ := s2.ref_at h0
      cases d0 with
      | obj c ns l =>
        simp only at z
        split at z
        · rename_i hcs
          obtain ⟨dx, vs, hv, hl, rv⟩ := o0
          obtain ⟨us, eu, el, ru⟩ := putN_zip (f := f) r2 hl rv
          cases hp : e2.put i (.obj c (putN f d ns l).1 (putN f d ns l).2) with
          | none => rw [hp] at z; exact z.elim
          | some e4 =>
            rw [hp] at z
            refine ⟨_, hs0, a0, _, dx, _, rfl, hv, (hc c hcs.1).1, (hc c hcs.1).2, by rw [List.length_zip, ← hl, Nat.min_self]; exact hcs.2, ?_⟩
            obtain ⟨s4, k4⟩ := s2.put (o := .ins (cl c) dx (putF f v (ns.zip vs))) hs0 h0 hp fun H' h => ⟨dx, us, by rw [h, eu], el, ru⟩
            exact z σ _ _ s4 k2.gg
        · exact z.elim
      | _ => exact z.elim
end
end DL

namespace DL
open PySem L2 PySem.Spec PyProof.Rows

/-! ### the in of an own class -/
def askOwn (c : Str) (Φ : Fn) (o x : D) : Option Bool := if isObjC c o then (match Φ [.dat o, .dat x] [] with
  | .ok (.bl b) [] => some b
  | _ => none) else none
def inOwn (c : Str) (Φ : Fn) (x o : D) : Option D := (askOwn c Φ o x).map D.bl
def notInOwn (c : Str) (Φ : Fn) (x o : D) : Option D := (askOwn c Φ o x).map fun b => D.bl (!b)
section
variable {X : Cx} {cl : Str → Addr} {F : Fra} {W : WX} {k : Nat} {f : Addr} {fd : FuncData} {ps : List Str} {Φ : Fn} {c : Str}
theorem askOwn_ok {H G : Hp} {x y : V} {dx o : D} {b : Bool} (g : Same G H) (tx : Top X.K cl H G dx x) (ty : Top X.K cl H G o y) (h : askOwn c Φ o dx = some b) :
    ∃ a dd fs, y = .ref a ∧ H a = some (.ins (cl c) dd fs) ∧ spD X.K cl Φ [.ref a, x] H (fun v H' => v = .bl b ∧ Same H H') E0 := by
  unfold askOwn at h
  split at h
  · rename_i hi
    obtain ⟨ns, l, rfl⟩ := isObjC_inv hi
    have ry := ty.rep g
    obtain ⟨a, dd, vs, rfl, ha, _, _⟩ := ty.obj g
    refine ⟨a, dd, _, rfl, ha, [.dat (.obj c ns l), .dat dx], [], [], H, .refl _, .dat ry (.dat (tx.rep g) .nil), ⟨rfl, List.nodup_nil, fun k a d h => by simp at h⟩, ?_⟩
    split at h
    · rename_i b' e
      cases h
      rw [e]
      intro v H' G' r rv
      cases rv
      exact ⟨rfl, fun b o q => r.fr b o q (by simp)⟩
    · cases h
  · cases h
theorem spD.mono {K : PySem.W.Frag} {vs : List V} {H : Hp} {Q Q' : VK} {E : XK} (h : spD K cl Φ vs H Q E) (i : ∀ v H', Q v H' → Q' v H') : spD K cl Φ vs H Q' E := by
  obtain ⟨as, j, js, G, g1, g2, g3, g4⟩ := h
  refine ⟨as, j, js, G, g1, g2, g3, ?_⟩
  cases o : Φ as j with
  | bad => rw [o] at g4; exact g4.elim
  | ok d j' => rw [o] at g4; exact fun v H' G' r rv => i _ _ (g4 v H' G' r rv)
  | exn y j' => rw [o] at g4; exact g4
/-- what x in o does, o of an own class -/
def rOwn (X : Cx) (cl : Str → Addr) (c : Str) (Φ : Fn) (nt : Bool) : R2 := fun x y H Q => ∃ a dd fs, y = .ref a ∧ H a = some (.ins (cl c) dd fs) ∧ spD X.K cl Φ [.ref a, x] H (fun v H' => ∃ b, v = .bl b ∧ Q (.bl (b != nt)) H') E0
theorem op_own (hs : PySem.W.findIn X.K (.ref (cl c)) "__contains__" = some (some (.ref f))) (hf : PySem.W.isFn X.K (.ref f) = true) (Fn : FnOk X.prog X.w X.K X.mg X.base (L2.CX X.prog X.w) k f fd ps (spD X.K cl Φ)) (hr : Room k X.A) (hb : Binds X.K fd ps [])
    {pins : List (Addr × Obj)} {s : Shared} {σ : L2.St} {H : Hp} {x : V} {v : Value} {a dd : Addr} {fs : List (Str × V)} {P : Bool → Shared → Prop} (I : Inv X pins σ H s) (rx : RelV x v) (ha : H a = some (.ins (cl c) dd fs)) {b : Bool}
    (q : spD X.K cl Φ [.ref a, x] H (fun v H' => v = .bl b ∧ ∀ s', Inv X pins σ H' s' → P b s') E0) : wpAny (model X.prog X.w) X.A (contains (.ref a) v) P X.xe s := by
  obtain ⟨mA, O, _, _, _, _⟩ := ins_get I.hok ha
  obtain ⟨od, J, _⟩ := O.look
  have Xi := I.kIn
  unfold contains
  refine wpAny_holding (wpAny_bind (wpAny_bind (J.type.here ((PySem.W.looks_findIn Xi hs).here ?_))))
  rw [if_neg (by simp)]
  refine wpAny_bind (PySem.W.unlessNone_K Xi J hs hf (wpAny_mono (run_fn (dvs := []) (ds := []) (E := E0) Fn hr hb .nil passL I (.cons (show RelV (.ref a) (.ref a) from rfl) (.cons rx .nil)) q) (fun u s' z => ?_) fun _ _ z => z))
  obtain ⟨w, H', I', rw_, e, z⟩ := z
  subst e
  cases rw_
  exact wpAny_truthy_bool (z s' I')
theorem od_inOwn (hs : PySem.W.findIn X.K (.ref (cl c)) "__contains__" = some (some (.ref f))) (hf : PySem.W.isFn X.K (.ref f) = true) (Fn : FnOk X.prog X.w X.K X.mg X.base (L2.CX X.prog X.w) k f fd ps (spD X.K cl Φ)) (hr : Room k X.A) (hb : Binds X.K fd ps []) :
    OpD X cl (compareOp .In) (inOwn c Φ) := by
  refine ⟨fun x y H Q => ∃ b a dd fs, y = .ref a ∧ H a = some (.ins (cl c) dd fs) ∧ spD X.K cl Φ [.ref a, x] H (fun v H' => v = .bl b ∧ Same H H') E0 ∧ ∀ H', Same H H' → Q (.bl b) H', ?_, ?_⟩
  · intro pins s σ H x y v u Q I rx ry h
    obtain ⟨b, a, dd, fs, rfl, ha, sp, q⟩ := h
    cases ry
    refine wpAny_bind (wpAny_mono (op_own (P := fun b' s' => b' = b ∧ ∃ H', Inv X pins σ H' s' ∧ Same H H') (b := b) hs hf Fn hr hb I rx ha (spD.mono sp fun v H' ⟨e, sm⟩ => ⟨e, fun s' I' => ⟨rfl, H', I', sm⟩⟩)) (fun r s' z => ?_) fun _ _ z => z)
    obtain ⟨rfl, H', I', sm⟩ := z
    exact wpAny_pure ⟨.bl r, H', I', rfl, q H' sm⟩
  · intro H G x y dx dy dz Q g tx ty hg q
    obtain ⟨b, hb1, rfl⟩ := Option.map_eq_some_iff.mp hg
    obtain ⟨a, dd, fs, rfl, ha, sp⟩ := askOwn_ok g tx ty hb1
    exact ⟨b, a, dd, fs, rfl, ha, sp, fun H' sm => q _ H' G (.grow .refl sm) .bl⟩
theorem od_notInOwn (hs : PySem.W.findIn X.K (.ref (cl c)) "__contains__" = some (some (.ref f))) (hf : PySem.W.isFn X.K (.ref f) = true) (Fn : FnOk X.prog X.w X.K X.mg X.base (L2.CX X.prog X.w) k f fd ps (spD X.K cl Φ)) (hr : Room k X.A) (hb : Binds X.K fd ps []) :
    OpD X cl (compareOp .NotIn) (notInOwn c Φ) := by
  refine ⟨fun x y H Q => ∃ b a dd fs, y = .ref a ∧ H a = some (.ins (cl c) dd fs) ∧ spD X.K cl Φ [.ref a, x] H (fun v H' => v = .bl b ∧ Same H H') E0 ∧ ∀ H', Same H H' → Q (.bl (!b)) H', ?_, ?_⟩
  · intro pins s σ H x y v u Q I rx ry h
    obtain ⟨b, a, dd, fs, rfl, ha, sp, q⟩ := h
    cases ry
    refine wpAny_bind (wpAny_mono (op_own (P := fun b' s' => b' = b ∧ ∃ H', Inv X pins σ H' s' ∧ Same H H') (b := b) hs hf Fn hr hb I rx ha (spD.mono sp fun v H' ⟨e, sm⟩ => ⟨e, fun s' I' => ⟨rfl, H', I', sm⟩⟩)) (fun r s' z => ?_) fun _ _ z => z)
    obtain ⟨rfl, H', I', sm⟩ := z
    exact wpAny_pure ⟨.bl (!r), H', I', rfl, q H' sm⟩
  · intro H G x y dx dy dz Q g tx ty hg q
    obtain ⟨b, hb1, rfl⟩ := Option.map_eq_some_iff.mp hg
    obtain ⟨a, dd, fs, rfl, ha, sp⟩ := askOwn_ok g tx ty hb1
    exact ⟨b, a, dd, fs, rfl, ha, sp, fun H' sm => q _ H' G (.grow .refl sm) .bl⟩
end

/-! ### keywords -/
structure RK (X : Cx) (cl : Str → Addr) (F : Fra) (W : WX) (ks : List Keyword) (f : M (List R)) : Prop where
  pk : PK X ks (tA X.K cl F W f)
def prm {α : Type} (p : List Nat) (l : List α) : List α := p.filterMap (l[·]?)
section
variable {X : Cx} {cl : Str → Addr} {F : Fra} {W : WX}
theorem PK.imp {ks : List Keyword} {t t' : TA} (h : PK X ks t) (i : ∀ σ H Q, t' σ H Q → t σ H Q) : PK X ks t' := ⟨fun pos pins s σ H Q I q => h.run pos pins s σ H Q I (i σ H Q q)⟩
theorem rk_nil : RK X cl F W [] cNil := ⟨PK.imp pk_nil fun σ H Q ⟨e, G, st, q⟩ => q [] H G st .refl .nil⟩
theorem rk_cons {nm : Option Str} {kpos : Pos} {x : Expr} {ks : List Keyword} {f : M R} {g : M (List R)} (h : RE X cl F W x f) (t : RK X cl F W ks g) : RK X cl F W (⟨nm, x, kpos⟩ :: ks) (cCons f g) := by
  refine ⟨PK.imp (pk_cons h.pe t.pk) fun σ H Q ⟨e, G, st, q⟩ => ?_⟩
  exact tD_then st q fun r e1 v H1 G1 s1 k1 r1 z => tA_then s1 z fun rs e2 vs H2 G2 s2 k2 r2 z => z (v :: vs) H2 G2 s2 (k1.trans k2) (.cons (r1.mono k2.gg) r2)
theorem vals_get : ∀ {vs : List V} {us : List Value} (i : Nat), Vals vs us → (∃ v u, vs[i]? = some v ∧ us[i]? = some u ∧ RelV v u) ∨ vs[i]? = none ∧ us[i]? = none
  | _, _, _, .nil => .inr ⟨rfl, rfl⟩
  | _, _, 0, .cons r _ => .inl ⟨_, _, rfl, rfl, r⟩
  | _, _, i + 1, .cons _ t => by simpa using vals_get i t
theorem vals_prm {vs : List V} {us : List Value} (r : Vals vs us) : ∀ p : List Nat, Vals (prm p vs) (prm p us)
  | [] => .nil
  | i :: p => by
    rcases vals_get i r with ⟨v, u, h1, h2, h3⟩ | ⟨h1, h2⟩
    · have e1 : prm (i :: p) vs = v :: prm p vs := by unfold prm; rw [List.filterMap_cons, h1]
      have e2 : prm (i :: p) us = u :: prm p us := by unfold prm; rw [List.filterMap_cons, h2]
      rw [e1, e2]; exact .cons h3 (vals_prm r p)
    · have e1 : prm (i :: p) vs = prm p vs := by unfold prm; rw [List.filterMap_cons, h1]
      have e2 : prm (i :: p) us = prm p us := by unfold prm; rw [List.filterMap_cons, h2]
      rw [e1, e2]; exact vals_prm r p
theorem repL_get {K : PySem.W.Frag} {G : Hp} : ∀ {ds : List D} {vs : List V} (i : Nat), RepL K cl G ds vs → (∃ d v, ds[i]? = some d ∧ vs[i]? = some v ∧ Rep K cl G d v) ∨ ds[i]? = none ∧ vs[i]? = none
  | _, _, _, .nil => .inr ⟨rfl, rfl⟩
  | _, _, 0, .cons r _ => .inl ⟨_, _, rfl, rfl, r⟩
  | _, _, i + 1, .cons _ t => by simpa using repL_get i t
theorem repL_prm {K : PySem.W.Frag} {G : Hp} {ds : List D} {vs : List V} (r : RepL K cl G ds vs) : ∀ p : List Nat, RepL K cl G (prm p ds) (prm p vs)
  | [] => .nil
  | i :: p => by
    rcases repL_get i r with ⟨v, u, h1, h2, h3⟩ | ⟨h1, h2⟩
    · have e1 : prm (i :: p) ds = v :: prm p ds := by unfold prm; rw [List.filterMap_cons, h1]
      have e2 : prm (i :: p) vs = u :: prm p vs := by unfold prm; rw [List.filterMap_cons, h2]
      rw [e1, e2]; exact .cons h3 (repL_prm r p)
    · have e1 : prm (i :: p) ds = prm p ds := by unfold prm; rw [List.filterMap_cons, h1]
      have e2 : prm (i :: p) vs = prm p vs := by unfold prm; rw [List.filterMap_cons, h2]
      rw [e1, e2]; exact repL_prm r p
/-- a call with n positional values and the keywords ks; p: their order -/
abbrev KBp (K : PySem.W.Frag) (fd : FuncData) (ps : List Str) (n : Nat) (ks : List Str) (p : List Nat) : Prop := KBn K fd ps n ks (fun us ws => prm p (us ++ ws)) (fun vs zs => prm p (vs ++ zs))
theorem kb_p {K : PySem.W.Frag} {x qual : Str} {params : Arguments} {body : List Stmt} {scope : Scope} {kws : List (Str × V)} {f : Addr} {fd : FuncData} {ps : List Str} (F : FunD K x qual params body scope [] kws f fd) (n : Nat) (ks : List Str) (p : List Nat)
    (h : ∀ (kV doc pm : Value) (an : Option Addr) (cdv ct : Value) (us ws : List Value), us.length = n → ws.length = ks.length → bindArgs (PySem.W.fnOf x qual params body scope .none kV doc pm an cdv ct) ⟨us, ks.zip ws⟩ = pure (ps.zip (prm p (us ++ ws)))) : KBp K fd ps n ks p := by
  obtain ⟨oc, od, dV, kV, doc, pm, an, cdv,
                                                                                                              ct, osl, rfl, lk, hcd, hD, hK⟩ := F.ex
  rcases hD with
                                                                                                              ⟨_, rfl⟩ | ⟨e, _⟩
  · exact ⟨fun s us ws _ l1 l2 => .of_eq (h kV doc pm an cdv ct us ws l1 l2), fun r1 r2 => vals_prm (r1.append r2) p⟩
  · exact absurd rfl e
def cCat (fs gs : M (List R)) : M (List R) := fun e => (fs e).bnd fun rs e1 => (gs e1).bnd fun qs e2 => .ok (rs ++ qs) e2
variable {k : Nat} {f pr : Addr} {fd : FuncData} {ps ks : List Str} {Φ : Fn} {c m : Str} {a : Expr} {es : List Expr} {kws : List Keyword} {g : M R} {fs gs : M (List R)} {pos apos : Pos} {n : Nat} {p : List Nat}
/-- o.m(.., k = v, ..) of an object of class c -/
def methKO (c m : Str) (Φ : Fn) (n nk : Nat) (p : List Nat) (o : Option (D × Env)) (fs gs : M (List R)) : Out R := match o with
  | some (d, e) => if isObjC c d && !hasN m d then (fs e).bnd fun rs e1 => (match e1.frzs rs with
    | some (ds, e2) => (gs e2).bnd fun qs e3 => (match e3.frzs qs with
      | some (zs, e4) => if ds.length = n ∧ zs.length = nk then callO e4 (Φ ((prm p (d :: ds ++ zs)).map A.dat) []) else .bad
      | none => .bad)
    | none => .bad) else .bad
  | none => .bad
def cMethK (c m : Str) (Φ : Fn) (n nk : Nat) (p : List Nat) (g : M R) (fs gs : M (List R)) : M R := fun e => (g e).bnd fun r e1 => methKO c m Φ n nk p (e1.frz r) fs gs
theorem run_fnNS {E : L2.St → XK} {pins : List (Addr × Obj)} {σ : L2.St} {H : Hp} {s : Shared} {Q : VK} {us ws : List Value} {vs zs : List V} {sp : Sp} {CX : CXT} {gg : List Value → List Value → List Value} {gV : List V → List V → List V} (F : FnOk X.prog X.w X.K X.mg X.base CX k f fd ps sp) (hr : Room k X.A) (hb : KBn X.K fd ps n ks gg gV) (hx : PassesAt CX X σ (E σ))
    (I : Inv X pins σ H s) (r : Vals vs us) (rz : Vals zs ws) (l1 : vs.length = n) (l2 : zs.length = ks.length) (h : sp (gV vs zs) H Q (E σ)) : wpAny (model X.prog X.w) X.A (PySem.call (.ref f) us (ks.zip ws)) (EP X pins σ Q) X.xe s := by
  have r2 := hb.rel r rz
  refine wpAny_call (codeAny_mono (F.run X.A X.stack s H ⟨us, ks.zip ws⟩ (gg us ws) (gV vs zs) Q (E σ) hr I.env0 (hb.to s us ws I.kIn (r.length.symm.trans l1) (rz.length.symm.trans l2)) r2 h) fun r s' hq => ?_)
  cases r with
  | error e =>
                                                                                                              exact hx pins H s e s' I hq
  | ok fl =>
    cases fl with
    | ret u => exact I.after hq
    | next => exact False.elim hq
    | brk => exact False.elim hq
    | cont => exact False.elim hq
/-- o.m(e, .., k = v, ..) -/
def tMethN (C : Addr) (m : Str) (n nk : Nat) (sp : Sp) (gV : List V → List V → List V) (E : XK) (ta : TE) (t tk : TA) : TE := fun σ H Q => ta σ H fun x H1 => ∃ a dx fs, x = .ref a ∧ H1 a = some (.ins C dx fs) ∧ fs.lookup m = none ∧ t σ H1 fun vs H2 => tk σ H2 fun zs H3 => vs.length = n ∧ zs.length = nk ∧ sp (gV (.ref a :: vs) zs) H3 Q E
variable {x : Expr} {xs : List Expr} {t tk : TA} {ta : TE} {C : Addr} {E : XK} {sp : Sp} {CX : CXT} {gg : List Value → List Value → List Value} {gV : List V → List V → List V}
theorem pe_methN {pl : Sem Bool} (he : PE X a ta) (hc : Cls X.K C) (hm : Meth X.K C m f) (Fn : FnOk X.prog X.w X.K X.mg X.base CX k f fd ps sp) (hr : Room k X.A) (hb : KBn X.K fd ps (n + 1) ks gg gV) (hx : Passes CX X E) (ha : PA X (x :: xs) t) (hk : PK X kws tk)
    (hall : (backToKw pos (keywordEach kws X.env)).all (·.1.isSome) = true) (hks : (backToKw pos (keywordEach kws X.env)).filterMap (·.1) = ks) (hst : starEach (x :: xs) X.env = (false, eval x X.env) :: starEach xs X.env)
    (hpl : ((backTo pos (starEach (x :: xs) X.env)).any (·.1) || (backToKw pos (keywordEach kws X.env)).any (·.1.isNone)) = false)
    (ht : eval (.Call (.Attribute a m apos) (x :: xs) kws pos) X.env = (do
      let ov ← eval a X.env
      standAt apos.atName
      let (f, first) ← holding
                                                                                                              [ov] (getMethod ov m pl)
      callWith pos f first (backTo pos (starEach (x :: xs) X.env)) (backToKw pos (keywordEach kws X.env)))) : PE X (.Call (.Attribute a m apos) (x :: xs) kws pos) (tMethN C m n ks.length sp gV E ta t tk) := by
  refine ⟨fun pins s
                                                                                                              σ H Q I h => ?_⟩
  refine PySem.W.methodCall_KW (pl := pl) (thn (he.run pins s σ H _ I h) fun u s1 ⟨y, H1, I1, rx, b, dx, fs, ex, eb, l, q⟩ => ?_) ht
  subst ex
  obtain rfl : u = Value.ref b := rx
  refine getmeth_ok I1 eb hc hm l ?_
  refine PySem.W.callWith_KW (first := [.ref b]) (h₀ := X.base) I.ok.mod.kin hm.kp hall (thn (ha.run pos pins s1 σ H1 _ I1 q) fun us s2 ⟨vs, H2, I2, r, q2⟩ => ?_) hpl hst
  refine thn (hk.run pos pins s2 σ H2 _ I2 q2) fun ws s3 ⟨zs, H3, I3, rz, l1, l2, q3⟩ => ⟨I3.kIn, ?_⟩
  rw [hks]
  exact run_fnN (us := .ref b :: us) (vs := .ref b :: vs) Fn hr hb hx I3 (.cons rfl r) rz (congrArg (· + 1) l1) l2 q3
theorem pe_methN0 {pl : Sem Bool} (he : PE X a ta) (hc : Cls X.K C) (hm : Meth X.K C m f) (Fn : FnOk X.prog X.w X.K X.mg X.base CX k f fd ps sp) (hr : Room k X.A) (hb : KBn X.K fd ps 1 ks gg gV) (hx : Passes CX X E) (hk : PK X kws tk)
    (hall : (backToKw pos (keywordEach kws X.env)).all (·.1.isSome) = true) (hks : (backToKw pos (keywordEach kws X.env)).filterMap (·.1) = ks)
    (hpl : ((backTo pos (starEach [] X.env)).any (·.1) || (backToKw pos (keywordEach kws X.env)).any (·.1.isNone)) = false)
    (ht : eval (.Call (.Attribute a m apos) [] kws pos) X.env = (do
      let ov ← eval a X.env
      standAt apos.atName
      let (f, first) ← holding
                                                                                                              [ov] (getMethod ov m pl)
      callWith pos f first (backTo pos (starEach [] X.env)) (backToKw pos (keywordEach kws X.env)))) : PE X (.Call (.Attribute a m apos) [] kws pos) (tMethN C m 0 ks.length sp gV E ta tNil tk) := by
  refine ⟨fun pins s
                                                                                                              σ H Q I h => ?_⟩
  refine PySem.W.methodCall_KW (pl := pl) (thn (he.run pins s σ H _ I h) fun u s1 ⟨y, H1, I1, rx, b, dx, fs, ex, eb, l, q⟩ => ?_) ht
  subst ex
  obtain rfl : u = Value.ref b := rx
  refine getmeth_ok I1 eb hc hm l ?_
  refine PySem.W.callWith_KW0 (first := [.ref b]) (h₀ := X.base) I.ok.mod.kin hm.kp hall ?_ hpl
  refine thn (hk.run pos pins s1 σ H1 _ I1 q) fun ws s3 ⟨zs, H3, I3, rz, l1, l2, q3⟩ => ⟨I3.kIn, ?_⟩
  rw [hks]
  exact run_fnN (us := [.ref b]) (vs := [.ref b]) Fn hr hb hx I3 (.cons rfl .nil) rz rfl l2 q3
theorem methK_D {σ : L2.St} {H : Hp} {Q : VK} (h : tD X.K cl F W (cMethK c m Φ n ks.length p g fs gs) σ H Q) :
    tMethN (cl c) m n ks.length (spD X.K cl Φ) (fun vs zs => prm p (vs ++ zs)) (fun c d H => ∃ σ, W c d σ H) (tD X.K cl F W g) (tA X.K cl F W fs) (tA X.K cl F W gs) σ H Q := by
  obtain ⟨e, G, st, q⟩ := h
  refine tD_then st q fun r e1 v H1 G1 s1 k1 r1 z => ?_
  cases y : e1.frz r with
  | none => rw [y] at z; exact z.elim
  | some pr =>
    obtain ⟨d, e2⟩ := pr
    rw [y] at z
    obtain ⟨G2, s2, k2, r2⟩ := frz_ok s1 r1 y
    simp only [methKO] at z
    split at z
    · rename_i hi
      obtain ⟨hi1, hi2⟩ := Bool.and_eq_true_iff.mp hi
      obtain ⟨ns, l, rfl⟩ := isObjC_inv hi1
      have r2' := r2
      cases r2 with
      | obj h1 hl rl =>
        refine ⟨_, _, _, rfl, s2.ret.gh _ _ h1, lookup_zip_none (by simpa [hasN] using hi2), tA_then s2 z fun rs e3 vs H3 G3 s3 k3 r3 z => ?_⟩
        cases y3 : e3.frzs rs with
        | none => rw [y3] at z; exact z.elim
        | some p3 =>
          obtain ⟨ds, e4⟩ := p3
          rw [y3] at z
          obtain ⟨G4, s4, k4, r4⟩ := frzs_ok s3 r3 y3
          refine tA_then s4 z fun qs e5 zs H5 G5 s5 k5 r5 z => ?_
          cases y5 : e5.frzs qs with
          | none => rw [y5] at z; exact z.elim
          | some p5 =>
            obtain ⟨es, e6⟩ := p5
            rw [y5] at z
            obtain ⟨G6, s6, k6, r6⟩ := frzs_ok s5 r5 y5
            simp only at z
            split at z
            · rename_i hl2
              refine ⟨r4.length.symm.trans hl2.1, r6.length.symm.trans hl2.2, ?_⟩
              have g46 : Same G4 G6 := fun b o q => k6.gg b o (k5.gg b o q)
              have rr : RepL X.K cl G6 (D.obj c ns l :: ds ++ es) (V.ref _ :: vs ++ zs) := RepL.append (.cons (((r2'.mono k3.gg).mono k4.gg).mono g46) (r4.mono g46)) r6
              exact callO_D (Φ := Φ) (ds := prm p (D.obj c ns l :: ds ++ es)) s6 (repL_prm rr p) z (fun d v H' G' s7 k7 rv hq => hq v H' G' s7 ((((((k1.trans k2).trans k3).trans k4).trans k5).trans k6).trans k7) rv) (fun c d H' z => ⟨σ, z⟩)
            · exact z.elim
    · exact z.elim
theorem re_methK {pl : Sem Bool} (hc : Cls X.K (cl c)) (hm : Meth X.K (cl c) m f) (Fn : FnOk X.prog X.w X.K X.mg X.base (L2.CX X.prog X.w) k f fd ps (spD X.K cl Φ)) (hr : Room k X.A) (tk : Takes X W) (hW : SI W) (hb : KBp X.K fd ps (n + 1) ks p)
    (h : RE X cl F W a g) (ha : RA X cl F W (x :: xs) fs) (hkw : RK X cl F W kws gs)
    (hall : (backToKw pos (keywordEach kws X.env)).all (·.1.isSome) = true := by rfl) (hks : (backToKw pos (keywordEach kws X.env)).filterMap (·.1) = ks := by rfl) (hst : starEach (x :: xs) X.env = (false, eval x X.env) :: starEach xs X.env := by rfl)
    (hpl : ((backTo pos (starEach (x :: xs) X.env)).any (·.1) || (backToKw pos (keywordEach kws X.env)).any (·.1.isNone)) = false := by rfl)
    (ht : eval (.Call (.Attribute a m apos) (x :: xs) kws pos) X.env = (do
      let ov ← eval a X.env
      standAt apos.atName
      let (f, first) ← holding
                                                                                                              [ov] (getMethod ov m pl)
      callWith pos f first (backTo pos (starEach (x :: xs) X.env)) (backToKw pos (keywordEach kws X.env))) := by rfl) : RE X cl F W (.Call (.Attribute a m apos) (x :: xs) kws pos) (cMethK c m Φ n ks.length p g fs gs) :=
  ⟨PE.imp (pe_methN (pl := pl) (E := fun c d H => ∃ σ, W c d σ H) h.pe hc hm Fn hr hb (passes_call tk fun c d σ H ⟨σ', z⟩ => hW c d σ' σ H z) ha.pa hkw.pk hall hks hst hpl ht) fun σ H Q z => methK_D z⟩
theorem re_methK0 {pl : Sem Bool} (hc : Cls X.K (cl c)) (hm : Meth X.K (cl c) m f) (Fn : FnOk X.prog X.w X.K X.mg X.base (L2.CX X.prog X.w) k f fd ps (spD X.K cl Φ)) (hr : Room k X.A) (tk : Takes X W) (hW : SI W) (hb : KBp X.K fd ps 1 ks p)
    (h : RE X cl F W a g) (hkw : RK X cl F W kws gs)
    (hall : (backToKw pos (keywordEach kws X.env)).all (·.1.isSome) = true := by rfl) (hks : (backToKw pos (keywordEach kws X.env)).filterMap (·.1) = ks := by rfl)
    (hpl : ((backTo pos (starEach [] X.env)).any (·.1) || (backToKw pos (keywordEach kws X.env)).any (·.1.isNone)) = false := by rfl)
    (ht : eval (.Call (.Attribute a m apos) [] kws pos) X.env = (do
      let ov ← eval a X.env
      standAt apos.atName
      let (f, first) ← holding
                                                                                                              [ov] (getMethod ov m pl)
      callWith pos f first (backTo pos (starEach [] X.env)) (backToKw pos (keywordEach kws X.env))) := by rfl) : RE X cl F W (.Call (.Attribute a m apos) [] kws pos) (cMethK c m Φ 0 ks.length p g cNil gs) := by
  refine ⟨PE.imp (pe_methN0 (pl := pl) (E := fun c d H => ∃ σ, W c d σ H) h.pe hc hm Fn hr hb (passes_call tk fun c d σ H ⟨σ', z⟩ => hW c d σ' σ H z) hkw.pk hall hks hpl ht) fun σ H Q z => ?_⟩
  have z := methK_D z
  obtain ⟨e, G, st, q⟩ := z
  refine ⟨e, G, st, post_imp q fun r e1 q v H1 G1 s1 k1 r1 => ?_⟩
  obtain ⟨b, dx, fs, ex, eb, l, z⟩ := q v H1 G1 s1 k1 r1
  refine ⟨b, dx, fs, ex, eb, l, ?_⟩
  obtain ⟨e', G', st', q'⟩ := z
  exact q' [] H1 G' st' .refl .nil
end
end DL

namespace DL
open PySem L2 PySem.Spec PyProof.Rows

/-! ### t[::-1] -/
section
open HT
variable {prog : Program} {w : World} {A :
                                                                                                              Around} {E : Value → Shared → Prop} {s : Shared}
theorem applied_rev {sl : Addr} {w1st w2nd vs : Value} {n : Nat} {Q : Int × Int × Nat → Shared → Prop} (hslice : s.heap.IsSliceOf sl w1st w2nd vs) (p1st : IsPart w1st none) (p2nd : IsPart w2nd none) (p3rd : IsPart vs (some (-1)))
    (h : Q (((n : Nat) : Int) - 1, -1, n) s) : wpAny (model prog w) A (Builtin.Slice.sliceApplied (.ref sl) (pure (n : Int))) Q E s := by
  obtain ⟨slo, hslo, hslc, hsld⟩ := id hslice
  unfold Builtin.Slice.sliceApplied
                                                                                                              Builtin.Slice.sliceFields
  refine wpAny_bind (wpAny_bind (wpAny_field hslo hsld (x := w1st) rfl (wpAny_bind (wpAny_field hslo hsld (x := w2nd) rfl (wpAny_bind (wpAny_field hslo hsld (x := vs) rfl (wpAny_pure ?_)))))))
  refine wpAny_bind (slicePart_ p3rd ?_)
  show wpAny _ _ (if ((-1 : Int) == 0) = true then _ else _) _ _ s
  rw [if_neg (by decide)]
  refine wpAny_bind (slicePart_ p1st (wpAny_bind (slicePart_ p2nd (wpAny_bind (wpAny_pure ?_)))))
  have e : Builtin.Slice.sliceAdjust none none (-1) (n : Int) = ((n : Int) - 1, -1) := by
    unfold
                                                                                                              Builtin.Slice.sliceAdjust
    simp
  show wpAny _ _ (match Builtin.Slice.sliceAdjust none none (-1) (n : Int) with | (lo, hi) => pure (lo, (-1 : Int), Builtin.Slice.slicePlaces lo hi (-1))) _ _ s
  rw [e]
  have e2 : Builtin.Slice.slicePlaces ((n : Int) - 1) (-1) (-1) = n := by
    unfold
                                                                                                              Builtin.Slice.slicePlaces
    have h1 : ¬ ((-1 : Int) > 0) := by omega
    simp only [h1, if_false]
    split
    · simp
    · omega
  show wpAny _ _ (pure ((n : Int) - 1, (-1 : Int), Builtin.Slice.slicePlaces ((n : Int) - 1) (-1) (-1))) _ _ s
  rw [e2]
  exact wpAny_pure h
theorem fm_some {α β : Type} {f : α → Option β} {g : α → β} : ∀ {l : List α}, (∀ m ∈ l, f m = some (g m)) → l.filterMap f = l.map g
  | [], _ => rfl
  | a :: l, h => by rw [List.filterMap_cons, h a List.mem_cons_self, List.map_cons, fm_some fun m hm => h m (List.mem_cons_of_mem _ hm)]
theorem pick_rev (xs : Array Value) : ((List.range xs.size).filterMap fun (m : Nat) => xs[(((xs.size : Nat) : Int) - 1 + (m : Int) * (-1)).toNat]?).toArray = xs.toList.reverse.toArray := by
  congr 1
  refine List.ext_getElem? fun i => ?_
  have e : (List.range xs.size).filterMap (fun (m : Nat) => xs[(((xs.size : Nat) : Int) - 1 + (m : Int) * (-1)).toNat]?) = (List.range xs.size).map (fun m => xs[xs.size - 1 - m]?.getD .none) := by
    refine fm_some fun m hm => ?_
    have hm := List.mem_range.mp hm
    have e1 : (((xs.size : Nat) : Int) - 1 + (m : Int) * (-1)).toNat = xs.size - 1 - m := by omega
    have hl : xs.size - 1 - m < xs.size := by omega
    simp only [e1]
    rw [Array.getElem?_eq_getElem hl]
    rfl
  rw [e, List.getElem?_map]
  by_cases hi : i < xs.size
  · rw [List.getElem?_range hi, List.getElem?_reverse (by simpa using hi)]
    have hl : xs.size - 1 - i < xs.size := by omega
    simp [hl]
  · rw [List.getElem?_eq_none (by simpa using hi), List.getElem?_eq_none (by simpa using hi)]
    rfl
theorem getItem_tuple_rev {t sl : Addr} {elts : Array Value} {w1st w2nd vs : Value} {Q : Value → Shared → Prop} (htup : IsTup s.heap t elts) (hslice : s.heap.IsSliceOf sl w1st w2nd vs) (p1st : IsPart w1st none) (p2nd : IsPart w2nd none) (p3rd : IsPart vs (some (-1)))
    (h : Q (.ref s.heap.objs.size) { s with heap := s.heap.push { cls := .type "tuple", data := .seq elts.toList.reverse.toArray } })
    (hsize : elts.size ≤ sizeLine) : wpAny (model prog w) A (getItem (.ref t) (.ref sl)) Q E s := by
  have hfits : sizeOk (.seq elts.toList.reverse.toArray) := by
    show elts.toList.reverse.toArray.size ≤ sizeLine
    simpa using hsize
  obtain ⟨slo, hslo, hslc, hsld⟩ := id hslice
  have hslt : s.TypeIs (.ref sl) "slice" := ⟨slo, hslo, hslc⟩
  unfold getItem
  try with_reducible
                                                                                                              refine wpAny_holding ?_
  first | refine wpAny_bind
                                                                                                              (wpAny_pure ?_) | skip
  refine wpAny_bind (wpAny_sequenceKey htup.typeIs (by decide) ?_)
  refine wpAny_bind (wpAny_callSpecial?_slot (name := Str.ofString "__getitem__") htup.typeIs PyProof.Rows.slot_tuple_getitem
    (wpAny_call_entry PyProof.Rows.slot_tuple_getitem htup.typeIs entry_tuple_getitem ?_ (args_tuple_getitem _ _)))
  show wpAny _ _ (Builtin.Tuple.tupleItemsOf
                                                                                                              (.ref t) >>= _) _ _ s
  refine wpAny_bind (tupleItemsOf_ htup ?_)
  refine wpAny_bind (wpAny_typeOf hslt ?_)
  rw [if_pos (by decide)]
  refine wpAny_bind (applied_rev hslice p1st p2nd p3rd ?_)
  have hnot : ¬ (((((elts.size : Nat) : Int) - 1) == 0 && (-1 : Int) == 1 && elts.size == elts.size) = true) := by
    intro q
    rw [Bool.and_eq_true,
                                                                                                              Bool.and_eq_true] at q
    exact absurd q.1.2 (by decide)
  show wpAny _ _ (if ((((elts.size : Nat) : Int) - 1) == 0 && (-1 : Int) == 1 && elts.size == elts.size) = true then _ else _) _ _ s
  rw [if_neg hnot, pick_rev]
  first
    | exact wpAny_bind (m := Builtin.Tuple.tupleExact _) (wpAny_newObj_type (wpAny_pure ⟨_, rfl, wpAny_pure h⟩) hfits)
    | exact wpAny_bind (m := Builtin.Tuple.tupleExact _) (wpAny_newObj_type (wpAny_bind (wpAny_pure (wpAny_pure ⟨_, rfl, wpAny_pure h⟩))) hfits)
    | exact wpAny_bind (wpAny_bind (m := Builtin.Tuple.tupleExact _) (wpAny_newObj_type (wpAny_pure (wpAny_pure ⟨_, rfl, wpAny_pure h⟩)) hfits))
    | exact wpAny_bind (wpAny_bind (m := Builtin.Tuple.tupleExact _) (wpAny_newObj_type (wpAny_pure ⟨_, rfl, wpAny_pure h⟩) hfits))
end
section
variable {X : Cx} {cl : Str → Addr} {F : Fra} {W : WX}
def tRevT (K : PySem.W.Frag) (te : TE) : TE := fun σ H Q => te σ H fun x H1 => ∃ a xs, x = .ref a ∧ SqT K H1 a xs ∧ ∀ p, H1 p = none → Q (.ref p) (upd H1 p (.tup xs.reverse))
theorem pe_revT {e : Expr} {te : TE} {k : Nat} {p1 p2 p3 pos : Pos} (he : PE X e te) : PE X (.Subscript e (.Slice none none (some (.UnaryOp .USub (.Constant (.int 1) k p1) p2)) p3) pos) (tRevT X.K te) := by
  refine ⟨fun pinned s σ H Q I h => ?_⟩
  refine Subscript_ (thn (he.run pinned s σ H _ I h) fun v s1 ⟨x, H1, J1, rel1, wish1⟩ => ?_)
  obtain ⟨a, xs, ex, hx, q⟩ := wish1
  subst ex
  cases rel1
  have hstep : PO X (some (.UnaryOp .USub (.Constant (.int 1) k p1) p2)) (tPart (tUn (rU fun i => .int (-i)) (tC (.int 1)))) := po_some (pe_un un_neg pe_int)
  refine wpAny_Slice (thn (po_none.run pinned s1 σ H1 (fun o H2 => o = none ∧ H2 = H1) J1 ⟨rfl, rfl⟩) fun w1st s2 ⟨l, H2, J2, p1st, el, e2⟩ => ?_)
  subst el e2
  refine thn (po_none.run pinned s2 σ H2 (fun o H3 => o = none ∧ H3 = H2) J2 ⟨rfl, rfl⟩) fun w2nd s3 ⟨u, H3, J3, p2nd, eu, e3⟩ => ?_
  subst eu e3
  refine thn (hstep.run pinned s3 σ H3 (fun o H4 => o = some (-1) ∧ H4 = H3) J3 ⟨1, rfl, -1, rfl, rfl, rfl⟩) fun vs s4 ⟨o, H4, J4, ps, eo, e4⟩ => ?_
  subst eo e4
  have J5 : Inv X pinned σ H4 { s4 with heap := s4.heap.push { cls := .type "slice", data := .fields #[w1st, w2nd, vs] } } := J4.kept (t' := s4.toks) fun b ob q => Heap.get?_push_of_some _ q
  obtain ⟨its, r, htup, hz⟩ := J5.tuple hx
  have hlen := r.length
  show wpAny (model X.prog X.w) X.A (subscriptTail e (.Slice none none (some (.UnaryOp .USub (.Constant (.int 1) k p1) p2)) p3) (.ref a) (.ref s4.heap.objs.size)) (EP X pinned σ Q) X.xe { s4 with heap := s4.heap.push { cls := .type "slice", data := .fields #[w1st, w2nd, vs] } }
  refine tail_any (ops := [.ref a, .ref s4.heap.objs.size]) htup.typeIs (PyProof.Rows.slot_tuple_getitem.lookup) ?_ (by with_unfolding_all rfl)
  refine getItem_tuple_rev htup (Heap.IsSliceOf.new _ w1st w2nd vs) p1st p2nd ps ?_ (by rw [List.size_toArray]; omega)
  refine ⟨.ref _, _, J5.laid (t' := s4.toks) (o := .tup xs.reverse) (fun b ob q => Heap.get?_push_of_some _ q) (Nat.le_refl _) ?_, rfl, q _ (J5.hok.fresh (Nat.le_refl _))⟩
  exact ⟨by rw [List.length_reverse]; exact hz, _, r.reverse, IsTup.new _ _⟩
def revD : D → Option D
  | .tup l => some (.tup l.reverse)
  | _ => none
def cRevT (f : M R) : M R := fun e => (f e).bnd fun r e1 => opt ((e1.rd r).bind revD) e1
theorem re_revT {x : Expr} {f : M R} {k : Nat} {p1 p2 p3 pos : Pos} (h : RE X cl F W x f) : RE X cl F W (.Subscript x (.Slice none none (some (.UnaryOp .USub (.Constant (.int 1) k p1) p2)) p3) pos) (cRevT f) := by
  refine ⟨PE.imp (pe_revT h.pe) fun σ H Q ⟨e, G, st, q⟩ => tD_then st q fun r e1 v H1 G1 s1 k1 r1 z => ?_⟩
  obtain ⟨dz, z1, z⟩ := post_opt z
  obtain ⟨d, hd, hz⟩ := Option.bind_eq_some_iff.mp z1
  have t := s1.top r1 hd
  cases d with
  | tup l =>
    cases hz
    obtain ⟨a, vs, rfl, h1, r⟩ := t.tup s1.ret.gh
    refine ⟨a, vs, rfl, h1, fun p hp => ?_⟩
    have sp : Step H1 G1 (upd H1 p (.tup vs.reverse)) (upd G1 p (.tup vs.reverse)) := .lay .refl hp
    exact z _ _ _ (s1.step sp) (k1.trans (Kp.step s1 sp)) (Rep.tup (.inl (.inl upd_same)) ((RepL.reverse r).mono (sp.same s1.ret.gh).2.1))
  | _ => cases hz
end
end DL

namespace DL
open PySem L2 PySem.Spec PyProof.Rows

/-! ### sorted -/
def srtLe (a b : D) : Bool := PySem.W.dataLe false D.py a b
def sortD (l : List D) : List D := l.mergeSort srtLe
def tupC : D → Bool
  | .tup (_ :: _) => true
  | _ => false
def othC : D → Bool
  | .int _ | .str _ | .bl _ | .lst _ => true
  | _ => false
/-- they can be sorted -/
def srtOk (l : List D) : Bool := D.plL l && (l.all fun a => l.all fun b => PySem.W.alike a.py b.py) && (l.all tupC || l.all othC) && l.all fun a => decide (a.py.depth ≤ 60)
def sortedD : List D → Option D
  | [.lst l] => if srtOk l then some (.lst (sortD l)) else none
  | _ => none
theorem pyL_map : ∀ l : List D, D.pyL l = l.map D.py
  | [] => rfl
  | d :: l => by rw [D.pyL, List.map_cons, pyL_map l]
theorem plL_all : ∀ {l : List D}, D.plL l = true → ∀ d ∈ l, d.pl = true
  | d :: l, h, x, hx => by
    obtain ⟨h1, h2⟩ := Bool.and_eq_true_iff.mp (show (d.pl && D.plL l) = true from h)
    rcases List.mem_cons.mp
                                                                                                              hx with rfl | hx
    · exact h1
    · exact plL_all h2 x hx
section
variable {X : Cx} {cl : Str → Addr} {F : Fra} {W : WX}
theorem each_zip {K : PySem.W.Frag} {H : Hp} : ∀ {ds : List D} {vs : List V} {us : List Value}, RepL K cl H ds vs → Vals vs us → PySem.W.EachIs (fun (u : Value) (p : D × V) => Rep K cl H p.1 p.2 ∧ RelV p.2 u) us (ds.zip vs)
  | [], _, _, .nil, .nil =>
                                                                                                              .nil
  | _ :: _, _, _, .cons r t, .cons q s => .cons ⟨r, q⟩ (each_zip t s)
theorem each_all {α β : Type} {R : α → β → Prop} : ∀ {us : List α} {bs : List β}, PySem.W.EachIs R us bs → ∀ b ∈ bs, ∃ u ∈ us, R u b
  | _, _, .cons r t, b, hb => by
    rcases List.mem_cons.mp
                                                                                                              hb with rfl | hb
    · exact ⟨_, List.mem_cons_self, r⟩
    · obtain ⟨u, h1, h2⟩ := each_all t b hb
      exact ⟨u, List.mem_cons_of_mem _ h1, h2⟩
theorem each_vals {K : PySem.W.Frag} {H : Hp} : ∀ {us : List Value} {ps : List (D × V)}, PySem.W.EachIs (fun (u : Value) (p : D × V) => Rep K cl H p.1 p.2 ∧ RelV p.2 u) us ps → Vals (ps.map (·.2)) us ∧ RepL K cl H (ps.map (·.1)) (ps.map (·.2))
  | _, _, .nil => ⟨.nil, .nil⟩
  | _, _, .cons r t => ⟨.cons r.2 (each_vals t).1, .cons r.1 (each_vals t).2⟩
theorem each_mem {α β : Type} {R R' : α → β → Prop} : ∀ {us : List α} {bs : List β}, PySem.W.EachIs R us bs → (∀ u b, b ∈ bs → R u b → R' u b) → PySem.W.EachIs R' us bs
  | _, _, .nil, _ => .nil
  | _, _, .cons r t, h => .cons (h _ _ List.mem_cons_self r) (each_mem t fun u b hb => h u b (List.mem_cons_of_mem _ hb))
theorem repL_pairs {K : PySem.W.Frag} {H : Hp} : ∀ {ps : List (D × V)}, (∀ p ∈ ps, Rep K cl H p.1 p.2) → RepL K cl H (ps.map (·.1)) (ps.map (·.2))
  | [], _ => .nil
  | p :: ps, h => .cons (h p List.mem_cons_self) (repL_pairs fun q hq => h q (List.mem_cons_of_mem _ hq))
theorem repL_zip {K : PySem.W.Frag} {H : Hp} : ∀ {ds : List D} {vs : List V}, RepL K cl H ds vs → ∀ p ∈ ds.zip vs, Rep K cl H p.1 p.2
  | [], _, .nil, p, hp => by simp at hp
  | _ :: _, _, .cons r t, p, hp => by
    rcases List.mem_cons.mp (show p ∈ (_, _) :: List.zip _ _ from hp) with rfl | hp
    · exact r
    · exact repL_zip t p hp
theorem zip_fst {K : PySem.W.Frag} {H : Hp} : ∀ {ds : List D} {vs : List V}, RepL K cl H ds vs → (ds.zip vs).map (·.1) = ds
  | [], _, .nil => rfl
  | _ :: _, _, .cons r t => by rw [List.zip_cons_cons, List.map_cons, zip_fst t]
/-- the pairs, sorted -/
def sortP (ds : List D) (vs : List V) : List (D × V) := (ds.zip vs).mergeSort (PySem.W.dataLe false fun p => p.1.py)
theorem sortP_fst {K : PySem.W.Frag} {H : Hp} {ds : List D} {vs : List V} (r : RepL K cl H ds vs) : (sortP ds vs).map (·.1) = sortD ds := by
  unfold sortP sortD
  have e : ((ds.zip vs).mergeSort (PySem.W.dataLe false fun p => p.1.py)).map (·.1) = ((ds.zip vs).map (·.1)).mergeSort srtLe := List.map_mergeSort fun a _ b _ => rfl
  rw [e, zip_fst r]
theorem cr_sortD (hu : X.A.units + 64 < cLine) : CallR X (.builtin "sorted") fun xs H Q => ∃ a ds vs, xs = [V.ref a] ∧ SqL X.K H a vs ∧ RepL X.K cl H ds vs ∧ srtOk ds = true ∧ ∀ p, H p = none → Q (.ref p) (upd H p (.lst ((sortP ds vs).map (·.2)))) := by
  intro pins s σ
                                                                                                              H xs us Q I r h
  obtain ⟨a, ds, vs, rfl, hs, rp, ok, q⟩ := h
  obtain ⟨its, rv, hl,
                                                                                                              hz⟩ := I.list hs
  rw [Vals.ref1 r]
  unfold srtOk at ok
  simp only [Bool.and_eq_true, Bool.or_eq_true, List.all_eq_true, decide_eq_true_eq] at ok
  obtain ⟨⟨⟨pl, al⟩, kd⟩, dp⟩ := ok
  have hlen : (ds.zip vs).length = vs.length := by rw [List.length_zip, rp.length, Nat.min_self]
  have hm : (ds.zip vs).map (fun p => p.1.py) = ds.map D.py := by
    rw [show (fun p : D × V => p.1.py) = D.py ∘ (·.1) from rfl, ← List.map_map, zip_fst rp]
  have e := each_zip rp rv
  refine PySem.W.sorted_data (bs := ds.zip vs) (enc := fun p => p.1.py) (R := fun u p => Rep X.K cl H p.1 p.2 ∧ RelV p.2 u) hl.isList e ?_ ?_ ?_ ?_ ?_ fun out l1 e2 => ?_
  · refine each_mem e fun u p hp hq => ?_
    obtain ⟨as, hr⟩ := Dp.reads I p.1.py p.2 u (hq.1.dp (plL_all pl _ (List.of_mem_zip hp).1)) hq.2
    exact ⟨as, hr⟩
  · rw [hm]
    intro d hd d' hd'
    obtain ⟨x, hx, rfl⟩ := List.mem_map.mp hd
    obtain ⟨y, hy, rfl⟩ := List.mem_map.mp hd'
    exact al x hx y hy
  · rw [hm]
    rcases kd with kd | kd
    · refine .inl fun d hd => ?_
      obtain ⟨x, hx, rfl⟩ := List.mem_map.mp hd
      have k := kd x hx
      unfold tupC at k
      split at k
      · exact ⟨_, _, by rw [D.py, D.pyL]⟩
      · cases k
    · refine .inr fun d hd => ?_
      obtain ⟨x, hx, rfl⟩ := List.mem_map.mp hd
      have k := kd x hx
      cases x <;> first | cases k; done | (refine ⟨?_, fun xs => ?_⟩ <;> (rw [D.py]; intro z; cases z))
  · rw [hlen]; exact hz
  · intro p hp
    have := dp p.1 (List.of_mem_zip hp).1
    omega
  · obtain ⟨v1, _⟩ := each_vals e2
    have l2 : ((sortP ds vs).map (·.2)).length = vs.length := by rw [List.length_map, sortP, List.length_mergeSort, hlen]
    exact ⟨.ref _, _, I.laid (t' := s.toks) (o := .lst ((sortP ds vs).map (·.2))) (fun b o => sortedAll_old) (Nat.le_succ _) ⟨by rw [l2]; exact hz, out, _, v1, (sortedAll_at s.heap its out.toArray).choose_spec⟩, rfl, q _ (I.hok.fresh (Nat.le_succ _))⟩
theorem cd_sorted (hu : X.A.units + 64 < cLine) : CallD X cl (.builtin "sorted") sortedD := by
  refine ⟨_, cr_sortD (cl := cl) hu, fun H G xs ds dz Q gh t e k => ?_⟩
  unfold sortedD at e
  split at e
  · split at e
    · rename_i ok
      cases e
      obtain ⟨v, rfl, tv⟩ := topL1 t
      obtain ⟨a, vs, rfl, h1, r⟩ := tv.lst gh
      refine ⟨a, _, vs, rfl, SqL.of h1, r.mono gh, ok, fun p hp => k _ _ _ (.lay .refl hp) (.lst upd_same ?_)⟩
      rw [← sortP_fst r]
      refine (repL_pairs fun p hp => ?_).mono (same_upd (gh.free hp))
      exact repL_zip r p (List.mem_mergeSort.mp hp)
    · cases e
  · cases e
end
end DL

namespace DL
open PySem L2 PySem.Spec PyProof.Rows

/-! ### {k: v for .. in ..} -/
def kD : D → Option Key
  | .int i => some (.inl i)
  | .str s => some (.inr s)
  | _ => none
def putDv (ks : List Key) (l : List D) (k : Key) (d : D) : List Key × List D :=
  if (ks.any fun j => decide (j = k)) = true then (ks, (ks.zip l).map fun p => if p.1 = k then d else p.2) else (ks ++ [k], l ++ [d])
def dcL (vs : List Nat) (g : Tg) (t : M Bool) (fk fv : M R) : List D → List Key → List D → M (List Key × List D)
  | [], ak, al, e => .ok (ak, al) e
  | d :: ds, ak, al, e => match g d (e.wipe vs) with
    | none => .bad
    | some e1 => match t e1 with
      | .ok true e2 => (match fk e2 with
        | .ok r e3 => (match (e3.rd r).bind kD with
          | some k => (match fv e3 with
            | .ok q e4 => (match e4.frz q with
              | some (y, e5) => if ak.length < sizeLine then dcL vs g t fk fv ds (putDv ak al k y).1 (putDv ak al k y).2 e5 else .bad
              | none => .bad)
            | _ => .bad)
          | none => .bad)
        | _ => .bad)
      | .ok false e2 => dcL vs g t fk fv ds ak al e2
      | _ => .bad
def cDc (vs : List Nat) (fi : M (List D)) (g : Tg) (t : M Bool) (fk fv : M R) : M R := fun e => (fi e).bnd fun ds e1 => if plainAt e1 vs then (match dcL vs g t fk fv ds [] [] e1 with
  | .ok out e2 => .ok (.val (.dct out.1 out.2)) (e1.back e2 vs)
  | _ => .bad) else .bad
section
variable {K : PySem.W.Frag} {cl : Str → Addr} {F : Fra} {e e' : Env} {σ : L2.St} {H G H' G' : Hp}
theorem any_zip {k : Key} : ∀ {ks : List Key} {us : List V}, ks.length = us.length → ((ks.zip us).any fun kv => decide (kv.1 = k)) = ks.any fun j => decide (j = k)
  | [], [], _ => rfl
  | [], _ :: _, h =>
                                                                                                              by simp at h
  | _ :: _, [], h =>
                                                                                                              by simp at h
  | a :: ks, u :: us, h => by rw [List.zip_cons_cons, List.any_cons, List.any_cons, any_zip (by simpa using h)]
theorem map_zip {k : Key} {d : D} {v : V} (rv : Rep K cl G d v) : ∀ {ks : List Key} {l : List D} {us : List V}, ks.length = us.length → RepL K cl G l us →
    ∃ us', (ks.zip us).map (fun kv => if kv.1 = k then (kv.1, v) else kv) = ks.zip us' ∧ ks.length = us'.length ∧ RepL K cl G ((ks.zip l).map fun p => if p.1 = k then d else p.2) us'
  | [], [], [], _, _ => ⟨[], rfl, rfl, .nil⟩
  | [], _, _ :: _, h, _ => by simp at h
  | _ :: _, _, [], h, _ => by simp at h
  | [], _ :: _, [], _, t => by cases t
  | a :: ks, x :: l, u :: us, h, .cons r t => by
    obtain ⟨us', h1, h2, h3⟩ := map_zip (k := k) rv (by simpa using h) t
    by_cases ha : a = k
    · refine ⟨v :: us', ?_, by simp [h2], ?_⟩
      · rw [List.zip_cons_cons, List.map_cons, if_pos ha, h1]; rfl
      · rw [List.zip_cons_cons, List.map_cons, if_pos ha]; exact .cons rv h3
    · refine ⟨u :: us', ?_, by simp [h2], ?_⟩
      · rw [List.zip_cons_cons, List.map_cons, if_neg ha, h1]; rfl
      · rw [List.zip_cons_cons, List.map_cons, if_neg ha]; exact .cons r h3
theorem put_zip {k : Key} {d : D} {v : V} (rv : Rep K cl G d v) {ks : List Key} {l : List D} {us : List V} (hl : ks.length = us.length) (r : RepL K cl G l us) :
    ∃ us', putK (ks.zip us) k v = (putDv ks l k d).1.zip us' ∧ (putDv ks l k d).1.length = us'.length ∧ RepL K cl G (putDv ks l k d).2 us' := by
  unfold putK putDv
  rw [any_zip hl]
  by_cases h : (ks.any fun j => decide (j = k)) = true
  · rw [if_pos h, if_pos h]
    exact map_zip rv hl r
  · rw [if_neg h, if_neg h]
    refine ⟨us ++ [v], ?_, by simp [hl], r.append (.cons rv .nil)⟩
    show ks.zip us ++ [(k, v)] = (ks ++ [k]).zip (us ++ [v])
    rw [List.zip_append hl]
    rfl
theorem kD_top {d : D} {v : V} {k : Key} (t : Top K cl H G d v) (h : kD d = some k) : v = kV k := by
  cases d with
  | int i => cases h; rcases t with t | ⟨_, _, _, t⟩; · cases t; rfl
             exact t.elim
  | str s => cases h; rcases t with t | ⟨_, _, _, t⟩; · cases t; rfl
             exact t.elim
  | _ => cases h
/-- through the turns of a comprehension: e1 at the beginning, e now -/
structure DcI (K : PySem.W.Frag) (cl : Str → Addr) (F : Fra) (σ : L2.St) (vs : List Nat) (p : Addr) (e1 : Env) (H1 G1 : Hp) (e : Env) (ak : List Key) (al : List D) (H G : Hp) : Prop where
  st : Stt K cl F (e.wipe vs) (L2.wipe σ vs) H G
  gg : Same G1 G
  hd : ∃ us, H p = some (.dK (ak.zip us)) ∧ ak.length = us.length ∧ RepL K cl G al us
  gd : G p = none
  kp : ∀ a o, H1 a = some o → Loose F e1 σ a → H a = some o ∧ (G1 a = none → G a = none)
  ow : ∀ (i : Nat) (d : D), i ∉ vs → e.s[i]? = some (.own d) → ∃ d', e1.s[i]? = some (.own d')
/-- one turn's target: the state within the turn -/
theorem DcI.turn {vs ws : List Nat} {p : Addr} {e1 e3 : Env} {H1 G1 H2 G2 : Hp} {ak : List Key} {al : List D} {σ2 : L2.St} (L : DcI K cl F σ vs p e1 H1 G1 e ak al H G) (hp : Loose F e1 σ p) (sp : Step H G H2 G2) (hw : ∀ i ∈ ws, i ∈ vs)
    (ag : Agr ws (L2.wipe σ vs) σ2) (ea : EAgr ws (e.wipe vs) e3) :
    Sub vs e1 σ e3 σ2 ∧ Same G1 G2 ∧ (∃ us, H2 p = some (.dK (ak.zip us)) ∧ ak.length = us.length ∧ RepL K cl G2 al us) ∧ G2 p = none ∧ (∀ a o, H1 a = some o → Loose F e1 σ a → H2 a = some o ∧ (G1 a = none → G2 a = none)) := by
  obtain ⟨a1, a2, a3⟩ := sp.same L.st.ret.gh
  obtain ⟨us, h1, hln, h2⟩ := L.hd
  refine ⟨⟨fun i d h => ?_, fun i hi => ?_⟩, L.gg.trans a2, ⟨us, a1 _ _ h1, hln, h2.mono a2⟩, sp.none L.st.ret.gh h1 L.gd, fun a o q l => ?_⟩
  · by_cases hiw : i ∈ ws
    · have := ea.pl i hiw _ h; cases this
    · rw [ea.out i hiw] at h
      by_cases hiv : i ∈ vs
      · cases wipe_in vs e hiv h
      · rw [wipe_out vs e hiv] at h
        exact ⟨hiv, L.ow i d hiv h⟩
  · rw [ag.2 i (fun z => hi (hw i z)), wipeσ_out vs σ hi]
  · obtain ⟨q1, q2⟩ := L.kp a o q l
    exact ⟨a1 _ _ q1, fun g => sp.none L.st.ret.gh q1 (q2 g)⟩
theorem dc_D {W : WX} {vs ws : List Nat} {fi : M (List D)} {g : Tg} {ft : M Bool} {fk fv : M R} {Q : VK} (hw : ∀ i ∈ ws, i ∈ vs) (hfr : ∀ d e e', g d e = some e' → EAgr ws e e') (h : tD K cl F W (cDc vs fi g ft fk fv) σ H Q) :
    tDc (fun σ H Q => ∃ e G, Stt K cl F e σ H G ∧ Post K cl F W σ (fi e) fun ds e' => ∀ J H' G', Stt K cl F e' σ H' G' → Kp F σ e H G e' H' G' → ItOk K cl G' J ds → Q J H') (tG K cl F ws g) (tB' K cl F W0 ft) (tD K cl F W0 fk) (tD K cl F W0 fv) vs σ H Q := by
  obtain ⟨e0, G0, st, q⟩ := h
  refine tI_then st q fun ds e1 J H1 G1 s1 k1 it z p hp => ?_
  by_cases pl : plainAt e1 vs = true
  · rw [if_pos pl] at z
    cases hl : dcL vs g ft fk fv ds [] [] e1 with
    | bad => rw [hl] at z; exact z.elim
    | exn x e2 => rw [hl] at z; exact z.elim
    | ok out e2 =>
      rw [hl] at z
      obtain ⟨lp, hp0⟩ := s1.fresh hp
      refine ⟨fun i m H => ∃ e ak al G, DcI K cl F σ vs p e1 H1 G1 e ak al H G ∧ m = ds.length - i ∧ i ≤ ds.length ∧ dcL vs g ft fk fv (ds.drop i) ak al e = .ok out e2, ⟨ds.length, e1, [], [], G1, ?_, by omega, Nat.zero_le _, by simpa using hl⟩, ?_⟩
      · have g1p : G1 p = none := s1.ret.gh.free hp
        exact ⟨(s1.layL hp).wipe vs, .refl _, ⟨[], upd_same, rfl, .nil⟩, g1p, fun a o h1 _ => ⟨by rw [upd_ne (ne_of_none h1 hp)]; exact h1, fun g => g⟩, fun i d _ h => ⟨d, h⟩⟩
      · rintro i m H ⟨e, ak, al, G, L, rfl, hi, hl⟩
        obtain ⟨it1, it2⟩ := it H G L.gg L.st.ret.gh
        by_cases hlt : i < ds.length
        · have hd : ds[i]? = some ds[i] := List.getElem?_eq_getElem hlt
          obtain ⟨hgo, hy⟩ := it1 i _ hd
          refine .inr ⟨hgo, fun H' => ∃ e ak al G, DcI K cl F σ vs p e1 H1 G1 e ak al H' G ∧ dcL vs g ft fk fv (ds.drop (i + 1)) ak al e = .ok out e2, fun H' ⟨e', ak', al', G', L', hl'⟩ => ⟨ds.length - (i + 1), by omega, e', ak', al', G', L', rfl, hlt, hl'⟩, fun x H2 y => ?_⟩
          obtain ⟨G2, sp, rx⟩ := hy x H2 y
          rw [List.drop_eq_getElem_cons hlt] at hl
          have hl : (match g ds[i] (e.wipe vs) with
            | none => Out.bad
            | some e1 => match ft e1 with
              | .ok true e2 => (match fk e2 with
                | .ok r e3 => (match (e3.rd r).bind kD with
                  | some k => (match fv e3 with
                    | .ok q e4 => (match e4.frz q with
                      | some (y, e5) => if ak.length < sizeLine then dcL vs g ft fk fv (ds.drop (i + 1)) (putDv ak al k y).1 (putDv ak al k y).2 e5 else .bad
                      | none => .bad)
                    | _ => .bad)
                  | none => .bad)
                | _ => .bad)
              | .ok false e2 => dcL vs g ft fk fv (ds.drop (i + 1)) ak al e2
              | _ => .bad) = .ok out e2 := hl
          cases hg : g ds[i] (e.wipe vs) with
          | none => rw [hg] at hl; cases hl
          | some e3 =>
            rw [hg] at hl
            refine ⟨e.wipe vs, e3, G2, _, L.st.step sp, rx, hg, fun σ2 ag s2 => ⟨wipe_agr ag hw, e3, G2, s2, ?_⟩⟩
            obtain ⟨sub, gg2, ⟨us, hu1, hul, hu2⟩, gp2, kp2⟩ := L.turn lp sp hw ag (hfr _ _ _ hg)
            have wag := wipe_agr ag hw
            cases ht : ft e3 with
            | bad => simp only [ht] at hl; cases hl
            | exn x e4 => simp only [ht] at hl; cases hl
            | ok b e4 =>
              simp only [ht] at hl
              cases b with
              | false =>
                intro H3 G3 s3 k3
                refine iteF ⟨e4, ak, al, G3, ⟨?_, gg2.trans k3.gg, ⟨us, (k3.kp p _ hu1 (lp.sub sub)).1, hul, hu2.mono k3.gg⟩, (k3.kp p _ hu1 (lp.sub sub)).2 gp2, fun a o h1 l => ?_, fun j d _ h => ?_⟩, hl⟩
                · have := s3.wipe vs; rw [wag] at this; exact this
                · obtain ⟨q1, q2⟩ := kp2 a o h1 l
                  obtain ⟨q3, q4⟩ := k3.kp a o q1 (l.sub sub)
                  exact ⟨q3, fun g => q4 (q2 g)⟩
                · obtain ⟨d', h'⟩ := k3.ow j d h
                  exact (sub.ow j d' h').2
              | true =>
                intro H3 G3 s3 k3
                refine iteT ⟨e4, G3, s3, ?_⟩
                cases hf : fk e4 with
                | bad => simp only [hf] at hl; cases hl
                | exn x e5 => simp only [hf] at hl; cases hl
                | ok r e5 =>
                  simp only [hf] at hl
                  intro y H4 G4 s4 k4 r4
                  cases hk : (e5.rd r).bind kD with
                  | none => simp only [hk] at hl; cases hl
                  | some k =>
                    simp only [hk] at hl
                    obtain ⟨dk, hk1, hk2⟩ := Option.bind_eq_some_iff.mp hk
                    have ek := kD_top (s4.top r4 hk1) hk2
                    refine ⟨e5, G4, s4, ?_⟩
                    cases hf2 : fv e5 with
                    | bad => simp only [hf2] at hl; cases hl
                    | exn x e6 => simp only [hf2] at hl; cases hl
                    | ok q e6 =>
                      simp only [hf2] at hl
                      intro z H5 G5 s5 k5 r5
                      cases hz : e6.frz q with
                      | none => simp only [hz] at hl; cases hl
                      | some py =>
                        obtain ⟨dy, e7⟩ := py
                        simp only [hz] at hl
                        by_cases hsz : ak.length < sizeLine
                        · rw [if_pos hsz] at hl
                          obtain ⟨G6, s6, k6, r6⟩ := frz_ok s5 r5 hz
                          have kk := ((k3.trans k4).trans k5).trans k6
                          obtain ⟨h5p, g6p⟩ := kk.kp p _ hu1 (lp.sub sub)
                          have g6p := g6p gp2
                          obtain ⟨us', p1, p2, p3⟩ := put_zip (k := k) r6 hul (hu2.mono kk.gg)
                          refine ⟨ak.zip us, k, ek, h5p, by rw [List.length_zip, ← hul, Nat.min_self]; exact hsz, e7, _, _, G6, ⟨?_, gg2.trans kk.gg, ⟨us', by rw [upd_same, p1], p2, p3⟩, g6p, fun a o h1 l => ?_, fun j d _ h => ?_⟩, hl⟩
                          · have := s6.wipe vs
                            rw [wag] at this
                            refine this.updL h5p g6p hp0 ⟨lp.1, fun j d hj => ?_⟩
                            by_cases hjv : j ∈ vs
                            · cases wipe_in vs e7 hjv hj
                            · rw [wipe_out vs e7 hjv] at hj
                              obtain ⟨d', h'⟩ := kk.ow j d hj
                              obtain ⟨_, d2, h2⟩ := sub.ow j d' h'
                              rw [wipeσ_out vs σ hjv]
                              exact lp.2 j d2 h2
                          · obtain ⟨q1, q2⟩ := kp2 a o h1 l
                            obtain ⟨q3, q4⟩ := kk.kp a o q1 (l.sub sub)
                            exact ⟨by rw [upd_ne (ne_of_none h1 hp)]; exact q3, fun g => q4 (q2 g)⟩
                          · obtain ⟨d', h'⟩ := kk.ow j d h
                            exact (sub.ow j d' h').2
                        · rw [if_neg hsz] at hl; cases hl
        · have e3 : i = ds.length := by omega
          subst e3
          rw [List.drop_length] at hl
          cases hl
          obtain ⟨us, hu1, hul, hu2⟩ := L.hd
          have sb : Stt K cl F (e1.back e2 vs) σ H G := s1.back pl L.gg L.st
          have lb : Loose F (e1.back e2 vs) σ p := ⟨lp.1, fun j d hj => by
            by_cases hjv : j ∈ vs
            · rw [back_in vs e1 e2 (by rw [← s1.len, ← wipe_len vs e2, ← L.st.len, wipe_length]) hjv] at hj
              exact lp.2 j d hj
            · rw [back_out vs e1 e2 hjv] at hj
              obtain ⟨d', h'⟩ := L.ow j d hjv hj
              exact lp.2 j d' h'⟩
          refine .inl ⟨it2, z _ H _ (sb.addG hu1 L.gd hp0 lb) (k1.trans ⟨L.gg.trans (same_upd L.gd), fun a o h1 l => ?_, fun j d hj => ?_⟩) (Rep.dct upd_same hul (hu2.mono (same_upd L.gd)))⟩
          · obtain ⟨q1, q2⟩ := L.kp a o h1 l
            exact ⟨q1, fun g => by rw [upd_ne (ne_of_none h1 hp)]; exact q2 g⟩
          · by_cases hjv : j ∈ vs
            · rw [back_in vs e1 e2 (by rw [← s1.len, ← wipe_len vs e2, ← L.st.len, wipe_length]) hjv] at hj
              exact ⟨d, hj⟩
            · rw [back_out vs e1 e2 hjv] at hj
              exact L.ow j d hjv hj
  · rw [if_neg pl] at z; exact z.elim
end
section
variable {X : Cx} {cl : Str → Addr} {F : Fra} {W : WX}
theorem re_dc {kx vx tg iter : Expr} {ifs : List Expr} {scope : Scope} {own : List (Str × Nat)} {ws : List Nat} {pos : Pos} {fi : M (List D)} {g : Tg} {ft : M Bool} {fk fv : M R} (hc : X.calm = true) (hN : X.N.Nodup) (hi : RI X cl F W tg iter fi) (ok : BlkOk X.N X.env.scope scope own)
    (hg : ∀ (s : Shared) (H : Hp) (C : Addr) (cs : List (Str × Addr)) (fp : List Addr), RG (X.blk s H scope (compEnvC scope cs C X.env) fp) cl F ws tg g)
    (ht : ∀ (s : Shared) (H : Hp) (C : Addr) (cs : List (Str × Addr)) (fp : List Addr), RTs (X.blk s H scope (compEnvC scope cs C X.env) fp) cl F W0 ifs ft)
    (hk : ∀ (s : Shared) (H : Hp) (C : Addr) (cs : List (Str × Addr)) (fp : List Addr), RE (X.blk s H scope (compEnvC scope cs C X.env) fp) cl F W0 kx fk)
    (he : ∀ (s : Shared) (H : Hp) (C : Addr) (cs : List (Str × Addr)) (fp : List Addr), RE (X.blk s H scope (compEnvC scope cs C X.env) fp) cl F W0 vx fv)
    (hw : ∀ i ∈ ws, i ∈ own.map (·.2) := by decide) (hs : ∀ x, foldedSetIterable iter X.env x = pure x := by intro _; rfl) : RE X cl F W (.DictComp kx vx [⟨tg, iter, ifs, 0⟩] scope pos) (cDc (own.map (·.2)) fi g ft fk fv) :=
  ⟨⟨fun pins s σ H Q I h => (pe_dc hc hN hi.pi ok (fun s H C cs fp => (hg s H C cs fp).pg) (fun s H C cs fp => (ht s H C cs fp).pts) (fun s H C cs fp => (hk s H C cs fp).pe) (fun s H C cs fp => (he s H C cs fp).pe) hs).run pins s σ H Q I (dc_D hw (hg s H 0 [] []).fr h)⟩⟩
end
end DL

namespace DL
open PySem L2 PySem.Spec PyProof.Rows

/-! ### repr: within a call by a caller that is in no repr -/
/-- a def's promise at such calls -/
structure FnG (P : Program) (w : World) (K : PySem.W.Frag) (mg : Str → Option Value) (base : Heap)
    (k : Nat) (f : Addr) (fd : FuncData) (ps : List Str) (sp : Sp) : Prop where
  len : ∀ ys H Q E, sp ys H Q E → ys.length = ps.length
  run : ∀ (A : Around) (out : List PySem.Env) (s : Shared) (H : Hp) (g : Args) (us : List Value) (ys : List V) (Q : VK) (E : XK),
    Room k A → A.guards = some [] → Env0 P w K mg base A out s H → BindsTo s fd g (ps.zip us) → Vals ys us → sp ys H Q E →
    codeAny (model P w) A (.call (.ref f) g) (CR (L2.CX P w) out P w H s Q E) s
section
variable {P : Program} {w : World} {K : PySem.W.Frag} {mg : Str → Option Value} {base : Heap} {k : Nat} {f : Addr} {fd : FuncData} {ps : List Str} {sp sp' : Sp} {cl : Str → Addr}
theorem FnG.of (Fn : FnOk P w K mg base (L2.CX P w) k f fd ps sp) : FnG P w K mg base k f fd ps sp :=
  ⟨Fn.len, fun A out s H g us ys Q E hr _ => Fn.run A out s H g us ys Q E hr⟩
theorem FnG.mono {j : Nat} (Fn : FnG P w K mg base j f fd ps sp) (h : j ≤ k) : FnG P w K mg base k f fd ps sp :=
  ⟨Fn.len, fun A out s H g us ys Q E hr => Fn.run A out s H g us ys Q E (hr.mono h)⟩
theorem FnG.imp (Fn : FnG P w K mg base k f fd ps sp) (i : ∀ ys H Q E, sp' ys H Q E → sp ys H Q E) : FnG P w K mg base k f fd ps sp' :=
  ⟨fun ys H Q E q => Fn.len ys H Q E (i _ _ _ _ q), fun A out s H g us ys Q E hr hg e0 b r q => Fn.run A out s H g us ys Q E hr hg e0 b r (i _ _ _ _ q)⟩
theorem FnG.by {Φ Ψ : Fn} (h : FnG P w K mg base k f fd ps (spD K cl Φ)) (e : ∀ as j, Ψ as j ≠ .bad → Φ as j = Ψ as j) : FnG P w K mg base k f fd ps (spD K cl Ψ) :=
  h.imp fun vs H Q E ⟨as, j, js, G, gh, ao, jr, q⟩ => ⟨as, j, js, G, gh, ao, jr, by
    rw [e as j fun z => by rw [z] at q; exact q]
    exact q⟩
/-- the def's rule, by the body's own wish -/
theorem fnG_of {x qual : Str} {params : Arguments} {body : List Stmt} {scope : Scope} {dV kV doc pm cdv ct oc : Value} {an od : Option Addr} {osl : Array (Option Value)} {N : List Str}
    (look : K.lookup f = some ⟨oc, od, .func (PySem.W.fnOf x qual params body scope dV kV doc pm an cdv ct), osl⟩) (hcode : PySem.W.codeIn K cdv qual = true) (S : FnScope N ps scope) (len : ∀ ys H Q E, sp ys H Q E → ys.length = ps.length)
    (walk : ∀ (A : Around) (out : List PySem.Env) (s : Shared) (H : Hp) (ys : List V) (Q : VK) (E : XK),
      Room k (A.deeper (envOfC qual scope s.heap.objs.size f cdv)) → (A.deeper (envOfC qual scope s.heap.objs.size f cdv)).guards = some [] → sp ys H Q E →
      ∃ t, PSs (cxOf (L2.CX P w) P w K mg base N qual scope f cdv A out s H E) body t ∧ t { nx := fun _ H' => Q .non H', rt := Q } (start N ys) H) :
    FnG P w K mg base (k + 1) f (PySem.W.fnOf x qual params body scope dV kV doc pm an cdv ct) ps sp := by
  refine ⟨len, fun A out s H g us ys Q E hr hg env bnd rel pr => ?_⟩
  have hlen := len _ _ _ _ pr
  have frag : K.In s.heap := env.mod.kin.keeps fun p o z => (env.bs p o z).1
  have nolim : s.heap.NoLimit := env.mod.nolimit.keeps fun p o z => (env.bs p o z).1
  have kinds : ∀ y ∈ ps.zip us, scope.names.lookup y.1 = some .local ∨
      (scope.names.lookup y.1 = some .cell ∧ ((cellsFrom (s.heap.objs.size + 1) scope.names []).lookup y.1).isSome = true) := by
    rintro ⟨n, v⟩ hy
    cases S.par n (List.of_mem_zip hy).1 with
    | inl q => exact .inl q
    | inr q => exact .inr ⟨q, PySem.W.cellsFrom_some _ _ _ (.inl q)⟩
  refine codeAny_call_function hr.depth (frag _ _ look) rfl S.co S.gen rfl (PySem.W.codeRec_of frag hcode) (bnd _ _ _ _ ?_)
  refine wpAny_newFunctionEnv_cells S.kind kinds fun env' ee s1 new => ?_
  subst ee
  refine ⟨nolim.keeps new.toInCall.keep, codeAny_func ?_⟩
  obtain ⟨t, walked, hq⟩ := walk A out s H ys Q E (hr.deeper _) hg pr
  have inv : Inv (cxOf (L2.CX P w) P w K mg base N qual scope f cdv A out s H E) [] (start N ys) H s1 := inv_start S hr.hd env hlen rel new
  refine wpAny_mono (walked.run [] s1 (start N ys) H _ inv hq) (fun fl s' ends => ?_) fun _ _ z => z
  have back : ∀ {σ' : L2.St} {H' : Hp} {v : V} {u : Value}, Inv (cxOf (L2.CX P w) P w K mg base N qual scope f cdv A out s H E) [] σ' H' s' → RelV v u → Q v H' → CE out P w H s Q u s' :=
    fun {σ' H' v u} J rv q => ⟨v, H',
                                                                                                              J.os, J.bare, J.base, J.hok, rv, q⟩
  cases fl with
  | brk => obtain ⟨_, _, _, q⟩ := ends; exact q.elim
  | cont => obtain ⟨_, _, _, q⟩ := ends; exact q.elim
  | next => obtain ⟨σ', H', J, q⟩ := ends; exact back (v := .non) (u := .none) J rfl q
  | ret u => obtain ⟨v, σ', H', J, rv, q⟩ := ends; exact back J rv q
/-- THE RULE for a def that uses repr -/
theorem fnG_D {x qual : Str} {params : Arguments} {body : List Stmt} {scope : Scope} {kws : List (Str × V)} {dvs : List V} {N : List Str} {g : M Fl}
    (Fn : FunD K x qual params body scope dvs kws f fd) (S : FnScope N ps scope)
    (hbody : ∀ (F : Fra) (cdv : Value) (A : Around) (out : List PySem.Env) (s : Shared) (H : Hp) (E : XK), Room k (A.deeper (envOfC qual scope s.heap.objs.size f cdv)) →
      (A.deeper (envOfC qual scope s.heap.objs.size f cdv)).guards = some [] →
      RSs (cxOf (L2.CX P w) P w K mg base N qual scope f cdv A out s H E) cl F (fun c d _ H => E c d H) body g) :
    FnG P w K mg base (k + 1) f fd ps (spD K cl (fnOf N.length ps.length g)) := by
  obtain ⟨oc, od, dV, kV, doc, pm, an, cdv, ct, osl, rfl, lk, hcd, _, _⟩ := Fn.ex
  refine fnG_of lk hcd S (fun ys H Q E h => ?_) fun A out s H ys Q E hr hg h => ?_
  · obtain ⟨as, j, js, G, gh, ao, jr, q⟩ := h
    unfold fnOf at q
    split at q
    · rename_i hl; rw [← ao.length, hl]
    · exact q.elim
  · obtain ⟨as, j, js, G, gh, ao, jr, q⟩ := h
    refine ⟨_, (hbody ⟨H, G, js⟩ cdv A out s H E hr hg).pss, _, _, stt_start gh ao jr, ?_⟩
    unfold fnOf at q
    split at q
    · exact PostFn.of (K := K) q
    · exact q.elim
end
section
variable {X : Cx} {cl : Str → Addr} {F : Fra} {W : WX} {k : Nat} {f : Addr} {fd : FuncData} {ps : List Str} {Φ : Fn} {x : Str} {p pos : Pos} {a : Expr} {es : List Expr} {fs : M (List R)} {sp : Sp} {t : TA} {E : L2.St → XK}
theorem pe_callG (Fn : FnG X.prog X.w X.K X.mg X.base k f fd ps sp) (hG : X.A.guards = some []) (hr : Room k X.A) (hg : Gl X x) (hm : X.mg x = some (.ref f)) (hk : PySem.W.keepIn X.K (.ref f) = true) (hb : Binds X.K fd ps [])
    (hx : ∀ σ, PassesAt (L2.CX X.prog X.w) X σ (E σ)) (ha : PA X (a :: es) t) (hdb : (x == ("__debug__" : Str)) = false)
    (he : starEach (a :: es) X.env = (false, eval a X.env) :: starEach es X.env) (hpl : (backTo pos (starEach es X.env)).any (·.1) = false) : PE X (.Call (.Name x p) (a :: es) [] pos) (tCallS sp E t) := by
  refine ⟨fun pins s σ H Q inv h => wpAny_Call_Name_kw (ld_glob inv hg hm ?_ hdb)⟩
  refine PySem.W.callWith_K (h₀ := X.base) inv.ok.mod.kin hk (thn (ha.run pos pins s σ H _ inv h) fun us s1 ⟨ys, H1, J, r, q⟩ => ⟨J.kIn, ?_⟩) he hpl
  have hlen : us.length = ps.length := by rw [← r.length]; exact Fn.len _ _ _ _ q
  have bnd := hb s1 us J.kIn (by rw [List.append_nil]; exact hlen)
  rw [List.append_nil] at bnd
  refine wpAny_call (codeAny_mono (Fn.run X.A X.stack s1 H1 ⟨us, []⟩ us ys Q (E σ) hr hG J.env0 bnd r q) fun res s' z => ?_)
  cases res with
  | error er => exact hx σ pins H1 s1 er s' J z
  | ok fl =>
    cases fl with
    | next => exact z.elim
    | brk => exact z.elim
    | cont => exact z.elim
    | ret u => exact J.after z
theorem re_callG (Fn : FnG X.prog X.w X.K X.mg X.base k f fd ps (spD X.K cl Φ)) (hG : X.A.guards = some []) (hr : Room k X.A) (tk : Takes X W) (hg : Gl X x) (hm : X.mg x = some (.ref f)) (hk : PySem.W.keepIn X.K (.ref f) = true) (hb : Binds X.K fd ps [])
    (ha : RA X cl F W (a :: es) fs) (hdb : (x == ("__debug__" : Str)) = false := by decide) (he : starEach (a :: es) X.env = (false, eval a X.env) :: starEach es X.env := by rfl) (hpl : (backTo pos (starEach es X.env)).any (·.1) = false := by rfl) :
    RE X cl F W (.Call (.Name x p) (a :: es) [] pos) (cCall Φ fs) :=
  ⟨PE.imp (pe_callG Fn hG hr hg hm hk hb (fun σ => passAt tk σ) ha.pa hdb he hpl) fun σ H Q h => call_D h⟩
theorem re_callGJ (Fn : FnG X.prog X.w X.K X.mg X.base k f fd ps (spD X.K cl Φ)) (hG : X.A.guards = some []) (hr : Room k X.A) (tk : Takes X W) (hg : Gl X x) (hm : X.mg x = some (.ref f)) (hk : PySem.W.keepIn X.K (.ref f) = true) (hb : Binds X.K fd ps [])
    (ha : RA X cl F W (a :: es) fs) (hdb : (x == ("__debug__" : Str)) = false := by decide) (he : starEach (a :: es) X.env = (false, eval a X.env) :: starEach es X.env := by rfl) (hpl : (backTo pos (starEach es X.env)).any (·.1) = false := by rfl) :
    RE X cl F W (.Call (.Name x p) (a :: es) [] pos) (cCallJ Φ fs) :=
  ⟨PE.imp (pe_callG Fn hG hr hg hm hk hb (fun σ => passAt tk σ) ha.pa hdb he hpl) fun σ H Q h => callJ_D h⟩
def isSeqD : D → Bool
  | .tup _ | .lst _ => true
  | _ => false
def reprD : List D → Option D
  | [d] => if isSeqD d && d.pl && d.py.showable && decide (d.py.depth ≤ 60) && decide (d.py.shown.length ≤ sizeLine) && !d.py.hasDict then some (.str d.py.shown) else none
  | _ => none
theorem cd_repr (hG : X.A.guards = some []) (hu : X.A.units + 64 < cLine) : CallD X cl (.builtin "repr") reprD := by
  refine ⟨fun xs H Q => ∃ a d, xs = [V.ref a] ∧ Dp X.K H (.ref a) d ∧ d.showable = true ∧ d.depth ≤ 60 ∧ d.shown.length ≤ sizeLine ∧ d.hasDict = false ∧ Q (.str d.shown) H, ?_, fun H G xs ds dz Q gh t e k => ?_⟩
  · intro pins s σ H xs us Q I r h
    obtain ⟨a, d, rfl, hd, h1, h2, h3, h4, q⟩ := h
    rw [Vals.ref1 r]
    obtain ⟨as, rd⟩ := Dp.reads I d _ (.ref a) hd rfl
    exact repr_of_reads' rd h1 (PyData.noDict_hsm h4) hG (by omega) (fun _ _ z => z) (fun h' u tk kp => ⟨.str d.shown, H, I.kept kp, ⟨u, rfl⟩, q⟩) h3
  · unfold reprD at e
    split at e
    · rename_i d
      split at e
      · rename_i hc
        cases e
        simp only [Bool.and_eq_true, decide_eq_true_eq, Bool.not_eq_true'] at hc
        obtain ⟨⟨⟨⟨⟨c0, c1⟩, c2⟩, c3⟩, c4⟩, c5⟩ := hc
        obtain ⟨v, rfl, tv⟩ := topL1 t
        have rv := tv.rep gh
        cases d with
        | tup l => cases rv with
          | tup h1 h2 => exact ⟨_, _, rfl, Rep.dp (.tup h1 h2) c1, c2, c3, c4, c5, k _ H G .refl .str⟩
        | lst l => cases rv with
          | lst h1 h2 => exact ⟨_, _, rfl, Rep.dp (.lst h1 h2) c1, c2, c3, c4, c5, k _ H G .refl .str⟩
        | _ => cases c0
      · cases e
    · cases e
end
end DL

namespace DL
open PySem L2 PySem.Spec PyProof.Rows

/-! ### defs that tell a new list, their callers' own -/
def PostNew (K : PySem.W.Frag) (cl : Str → Addr) (F : Fra) (Q : VK) (E : XK) (o : OutF) : Prop := match o with
  | .ok d j => ∀ a H' G', Ret K cl F H' G' j → Own K cl H' G' a d → G' a = none → F.H0 a = none → Q (.ref a) H'
  | .exn x j => ∀ cls dd H' G', Ret K cl F H' G' j → ExcAt K cl x cls dd H' G' → E cls dd H'
  | .bad => False
def spN (K : PySem.W.Frag) (cl : Str → Addr) (Φ : Fn) : Sp := fun vs H Q E => ∃ (as : List A) (j : List D) (js : List Addr) (G : Hp),
  Same G H ∧ ArgsOk K cl js G as vs ∧ Jars K cl js H G j ∧ PostNew K cl ⟨H, G, js⟩ Q E (Φ as j)
def outN (o : Out D) : OutF := match o with
  | .ok d e => .ok d e.j
  | .exn x e => .exn x e.j
  | .bad => .bad
def newOf (n np : Nat) (g : M D) : Fn := fun as j => if as.length = np then outN (g (env0 n as j)) else .bad
/-- statements that end by the return of a new list -/
def tNw (K : PySem.W.Frag) (cl : Str → Addr) (F : Fra) (W : WX) (g : M D) : TS := fun D σ H => ∃ e G, Stt K cl F e σ H G ∧ match g e with
  | .ok d e' => ∀ a H' G', Ret K cl F H' G' e'.j → Own K cl H' G' a d → G' a = none → F.H0 a = none → D.rt (.ref a) H'
  | .exn x e' => ∀ cls dd σ' H' G', Stt K cl F e' σ' H' G' → ExcAt K cl x cls dd H' G' → W cls dd σ' H'
  | .bad => False
structure RN (X : Cx) (cl : Str → Addr) (F : Fra) (W : WX) (xs : List Stmt) (g : M D) : Prop where
  pss : PSs X xs (tNw X.K cl F W g)
def nSeq (f : M Fl) (g : M D) : M D := fun e => (f e).bnd fun fl e1 => match fl with
  | .nx => g e1
  | _ => .bad
def callN (e : Env) (o : OutF) : Out D := match o with
  | .ok d [] => .ok d e
  | .exn x [] => .exn x e
  | _ => .bad
def nCallO (Φ : Fn) (o : Option (List D × Env)) : Out D := match o with
  | some (ds, e) => callN e (Φ (ds.map A.dat) [])
  | none => .bad
def nCall (Φ : Fn) (fs : M (List R)) : M D := fun e => (fs e).bnd fun rs e1 => nCallO Φ (e1.frzs rs)
def callT (e : Env) (o : OutF) : Out R := match o with
  | .ok d [_] => .ok (.val d) e
  | .exn x [_] => .exn x e
  | _ => .bad
def cCallT (Φ : Fn) (f : M D) : M R := fun e => (f e).bnd fun d e1 => callT e1 (Φ [.jar 0] [d])
section
variable {X : Cx} {cl : Str → Addr} {F : Fra} {W : WX}
theorem rn_ret {x : Expr} {f : M D} {pos : Pos} (h : RF X cl F W x f) : RN X cl F W [.Return (some x) pos] f := by
  refine ⟨pss_one (PS.imp (ps_ret h.pe) fun D σ H ⟨e, G, st, q⟩ => ⟨e, G, st, ?_⟩)⟩
  cases o : f e with
  | bad => rw [o] at q; exact q
  | exn x e1 => rw [o] at q; exact fun cls dd H' G' s z => q cls dd σ H' G' s z
  | ok d e1 => rw [o] at q; exact fun a H' G' s k ow g h0 l n => q a H' G' s.ret ow g h0
theorem rn_cons {s : Stmt} {ss : List Stmt} {f : M Fl} {g : M D} (h : RS X cl F W s f) (t : RN X cl F W ss g) : RN X cl F W (s :: ss) (nSeq f g) := by
  refine ⟨PSs.imp (pss_cons h.ps t.pss) fun D σ H ⟨e, G, st, q⟩ => ⟨e, G, st, ?_⟩⟩
  unfold nSeq at q
  cases o : f e with
  | bad => rw [o] at q; exact q
  | exn x e1 => rw [o] at q; exact q
  | ok fl e1 =>
    rw [o] at q
    cases fl with
    | nx => exact fun σ' H' G' s _ => ⟨e1, G', s, q⟩
    | rt d => exact q.elim
    | bk => exact q.elim
    | ct => exact q.elim
theorem fn_N {K : PySem.W.Frag} {P : Program} {w : World} {mg : Str → Option Value} {base : Heap} {x qual : Str} {params : Arguments} {body : List Stmt} {scope : Scope} {kws : List (Str × V)} {dvs : List V} {f : Addr} {fd : FuncData} {N ps : List Str} {k : Nat} {g : M D}
    (Fn : FunD K x qual params body scope dvs kws f fd) (S : FnScope N ps scope)
    (hbody : ∀ (F : Fra) (cdv : Value) (A : Around) (outer : List PySem.Env) (s : Shared) (H : Hp) (E : XK), Room k (A.deeper (envOfC qual scope s.heap.objs.size f cdv)) →
      RN (cxOf (L2.CX P w) P w K mg base N qual scope f cdv A outer s H E) cl F (fun c d _ H => E c d H) body g) :
    FnOk P w K mg base (L2.CX P w) (k + 1) f fd ps (spN K cl (newOf N.length ps.length g)) := by
  refine FunD.ok Fn S (fun vs H Q E h => ?_) fun cdv A outer s H vs Q E hr h => ?_
  · obtain ⟨as, j, js, G, gh, ao, jr, q⟩ := h
    unfold newOf at q
    split at q
    · rename_i hl; rw [← ao.length, hl]
    · exact q.elim
  · obtain ⟨as, j, js, G, gh, ao, jr, q⟩ := h
    refine ⟨_, (hbody ⟨H, G, js⟩ cdv A outer s H E hr).pss, _, _, stt_start gh ao jr, ?_⟩
    unfold newOf at q
    split at q
    · cases o : g (env0 N.length as j) with
      | bad => rw [o] at q; exact q
      | exn x e => rw [o] at q; exact fun cls dd σ' H' G' s z => q cls dd H' G' s.ret z
      | ok d e => rw [o] at q; exact q
    · exact q.elim
variable {k : Nat} {f : Addr} {fd : FuncData} {ps : List Str} {Φ : Fn} {x : Str} {p pos : Pos} {a : Expr} {es : List Expr} {fs : M (List R)} {fx : M D}
theorem rf_call (Fn : FnOk X.prog X.w X.K X.mg X.base (L2.CX X.prog X.w) k f fd ps (spN X.K cl Φ)) (hr : Room k X.A) (tk : Takes X W) (hg : Gl X x) (hm : X.mg x = some (.ref f)) (hk : PySem.W.keepIn X.K (.ref f) = true) (hb : Binds X.K fd ps [])
    (ha : RA X cl F W (a :: es) fs) (hdb : (x == ("__debug__" : Str)) = false := by decide) (he : starEach (a :: es) X.env = (false, eval a X.env) :: starEach es X.env := by rfl) (hpl : (backTo pos (starEach es X.env)).any (·.1) = false := by rfl) :
    RF X cl F W (.Call (.Name x p) (a :: es) [] pos) (nCall Φ fs) := by
  refine ⟨PE.imp (pe_callS Fn hr hg hm hk hb (fun σ => passAt tk σ) ha.pa hdb he hpl) fun σ H Q ⟨e, G, st, q⟩ => tA_then st q fun rs e1 vs H1 G1 s1 k1 r1 z => ?_⟩
  cases y : e1.frzs rs with
  | none => rw [y] at z; exact z.elim
  | some pr =>
    obtain ⟨ds, e2⟩ := pr
    rw [y] at z
    obtain ⟨G2, s2, k2, r2⟩ := frzs_ok s1 r1 y
    have z : Post X.K cl F W σ (callN e2 (Φ (ds.map A.dat) [])) _ := z
    refine ⟨ds.map A.dat, [], [], G2, s2.ret.gh, argsOk_dat r2, ⟨rfl, List.nodup_nil, fun k a d h => by simp at h⟩, ?_⟩
    cases o : Φ (ds.map A.dat) [] with
    | bad => rw [o] at z; exact z.elim
    | ok d j =>
      rw [o] at z
      cases j with
      | cons => exact z.elim
      | nil =>
        intro a H' G' r ow ga h0
        obtain ⟨s3, k3⟩ := s2.called r
        obtain ⟨l, h00⟩ := s2.fresh h0
        exact z a H' G' s3 ((k1.trans k2).trans k3) ow ga h00 l fun b o q lb => ne_of_none ((k1.trans k2).kp b o q lb).1 h0
    | exn y j =>
      rw [o] at z
      cases j with
      | cons => exact z.elim
      | nil =>
        intro cls dd H' G' r ex
        obtain ⟨s3, k3⟩ := s2.called r
        exact z cls dd H' G' s3 ex
theorem callT_D {σ : L2.St} {H : Hp} {Q : VK} (h : tD X.K cl F W (cCallT Φ fx) σ H Q) : tCons (tFr X.K cl F W fx) tNil σ H fun vs H1 => spD X.K cl Φ vs H1 Q (fun c d H => W c d σ H) := by
  obtain ⟨e, G, st, q⟩ := h
  refine ⟨e, G, st, ?_⟩
  unfold cCallT at q
  cases o : fx e with
  | bad => rw [o] at q; exact q
  | exn y e1 => rw [o] at q; exact q
  | ok d e1 =>
    rw [o] at q
    intro a H1 G1 s1 k1 ow ga h0 l n
    refine ⟨[.jar 0], [d], [a], G1, s1.ret.gh, .jar rfl .nil, ⟨rfl, by simp, fun k b d' e1 e2 => ?_⟩, ?_⟩
    · cases k with
      | zero => cases e1; cases e2; exact ⟨ga, ow⟩
      | succ k => simp at e1
    have q : Post X.K cl F W σ (callT e1 (Φ [.jar 0] [d])) _ := q
    cases o2 : Φ [.jar 0] [d] with
    | bad => rw [o2] at q; exact q
    | ok r j =>
      rw [o2] at q
      match j, q with
      | [d'], q =>
        intro v H' G' rt rv
        obtain ⟨s2, k2⟩ := s1.calledL l h0 rt
        refine q v H' G' s2 ⟨fun b u z => rt.g0 b u (k1.gg b u z), fun b u z lb => ?_, fun i d h => k1.ow i d h⟩ rv
        obtain ⟨z1, z2⟩ := k1.kp b u z lb
        obtain ⟨z3, z4⟩ := k2 b u (n b u z lb) z1
        exact ⟨z3, fun g => z4 (z2 g)⟩
      | [], q => exact q.elim
      | _ :: _ :: _, q => exact q.elim
    | exn y j =>
      rw [o2] at q
      match j, q with
      | [d'], q =>
        intro cls dd H' G' rt ex
        obtain ⟨s2, k2⟩ := s1.calledL l h0 rt
        exact q cls dd H' G' s2 ex
      | [], q => exact q.elim
      | _ :: _ :: _, q => exact q.elim
theorem re_callT (Fn : FnOk X.prog X.w X.K X.mg X.base (L2.CX X.prog X.w) k f fd ps (spD X.K cl Φ)) (hr : Room k X.A) (tk : Takes X W) (hg : Gl X x) (hm : X.mg x = some (.ref f)) (hk : PySem.W.keepIn X.K (.ref f) = true) (hb : Binds X.K fd ps [])
    (ha : RF X cl F W a fx) (hdb : (x == ("__debug__" : Str)) = false := by decide) (he : starEach [a] X.env = (false, eval a X.env) :: starEach [] X.env := by rfl) (hpl : (backTo pos (starEach [] X.env)).any (·.1) = false := by rfl) :
    RE X cl F W (.Call (.Name x p) [a] [] pos) (cCallT Φ fx) :=
  ⟨PE.imp (pe_callS Fn hr hg hm hk hb (fun σ => passAt tk σ) (pa_cons ha.pe pa_nil he) hdb he hpl) fun σ H Q h => callT_D h⟩
theorem re_callGT (Fn : FnG X.prog X.w X.K X.mg X.base k f fd ps (spD X.K cl Φ)) (hG : X.A.guards = some []) (hr : Room k X.A) (tk : Takes X W) (hg : Gl X x) (hm : X.mg x = some (.ref f)) (hk : PySem.W.keepIn X.K (.ref f) = true) (hb : Binds X.K fd ps [])
    (ha : RF X cl F W a fx) (hdb : (x == ("__debug__" : Str)) = false := by decide) (he : starEach [a] X.env = (false, eval a X.env) :: starEach [] X.env := by rfl) (hpl : (backTo pos (starEach [] X.env)).any (·.1) = false := by rfl) :
    RE X cl F W (.Call (.Name x p) [a] [] pos) (cCallT Φ fx) :=
  ⟨PE.imp (pe_callG Fn hG hr hg hm hk hb (fun σ => passAt tk σ) (pa_cons ha.pe pa_nil he) hdb he hpl) fun σ H Q h => callT_D h⟩
/-- -i -/
def cNeg (f : M R) : M R := fun e => (f e).bnd fun r e1 => match r with
  | .val (.int i) => .ok (.val (.int (-i))) e1
  | _ => .bad
theorem re_neg {f : M R} (h : RE X cl F W a f) : RE X cl F W (.UnaryOp .USub a pos) (cNeg f) := by
  refine ⟨PE.imp (pe_un un_neg h.pe) fun σ H Q ⟨e, G, st, q⟩ => tD_then st q fun r e1 v H1 G1 s1 k1 r1 z => ?_⟩
  cases r with
  | whole i => exact z.elim
  | val d =>
    cases d with
    | int i => cases r1; exact ⟨i, rfl, z _ H1 G1 s1 k1 .int⟩
    | _ => exact z.elim
end

/-! ### the head -/
section
variable {P : Program} {w : World} {K : PySem.W.Frag} {mg mb : Str → Option Value} {cl : Str → Addr}
/-- the law's call, from its def's promise at such calls -/
theorem law_run {k : Nat} {fa a : Addr} {fd : FuncData} {x : Str} {Φ : Fn} {s₁ : Shared} {vs : List Value} {ns : List Int}
    (KX : K.In s₁.heap) (hns : s₁.heap.Ns mainGlobals mg) (hbu : s₁.heap.Ns builtinsNs mb) (hbb : ∀ x : Str, x ≠ "__name__" → mb x = bootBuiltins x) (hlim : s₁.heap.NoLimit) (hgen : s₁.gens = #[])
    (obj : s₁.heap.get? a = some { cls := .type "list", data := .seq vs.toArray }) (whole : IntsAre vs ns) (hl : ns.length ≤ sizeLine) (hr : Room k callerA)
    (Fn : ∀ base : Heap, K.In base → base.Ns mainGlobals mg → FnG P w K mg base k fa fd [x] (spD K cl Φ)) (hbind : ∀ (s : Shared) (u : Value), BindsTo s fd ⟨[u], []⟩ [(x, u)])
    (holds : Φ [.dat (.scr ns)] [] = .ok (.bl true) []) :
    codeAny (model P w) callerA (.call (.ref fa) ⟨[.ref a], []⟩) (fun r s' => r = .ok
                                                                                                              (.ret (.bool true)) ∧ OldK s₁.heap s'.heap ∧ s'.os = s₁.os ∧ AllBare s'.gens) s₁ := by
  have rel := vals_ints whole
  have len := whole.length
  have mid : ∀ H : Hp, Only H → SqL K H a (ns.map V.int) → HOk P w H s₁.heap → (∀ p, H p ≠ none → p = a) → (H a ≠ none → K.lookup a = none) →
      codeAny (model P w) callerA (.call (.ref fa) ⟨[.ref a], []⟩) (fun r s' => r = .ok
                                                                                                              (.ret (.bool true)) ∧ OldK s₁.heap s'.heap ∧ s'.os = s₁.os ∧ AllBare s'.gens) s₁ := by
    intro H only script hok one away
    have free_of : ∀ {p : Addr} {o : Obj}, s₁.heap.get? p = some o → H p = none → (hidT s₁.heap H).get? p = some o := fun z n => hidT_get z n
    have untold : ∀ {p : Addr} {o : Obj} {es : Array DictEntry} {ep : Nat}, s₁.heap.get? p = some o → o.data = .dict es ep → H p = none := by
      intro p o es ep z d
      cases q : H p with
      | none => rfl
      | some u =>
        obtain rfl : p = a := one p (by rw [q]; simp)
        rw [obj] at z
        cases z
        cases (show Data.seq vs.toArray _ = Data.dict es ep from d)
    have names : ∀ {p : Addr} {m : Str → Option Value}, s₁.heap.Ns p m → (hidT s₁.heap H).Ns p m := fun {p m} ⟨o, es, ep, z, d, r⟩ => ⟨o, es, ep, free_of z (untold z d), d, r⟩
    have frag : K.In (hidT s₁.heap H) := fun p o z => free_of (KX p o z) (by
      cases q : H p with
      | none => rfl
      | some u =>
        obtain rfl : p = a := one p (by rw [q]; simp)
        rw [away (by rw [q]; simp)] at z
        cases z)
    have md : Mod K mg (hidT s₁.heap H) := ⟨frag, names hns, ⟨mb, names hbu, hbb⟩, by obtain ⟨mc, h1, h2⟩ := hlim; exact ⟨mc, names h1, h2⟩⟩
    have env : Env0 P w K mg (hidT s₁.heap H) callerA [] s₁ H :=
      ⟨rfl, md, fun p o z => of_hidT z, Nat.le_of_eq (hidT_size _ _), trivial, fun p hp => absurd (show p ∈ ([] : List Addr) from hp) (by simp), hok, .of_eq hgen⟩
    have pr : spD K cl Φ [.ref a] H (fun v _ => v = .bl true) fun _ _ _ => False := by
      refine ⟨[.dat (.scr ns)], [], [], H, .refl _, .dat (.scr script) .nil, ⟨rfl, List.nodup_nil, fun k p d z => by simp at z⟩, ?_⟩
      rw [holds]
      intro v H' G' _ rv
      cases rv
      rfl
    refine codeAny_mono ((Fn _ frag (names hns)).run callerA [] s₁ H ⟨[.ref a], []⟩ [.ref a] [.ref a] _ _ hr rfl env (hbind s₁ (.ref a)) (.cons rfl .nil) pr) fun r s' z => ?_
    cases r with
    | error er => obtain ⟨_, _, _, _, _, _, _, _, _, _, _, _, z⟩ := z; exact z.elim
    | ok fl =>
      cases fl with
      | next => exact z.elim
      | brk => exact z.elim
      | cont => exact z.elim
      | ret u =>
        obtain ⟨v, H', os, bare, un, hok', rv, q⟩ := z
        obtain rfl : v = .bl true := q
        obtain rfl : u = Value.bool true := rv
        refine ⟨rfl, OldK.of_keep fun p o z => ?_, os, bare⟩
        cases q : H p with
        | none => exact un.keep p o z q (by intro z; exact absurd (show p ∈ ([] : List Addr) from z) (by simp)) (by simp)
        | some u =>
          rcases only p with y | ⟨ob, xs, y⟩
          · rw [q] at y; cases y
          · have y2 := un.frzs p ob _ y
            obtain ⟨e1, _⟩ := hok p _ y
            obtain ⟨e2, _⟩ := hok' p _ y2
            rw [z] at e1
            cases e1
            exact e2
  cases own : K.lookup a with
  | some o =>
    have z := KX a o own
    rw [obj] at z
    cases z
    exact mid (fun _ => none) (fun _ => .inl rfl) (.inr ⟨_, vs.toArray, _, own, rfl, rfl, rfl, by rw [List.size_toArray, len]; exact hl, by simpa using rel⟩)
      (fun p u z => by cases (show (none : Option HO) = some u from z)) (fun p z => absurd rfl z) fun z => absurd rfl z
  | none =>
    refine mid (fun p => if p = a then some (.frz { cls := .type "list", data := .seq vs.toArray } (.lst (ns.map V.int))) else none) (fun p => ?_)
      (.inl (.inr ⟨{ cls := .type "list", data := .seq vs.toArray }, if_pos rfl⟩)) (fun p u z => ?_) (fun p z => ?_) fun _ => own
    · by_cases hp : p = a
      · exact .inr ⟨_, _, if_pos hp⟩
      · exact .inl (if_neg hp)
    · by_cases hp : p = a
      · cases (if_pos hp).symm.trans z
        subst hp
        exact ⟨obj, by rw [List.length_map]; exact hl, vs, _, rel, obj⟩
      · cases (if_neg hp).symm.trans z
    · by_cases hp : p = a
      · exact hp
      · exact absurd (if_neg hp) z
end
/-- the goal that the head leaves -/
theorem walk_D {l : PySem.W.OpenLaw} {n k : Nat} {q : Program} {loose : List Str} {XP : (Str → Option Value) → Heap → Prop} {YP : World → Heap → Prop} {d : DefRec} {x : Str} {Φ : Fn} (hn : l.most = some n) (hn2 : n ≤ sizeLine) (hdf : d.params.defaults = []) (hr : Room k callerA)
    (Fn : ∀ (w : World) (mg : Str → Option Value) (fa : Addr) (h : Heap), YP w h → h.Ns mainGlobals mg → mg d.name = some (.ref fa) →
      ∃ (K : PySem.W.Frag) (fd : FuncData) (cl : Str → Addr), K.In h ∧ (∀ (s : Shared) (u : Value), BindsTo s fd ⟨[u], []⟩ [(x, u)]) ∧
        ∀ base : Heap, K.In base → base.Ns mainGlobals mg → FnG l.prog w K mg base k fa fd [x] (spD K cl Φ))
    (holds : ∀ ns : List Int, ns.length ≤ n → Φ [.dat (.scr ns)] [] = .ok (.bl true) []) : PySem.W.WalkO q loose XP YP l.row.toRowW d [] (fun f vs => PySem.call f vs) := by
  refine Att.attach_call hn hdf fun w s₀ s₁ mg mb fa o pm
                                                                                                              cd doc a vs ns G Y ho hd hcd hmg hobj hints hlen hg => ?_
  obtain ⟨K, fd, cl, KX, hb, hF⟩ := Fn w mg fa _ Y G.T.g hmg
  exact law_run KX G.T.g G.T.b G.T.builtins G.T.nolimit hg hobj hints (Nat.le_trans hlen hn2) hr hF hb (holds ns hlen)
end DL

namespace DL
open PySem L2 PySem.Spec PyProof.Rows

/-! ### what the head must find -/
/-- where a def stands: a global, a class's method, the getter of a class's property, the def of a classmethod -/
inductive At where
  | g (x : Str) | m (c x : Str) | p (c x : Str)
def recAt (K : PySem.W.Frag) (c x : Str) : Addr := He.ma K (He.ga K c) x
def getterAt (K : PySem.W.Frag) (c x : Str) : Addr := match PySem.W.recIn K (recAt K c x) "property" with
  | some (.ref g :: _) => g
  | _ => 0
def At.ad (K : PySem.W.Frag) : At → Addr
  | .g x => He.ga K x
  | .m c x => He.ma K (He.ga K c) x
  | .p c x => getterAt K c x
structure Df where
  at_ : At
  name : Str
  qual : Str
  params : Arguments
  body : List Stmt
  scope : Scope
abbrev DfV : Type := Option (Str × Str × Arguments × FuncBody × Scope × Addr × List (Str × Addr) × Addr)
def dfV (K : PySem.W.Frag) (a : Addr) : DfV := match K.lookup a with
  | some ⟨_, _, .func fd, _⟩ =>
                                                                                                              some (fd.name, fd.qualname, fd.params, fd.body, fd.scope, fd.globals, fd.closure, fd.builtins)
  | _ => none
def Df.val (d : Df) : DfV := some (d.name, d.qual, d.params, .stmts d.body, d.scope, mainGlobals, [], builtinsNs)
def Df.ok (K : PySem.W.Frag) (d : Df) : Bool := PySem.W.keepIn K (.ref (d.at_.ad K)) && (match K.lookup (d.at_.ad K) with
  | some ⟨_, _, .func fd, _⟩ => PySem.W.codeIn K fd.code d.qual && (He.dflB K fd.defaults [] && He.kwdB K fd.kwdefaults [])
  | _ => false)
theorem Df.funD {K : PySem.W.Frag} {d : Df} (e : dfV K (d.at_.ad K) = d.val) (c : d.ok K = true) : ∃ fd, FunD K d.name d.qual d.params d.body d.scope [] [] (d.at_.ad K) fd := by
  obtain ⟨kp, c2⟩ := Bool.and_eq_true_iff.mp c
  unfold dfV at e
  cases q : K.lookup (d.at_.ad K) with
  | none => rw [q] at c2; cases c2
  | some o =>
    obtain ⟨ocl, odc, dta, slt⟩ := o
    rw [q] at c2 e
    cases dta with
    | func fd =>
      obtain ⟨v1, v2, v3, v4, v5, v6, v7, v8, v9, v10, v11, v12, v13, v14, v15⟩ := fd
      have e : (some (v1, v2, v3, v4, v5, v6, v7, v15) : DfV) = some (d.name, d.qual, d.params, .stmts d.body, d.scope, mainGlobals, [], builtinsNs) := e
      simp only [Option.some.injEq,
                                                                                                              Prod.mk.injEq] at e
      obtain ⟨h1, h2, h3, h4, h5, h6, h7, h8⟩ := e
      subst h1 h2 h3 h4 h5 h6 h7 h8
      obtain ⟨k1, k2⟩ := Bool.and_eq_true_iff.mp (show (PySem.W.codeIn K v13 d.qual && (He.dflB K v8 [] && He.kwdB K v9 [])) = true from c2)
      obtain ⟨k3, k4⟩ := Bool.and_eq_true_iff.mp k2
      exact ⟨_, ⟨ocl, odc, v8, v9, v10, v11, v12, v13, v14, slt, rfl, q, k1, He.dflB_ok k3, He.kwdB_ok k4⟩, kp⟩
    | _ => cases c2
/-- more facts: a property; the classes that isinstance is asked of -/
inductive Fc where
  | prp (c x : Str)
  | ins (c : Str)
  | own (c c' : Str) (b : Bool)
def Fc.ok (K : PySem.W.Frag) : Fc → Bool
  | .prp c x => He.eqO (PySem.W.findIn K (.ref (He.ga K c)) x) (some (some (.ref (recAt K c x)))) && (He.eqO (PySem.W.specialIn K (.ref (recAt K c x)) "__get__") (some (some (.builtin "property.__get__"))) &&
    (decide (PySem.W.takesIn K (.ref (recAt K c x)) = some true) && (match PySem.W.recIn K (recAt K c x) "property" with
      | some (.ref _ :: _) => true
      | _ => false)))
  | .ins c => He.eqO (PySem.W.findIn K (.ref (He.ga K c)) "__class__") (some (some (.builtin "object.__class__"))) && (He.eqO (PySem.W.specialIn K (.builtin "object.__class__") "__get__") (some (some (.builtin "getset_descriptor.__get__"))) &&
    (decide (PySem.W.takesIn K (.builtin "object.__class__") = some true) && (decide (PySem.W.mroIn K (He.ga K c) (.type "object") = some true) &&
    ((["str", "int", "bool", "tuple", "list", "dict"].all fun T => decide (PySem.W.kitOne K (.ref (He.ga K c)) (.type T) = some false)) && kinds.all fun n => decide (PySem.W.kitOne K (.type n) (.ref (He.ga K c)) = some false)))))
  | .own c c' b => decide (PySem.W.kitOne K (.ref (He.ga K c)) (.ref (He.ga K c')) = some b)
section
variable {K : PySem.W.Frag}
theorem and2 {a b : Bool} (h : (a && b) = true) : a = true ∧ b = true := Bool.and_eq_true_iff.mp h
theorem Fc.prp_ok {c x : Str} (h : (Fc.prp c x).ok K = true) : PropOf K (He.ga K c) x (recAt K c x) (getterAt K c x) := by
  obtain ⟨h1, h⟩ := and2 h
  obtain ⟨h2, h⟩ := and2 h
  obtain ⟨h3, h4⟩ := and2 h
  refine ⟨He.eqO_ok h1, He.eqO_ok h2, of_decide_eq_true h3, ?_⟩
  unfold getterAt
  split at h4
  · rename_i g r e
    rw [e]
    exact ⟨r, rfl⟩
  · cases h4
theorem Fc.ins_ok {c : Str} (h : (Fc.ins c).ok K = true) (hc : Cls K (He.ga K c)) : InsOk K (He.ga K c) ∧ (∀ T ∈ ["str", "int", "bool", "tuple", "list", "dict"], PySem.W.kitOne K (.ref (He.ga K c)) (.type T) = some false) ∧
    ∀ n ∈ kinds, PySem.W.kitOne K (.type n) (.ref (He.ga K c)) = some false := by
  obtain ⟨h1, h⟩ := and2 h
  obtain ⟨h2, h⟩ := and2 h
  obtain ⟨h3, h⟩ := and2 h
  obtain ⟨h4, h⟩ := and2 h
  obtain ⟨h5, h6⟩ := and2 h
  exact ⟨⟨hc, He.eqO_ok h1, He.eqO_ok h2, of_decide_eq_true h3, of_decide_eq_true h4⟩, fun T hT => of_decide_eq_true (List.all_eq_true.mp h5 T hT), fun n hn => of_decide_eq_true (List.all_eq_true.mp h6 n hn)⟩
end
abbrev AlX : Type := Bool × List DfV
def obsX (fa : List He.Fa) (fc : List Fc) (fn : List Df) (K : PySem.W.Frag) : AlX := ((fa.all fun f => f.ok K) && ((fc.all fun f => f.ok K) && fn.all fun d => d.ok K), fn.map fun d => dfV K (d.at_.ad K))
def valX (fn : List Df) : AlX := (true, fn.map Df.val)
def SaysX (fa : List He.Fa) (fc : List Fc) (fn : List Df) (K : PySem.W.Frag) : Prop := obsX fa fc fn K = valX fn
def obsXG (n : Nat) (fa : List He.Fa) (fc : List Fc) (fn : List Df) (g : Addr → Option Obj) : AlX := obsX fa fc fn (He.frG g (He.asD g n))
def hookX (n : Nat) (fa : List He.Fa) (fc : List Fc) (fn : List Df) : PySem.W.Hook where
  α := AlX
  obs := fun s => obsXG n fa fc fn s.heap.get?
  val := fun _ => valX fn
  says := fun _ h => ∃ K : PySem.W.Frag, K.In h ∧ SaysX fa fc fn K
  of := fun _ _ e => ⟨_, He.frG_in, e⟩
  keeps := fun _ _ _ ⟨K, hK, c⟩ k =>
                                                                                                              ⟨K, PySem.W.Frag.In.keeps hK k, c⟩
theorem obsXG_eq {n : Nat} {fa : List He.Fa} {fc : List Fc} {fn : List Df} {g : Addr → Option Obj} {s : Shared} (h : ∀ a, g a = s.heap.get? a) : obsXG n fa fc fn g = (hookX n fa fc fn).obs s := by
  obtain rfl : g = s.heap.get? := funext h
  rfl
section
variable {fa : List He.Fa} {fc : List Fc} {fn : List Df} {K : PySem.W.Frag}
theorem SaysX.fact (c : SaysX fa fc fn K) (i : Nat) {f : He.Fa} (h : fa[i]? = some f := by rfl) : f.ok K = true :=
  List.all_eq_true.mp (and2 (show ((fa.all fun f => f.ok K) && ((fc.all fun f => f.ok K) && fn.all fun d => d.ok K)) = true from congrArg (fun z : AlX => z.1) c)).1 f (List.mem_of_getElem? h)
theorem SaysX.more (c : SaysX fa fc fn K) (i : Nat) {f : Fc} (h : fc[i]? = some f := by rfl) : f.ok K = true :=
  List.all_eq_true.mp (and2 (and2 (show ((fa.all fun f => f.ok K) && ((fc.all fun f => f.ok K) && fn.all fun d => d.ok K)) = true from congrArg (fun z : AlX => z.1) c)).2).1 f (List.mem_of_getElem? h)
theorem SaysX.df (c : SaysX fa fc fn K) (i : Nat) {d : Df} (h : fn[i]? = some d := by rfl) : ∃ fd, FunD K d.name d.qual d.params d.body d.scope [] [] (d.at_.ad K) fd := by
  have c2 := (and2 (and2 (show ((fa.all fun f => f.ok K) && ((fc.all fun f => f.ok K) && fn.all fun d => d.ok K)) = true from congrArg (fun z : AlX => z.1) c)).2).2
  have e : fn.map (fun d => dfV K (d.at_.ad K)) = fn.map Df.val := congrArg (fun z : AlX => z.2) c
  have e2 : (fn.map fun d => dfV K (d.at_.ad K))[i]? = (fn.map Df.val)[i]? := by rw [e]
  rw [List.getElem?_map,
                                                                                                              List.getElem?_map, h] at e2
  exact Df.funD (Option.some.inj e2) (List.all_eq_true.mp c2 d (List.mem_of_getElem? h))
end
end DL

namespace DL
open PySem L2 PySem.Spec PyProof.Rows

/-! ### small things for the printed proofs -/
def bodyOf (s : Stmt) : List Stmt := match s with
  | .ClassDef _ _ _ b _ _ _ _ _ _ _ => b
  | _ => []
theorem room64 {k : Nat} {A : Around} (r : Room k A) : A.units + 64 < cLine := r.units
theorem room65 {k : Nat} {A : Around} (r : Room k A) : A.units + 65 < cLine := by have := r.un; omega
theorem room1 {k : Nat} {A : Around} (r : Room k A) : A.units + 1 < cLine := by have := r.un; omega
theorem si0 {E : XK} : SI fun c d _ H => E c d H := fun _ _ _ _ _ z => z
theorem fn_bad {P : Program} {w : World} {K : PySem.W.Frag} {mg : Str → Option Value} {base : Heap} {cl : Str → Addr} {k : Nat} {f : Addr} {fd : FuncData} {ps : List Str} : FnOk P w K mg base (L2.CX P w) k f fd ps (spD K cl fun _ _ => .bad) :=
  ⟨fun _ _ _ _ ⟨_, _, _, _, _, _, _, z⟩ => z.elim, fun _ _ _ _ _ _ _ _ _ _ _ _ _ ⟨_, _, _, _, _, _, _, z⟩ => z.elim⟩
/-- it raises nothing -/
def NX {α : Type} (f : M α) : Prop := ∀ e x e', f e ≠ .exn x e'
theorem nx_bnd {α β : Type} {f : M α} {k : α → Env → Out β} (h : NX f) (hk : ∀ a e x e', k a e ≠ .exn x e') : NX fun e => (f e).bnd k := fun e x e' z => by
  have z : (f e).bnd k = .exn x e' := z
  cases q : f e with
  | ok a e1 => rw [q] at z; exact hk a e1 x e' z
  | exn y e1 => exact h _ _ _ q
  | bad => rw [q] at z; cases z
theorem nx_var {i : Nat} : NX (cVar i) := fun e x e' z => by
  unfold cVar at z
  split at z <;> cases z
theorem nx_c {d : D} : NX (cC d) := fun e x e' z => by cases z
theorem nx_opt {o : Option D} {e : Env} {x : Exc} {e' : Env} : opt o e ≠ .exn x e' := fun z => by cases o <;> cases z
theorem nx_op {g : D → D → Option D} {f1 f2 : M R} (h1 : NX f1) (h2 : NX f2) : NX (cOp g f1 f2) := nx_bnd h1 fun a e x e' z => nx_bnd h2 (fun b e x e' z => nx_opt z) e x e' z
theorem nx_fld {cs : List Str} {n : Str} {f : M R} (h : NX f) : NX (cFld cs n f) := nx_bnd h fun a e x e' z => nx_opt z
theorem nx_ret {f : M R} (h : NX f) : NX (sRet f) := nx_bnd h fun a e x e' z => by
  unfold retF at z
  split at z <;> cases z
theorem nx_fn {n np : Nat} {g : M Fl} (h : NX g) : ∀ d x j, fnOf n np g [.dat d] [] ≠ .exn x j := fun d x j z => by
  unfold fnOf at z
  split at z
  · cases q : g (env0 n [A.dat d] []) with
    | ok fl e => rw [q] at z; cases fl <;> cases z
    | exn y e => exact h _ _ _ q
    | bad => rw [q] at z; cases z
  · cases z
end DL

namespace DL
open PySem L2 PySem.Spec PyProof.Rows

/-! ### what the mirrors do, for simp -/
section
variable {α β : Type} {e e' : Env} {s : List S} {j : List D} {i : Nat} {d : D}
@[simp] theorem v_bnd {a : α} {k : α → Env → Out β} : (Out.ok a e).bnd k = k a e := rfl
@[simp] theorem v_bad {k : α → Env → Out β} : (Out.bad : Out α).bnd k = .bad := rfl
@[simp] theorem v_nx {k : Env → Out Fl} : (Out.ok Fl.nx e).bndF k = k e := rfl
@[simp] theorem v_rt {k : Env → Out Fl} : (Out.ok (Fl.rt d) e).bndF k = .ok (.rt d) e := rfl
@[simp] theorem v_bk {k : Env → Out Fl} : (Out.ok Fl.bk e).bndF k = .ok .bk e := rfl
@[simp] theorem v_ct {k : Env → Out Fl} : (Out.ok Fl.ct e).bndF k = .ok .ct e := rfl
@[simp] theorem v_badF {k : Env → Out Fl} : (Out.bad : Out Fl).bndF k = .bad := rfl
@[simp] theorem v_seq {f g : M Fl} : sSeq f g e = (f e).bndF g := rfl
def varO (i : Nat) (e : Env) : Option S → Out R
  | some (.dat d) => .ok (.val d) e
  | some (.own _) => .ok (.whole i) e
  | some (.jar _) => .ok (.whole i) e
  | _ => .bad
@[simp] theorem v_var : cVar i e = varO i e e.s[i]? := by unfold cVar varO; first | rfl | (split <;> simp_all)
@[simp] theorem v_varD : varO i e (some (.dat d)) = .ok (.val d) e := rfl
@[simp] theorem v_varO : varO i e (some (.own d)) = .ok (.whole i) e := rfl
@[simp] theorem v_varJ {k : Nat} : varO i e (some (.jar k)) = .ok (.whole i) e := rfl
@[simp] theorem v_c : cC d e = .ok (.val d) e := rfl
def rdO (e : Env) : Option S → Option D
  | some (.own d) => some d
  | some (.jar k) => e.j[k]?
  | _ => none
@[simp] theorem v_rdV : e.rd (.val d) = some d := rfl
@[simp] theorem v_rdW : e.rd (.whole i) = rdO e e.s[i]? := by unfold Env.rd rdO; first | rfl | (simp only; done) | (simp only; split <;> simp_all)
@[simp] theorem v_rdOo : rdO e (some (.own d)) = some d := rfl
@[simp] theorem v_rdOj {k : Nat} : rdO e (some (.jar k)) = e.j[k]? := rfl
@[simp] theorem v_rdOd : rdO e (some (.dat d)) = none := rfl
@[simp] theorem v_frzV : e.frz (.val d) = some (d, e) := rfl
def frzO (i : Nat) (e : Env) : Option S → Option (D × Env)
  | some (.own d) => some (d, e.setS i (.dat d))
  | _ => none
@[simp] theorem v_frzW : e.frz (.whole i) = frzO i e e.s[i]? := by unfold Env.frz frzO; first | rfl | (simp only; done) | (simp only; split <;> simp_all)
@[simp] theorem v_frzOo : frzO i e (some (.own d)) = some (d, e.setS i (.dat d)) := rfl
@[simp] theorem v_frzs0 : e.frzs [] = some ([], e) := rfl
def frzC (d : D) : Option (List D × Env) → Option (List D × Env)
  | some (ds, e) => some (d :: ds, e)
  | none => none
def frz2 (rs : List R) : Option (D × Env) → Option (List D × Env)
  | some (d, e) => frzC d (e.frzs rs)
  | none => none
@[simp] theorem v_frzs {r : R} {rs : List R} : e.frzs (r :: rs) = frz2 rs (e.frz r) := by
  unfold frz2 frzC
  show (match e.frz r with | some (d, e1) => _ | none => none) = _
  split <;> rfl
@[simp] theorem v_frz2 {rs : List R} : frz2 rs (some (d, e)) = frzC d (e.frzs rs) := rfl
@[simp] theorem v_frzC {ds : List D} : frzC d (some (ds, e)) = some (d :: ds, e) := rfl
@[simp] theorem v_set {x : S} : Env.setS ⟨s, j⟩ i x = ⟨s.set i x, j⟩ := rfl
@[simp] theorem v_nil : cNil e = .ok [] e := rfl
@[simp] theorem v_cons {f : M R} {g : M (List R)} : cCons f g e = (f e).bnd fun r e1 => (g e1).bnd fun rs e2 => .ok (r :: rs) e2 := rfl
@[simp] theorem v_opt : opt (some d) e = .ok (.val d) e := rfl
@[simp] theorem v_opt0 : opt none e = .bad := rfl
@[simp] theorem v_opt2 {g : D → D → Option D} {a b : D} : opt2 g (some a) (some b) = g a b := rfl
@[simp] theorem v_optB {a : α} : optB (some a) e = .ok a e := rfl
@[simp] theorem v_op {g : D → D → Option D} {f1 f2 : M R} : cOp g f1 f2 e = (f1 e).bnd fun x e1 => (f2 e1).bnd fun y e2 => opt (opt2 g (e2.rd x) (e2.rd y)) e2 := rfl
@[simp] theorem v_rds0 : e.rds [] = some [] := rfl
def rds2 : Option D → Option (List D) → Option (List D)
  | some d, some ds =>
                                                                                                              some (d :: ds)
  | _, _ => none
@[simp] theorem v_rds {r : R} {rs : List R} : e.rds (r :: rs) = rds2 (e.rd r) (e.rds rs) := by
  show (match e.rd r, e.rds rs with | some d, some ds => some (d :: ds) | _, _ => none) = _
  unfold rds2
  cases e.rd r <;> cases e.rds rs <;> rfl
@[simp] theorem v_rds2 {ds : List D} : rds2 (some d) (some ds) = some (d :: ds) := rfl
@[simp] theorem v_cb {g : List D → Option D} {fs : M (List R)} : cCB g fs e = (fs e).bnd fun rs e1 => opt ((e1.rds rs).bind g) e1 := rfl
def tstO (e : Env) : R → Out Bool
  | .val (.bl b) => .ok b e
  | _ => .bad
@[simp] theorem v_tst {f : M R} : cTest f e = (f e).bnd fun r e1 => tstO e1 r := by first | rfl | (unfold cTest tstO; rfl)
@[simp] theorem v_tstO {b : Bool} : tstO e (.val (.bl b)) = .ok b e := rfl
@[simp] theorem v_tru {f : M R} : cTru f e = (f e).bnd fun r e1 => optB ((e1.rd r).bind tru) e1 := rfl
@[simp] theorem v_truB {b : Bool} : tru (.bl b) = some b := rfl
@[simp] theorem v_not {f : M Bool} : cNot f e = (f e).bnd fun b e1 => .ok (!b) e1 := rfl
@[simp] theorem v_and {f g : M Bool} : cAnd f g e = (f e).bnd fun b e1 => if b then g e1 else .ok false e1 := rfl
@[simp] theorem v_or {f g : M Bool} : cOr f g e = (f e).bnd fun b e1 => if b then .ok true e1 else g e1 := rfl
def andO (g : M R) (e : Env) : R → Out R
  | .val (.bl b) => if b then g e else .ok (.val (.bl false)) e
  | _ => .bad
@[simp] theorem v_andV {f g : M R} : cAndV f g e = (f e).bnd fun r e1 => andO g e1 r := rfl
@[simp] theorem v_andO {b : Bool} {g : M R} : andO g e (.val (.bl b)) = if b then g e else .ok (.val (.bl false)) e := rfl
def orO (g : M R) (e : Env) : R → Out R
  | .val (.bl b) => if b then .ok (.val (.bl true)) e else g e
  | _ => .bad
@[simp] theorem v_orV {f g : M R} : cOrV f g e = (f e).bnd fun r e1 => orO g e1 r := rfl
@[simp] theorem v_orO {b : Bool} {g : M R} : orO g e (.val (.bl b)) = if b then .ok (.val (.bl true)) e else g e := rfl
def notO (e : Env) : R → Out R
  | .val (.bl b) => .ok (.val (.bl (!b))) e
  | _ => .bad
@[simp] theorem v_notV {f : M R} : cNotV f e = (f e).bnd fun r e1 => notO e1 r := rfl
@[simp] theorem v_notO {b : Bool} : notO e (.val (.bl b)) = .ok (.val (.bl (!b))) e := rfl
def negO (e : Env) : R → Out R
  | .val (.int i) => .ok (.val (.int (-i))) e
  | _ => .bad
@[simp] theorem v_neg {f : M R} : cNeg f e = (f e).bnd fun r e1 => negO e1 r := rfl
@[simp] theorem v_negO {k : Int} : negO e (.val (.int k)) = .ok (.val (.int (-k))) e := rfl
@[simp] theorem v_if {c : M Bool} {f g : M R} : cIf c f g e = (c e).bnd fun b e1 => if b then f e1 else g e1 := rfl
def chO (g' : D → D → Option D) (fc : M R) (y : R) (e : Env) : Option D → Out R
  | some (.bl true) => (fc e).bnd fun z e3 => opt (opt2 g' (e3.rd y) (e3.rd z)) e3
  | some (.bl false) => .ok (.val (.bl false)) e
  | _ => .bad
@[simp] theorem v_ch {g g' : D → D → Option D} {fa fb fc : M R} : cChain g g' fa fb fc e = (fa e).bnd fun x e1 => (fb e1).bnd fun y e2 => chO g' fc y e2 (opt2 g (e2.rd x) (e2.rd y)) := by first | rfl | (unfold cChain chO; rfl)
@[simp] theorem v_chT {g' : D → D → Option D} {fc : M R} {y : R} : chO g' fc y e (some (.bl true)) = (fc e).bnd fun z e3 => opt (opt2 g' (e3.rd y) (e3.rd z)) e3 := rfl
@[simp] theorem v_chF {g' : D → D → Option D} {fc : M R} {y : R} : chO g' fc y e (some (.bl false)) = .ok (.val (.bl false)) e := rfl
@[simp] theorem v_sNx : sNx e = .ok .nx e := rfl
@[simp] theorem v_sBad : sBad e = .bad := rfl
@[simp] theorem v_sBk : sBk e = .ok .bk e := rfl
@[simp] theorem v_sCt : sCt e = .ok .ct e := rfl
@[simp] theorem v_sExpr {f : M R} : sExpr f e = (f e).bnd fun _ e1 => .ok .nx e1 := rfl
@[simp] theorem v_sIf {c : M Bool} {f g : M Fl} : sIf c f g e = (c e).bnd fun b e1 => if b then f e1 else g e1 := rfl
@[simp] theorem v_ret {f : M R} : sRet f e = (f e).bnd fun r e1 => retF (e1.frz r) := rfl
@[simp] theorem v_retF : retF (some (d, e)) = .ok (.rt d) e := rfl
@[simp] theorem v_retN : sRetN e = .ok (.rt .non) e := rfl
@[simp] theorem v_asg {f : M R} : sAsg i f e = (f e).bnd fun r e1 => asgF i (e1.frz r) := rfl
@[simp] theorem v_asgF : asgF i (some (d, e)) = .ok .nx (e.setS i (.dat d)) := rfl
@[simp] theorem v_own {f : M D} : sOwn i f e = (f e).bnd fun d e1 => .ok .nx (e1.setS i (.own d)) := rfl
@[simp] theorem v_setIx {fk fv : M R} : sSetIx i fk fv e = (fv e).bnd fun r e1 => setV i fk (e1.frz r) := rfl
@[simp] theorem v_setV {fk : M R} : setV i fk (some (d, e)) = if isLst (e.rd (.whole i)) then (fk e).bnd fun rk e3 => setK i d rk e3 else .bad := rfl
@[simp] theorem v_isLst {l : List D} : isLst (some (.lst l)) = true := rfl
@[simp] theorem v_setK {k : Int} : setK i d (.val (.int k)) e = setO i k d e := rfl
def setI (i : Nat) (l : List D) (d : D) (e : Env) : Option Nat → Out Fl
  | some j => outE (e.put i (.lst (l.set j d))) fun e3 => .ok .nx e3
  | none => .bad
def setL (i : Nat) (k : Int) (d : D) (e : Env) : Option D → Out Fl
  | some (.lst l) => setI i l d e (ixN l.length k)
  | _ => .bad
@[simp] theorem v_setO {k : Int} : setO i k d e = setL i k d e (e.rd (.whole i)) := rfl
@[simp] theorem v_setL {k : Int} {l : List D} : setL i k d e (some (.lst l)) = setI i l d e (ixN l.length k) := rfl
@[simp] theorem v_setI {l : List D} {k : Nat} : setI i l d e (some k) = outE (e.put i (.lst (l.set k d))) fun e3 => .ok .nx e3 := rfl
@[simp] theorem v_outE {k : Env → Out α} : outE (some e) k = k e := rfl
def putO (i : Nat) (d : D) (e : Env) : Option S → Option Env
  | some (.own _) => some (e.setS i (.own d))
  | some (.jar k) => some ⟨e.s, e.j.set k d⟩
  | _ => none
@[simp] theorem v_put : e.put i d = putO i d e e.s[i]? := by unfold Env.put putO; first | rfl | (split <;> simp_all)
@[simp] theorem v_putOo {x : D} : putO i d e (some (.own x)) = some (e.setS i (.own d)) := rfl
@[simp] theorem v_putOj {k : Nat} : putO i d e (some (.jar k)) = some ⟨e.s, e.j.set k d⟩ := rfl
def callF (Φ : Fn) : Option (List D × Env) → Out R
  | some (ds, e) => callO e (Φ (ds.map A.dat) [])
  | none => .bad
@[simp] theorem v_call {Φ : Fn} {fs : M (List R)} : cCall Φ fs e = (fs e).bnd fun rs e1 => callF Φ (e1.frzs rs) := by first | rfl | (unfold cCall callF; rfl)
@[simp] theorem v_callF {Φ : Fn} {ds : List D} : callF Φ (some (ds, e)) = callO e (Φ (ds.map A.dat) []) := rfl
@[simp] theorem v_callO : callO e (.ok d []) = .ok (.val d) e := rfl
def callV (Φ : Fn) (i : Nat) (e : Env) (ds : List D) : Option D → Out R
  | some x => callJ e i (Φ (.jar 0 :: ds.map A.dat) [x])
  | none => .bad
def callW (Φ : Fn) (i : Nat) : Option (List D × Env) → Out R
  | some (ds, e) => callV Φ i e ds (e.rd (.whole i))
  | none => .bad
def callY (Φ : Fn) (i : Nat) (e : Env) (rs : List R) : Option D → Out R
  | some _ => callW Φ i (e.frzs rs)
  | none => .bad
def callX (Φ : Fn) (e : Env) : List R → Out R
  | .whole i :: rs => callY Φ i e rs (e.rd (.whole i))
  | _ => .bad
@[simp] theorem v_callJ {Φ : Fn} {fs : M (List R)} : cCallJ Φ fs e = (fs e).bnd fun rs e1 => callX Φ e1 rs := by
  unfold cCallJ
  congr 1
  funext rs e1
  cases rs with
  | nil => rfl
  | cons r rs =>
    cases r with
    | val d => rfl
    | whole i =>
      unfold callX callY callW callV
      simp only
      cases e1.rd (.whole i) with
      | none => rfl
      | some x =>
        cases e1.frzs rs with
        | none => rfl
        | some p => obtain ⟨ds, e2⟩ := p; first | rfl | (simp only; cases e2.rd (.whole i) <;> rfl)
@[simp] theorem v_callX {Φ : Fn} {rs : List R} : callX Φ e (.whole i :: rs) = callY Φ i e rs (e.rd (.whole i)) := rfl
@[simp] theorem v_callY {Φ : Fn} {rs : List R} {x : D} : callY Φ i e rs (some x) = callW Φ i (e.frzs rs) := rfl
@[simp] theorem v_callW {Φ : Fn} {ds : List D} : callW Φ i (some (ds, e)) = callV Φ i e ds (e.rd (.whole i)) := rfl
@[simp] theorem v_callV {Φ : Fn} {ds : List D} {x : D} : callV Φ i e ds (some x) = callJ e i (Φ (.jar 0 :: ds.map A.dat) [x]) := rfl
@[simp] theorem v_callJo {x : D} : callJ e i (.ok d [x]) = outE (e.put i x) fun e' => .ok (.val d) e' := rfl
@[simp] theorem v_cAt {k : Nat} : (A.jar k).s = .jar k := rfl
@[simp] theorem v_dAt : (A.dat d).s = .dat d := rfl
@[simp] theorem v_fn {n np : Nat} {g : M Fl} {as : List A} {js : List D} : fnOf n np g as js = if as.length = np then outF (g (env0 n as js)) else .bad := rfl
@[simp] theorem v_new {n np : Nat} {g : M D} {as : List A} {js : List D} : newOf n np g as js = if as.length = np then outN (g (env0 n as js)) else .bad := rfl
@[simp] theorem v_outN : outN (.ok d e) = .ok d e.j := rfl
@[simp] theorem v_outR : outF (.ok (.rt d) e) = .ok d e.j := rfl
@[simp] theorem v_outX : outF (.ok .nx e) = .ok .non e.j := rfl
@[simp] theorem v_env0 {n : Nat} {as : List A} {js : List D} : env0 n as js = ⟨as.map A.s ++ List.replicate (n - as.length) .un, js⟩ := rfl
@[simp] theorem v_int {k : Int} : intFnD [.int k] = some (.int k) := rfl
@[simp] theorem v_addI {a b : Int} : addD (.int a) (.int b) = some (.int (a + b)) := rfl
@[simp] theorem v_subI {a b : Int} : subD (.int a) (.int b) = some (.int (a - b)) := rfl
theorem v_mulI {a b : Int} (h1 : -18446744073709551616 < b) (h2 : b < 18446744073709551616) : mulD (.int a) (.int b) = some (.int (a * b)) := by
  have : mulOk a b = true := by unfold mulOk; simp; omega
  exact if_pos this
theorem v_mulL {a b : Int} (h1 : -18446744073709551616 < a) (h2 : a < 18446744073709551616) : mulD (.int a) (.int b) = some (.int (a * b)) := by
  have : mulOk a b = true := by unfold mulOk; simp; omega
  exact if_pos this
theorem v_modI {a b : Int} (h : 0 < b) : modD (.int a) (.int b) = some (.int (a % b)) := by unfold modD intOp; simp [h]
theorem v_divI {a b : Int} (h : 0 < b) (h2 : b < 1073741824) : fdivD (.int a) (.int b) = some (.int (a / b)) := by unfold fdivD intOp; simp [h, h2]
@[simp] theorem v_gtI {a b : Int} : gtD (.int a) (.int b) = some (.bl (decide (b < a))) := rfl
@[simp] theorem v_geI {a b : Int} : geD (.int a) (.int b) = some (.bl (decide (b ≤ a))) := rfl
@[simp] theorem v_ltI {a b : Int} : ltD (.int a) (.int b) = some (.bl (decide (a < b))) := rfl
@[simp] theorem v_leI {a b : Int} : leD (.int a) (.int b) = some (.bl (decide (a ≤ b))) := rfl
@[simp] theorem v_ixL {l : List D} {k : Int} : ixD (.lst l) (.int k) = atI l k := rfl
@[simp] theorem v_ixT {l : List D} {k : Int} : ixD (.tup l) (.int k) = atI l k := rfl
@[simp] theorem v_isN : isNotD d .non = some (.bl (!d.isNon)) := rfl
theorem at_nat {l : List D} {k : Nat} (h : l[k]? = some d) : atI l (k : Int) = some d := by
  obtain ⟨hl, _⟩ := List.getElem?_eq_some_iff.mp h
  unfold L2.atI L2.ixN
  rw [if_pos (by omega),
                                                                                                              if_pos (by omega)]
  simpa using h
@[simp] theorem at0 {l : List D} : atI (d :: l) 0 = some d := at_nat (k := 0) rfl
@[simp] theorem at1 {l : List D} {x : D} : atI (x :: d :: l) 1 = some d := at_nat (k := 1) rfl
@[simp] theorem at2 {l : List D} {x y : D} : atI (x :: y :: d :: l) 2 = some d := at_nat (k := 2) rfl
theorem ix_nat {n k : Nat} (h : k < n) : ixN n (k : Int) = some k := by
  unfold L2.ixN
  rw [if_pos (by omega),
                                                                                                              if_pos (by omega)]
  simp
@[simp] theorem ix0 {n : Nat} : ixN (n + 1) 0 = some 0 := ix_nat (k := 0) (by omega)
@[simp] theorem ix1 {n : Nat} : ixN (n + 2) 1 = some 1 := ix_nat (k := 1) (by omega)
@[simp] theorem ix2 {n : Nat} : ixN (n + 3) 2 = some 2 := ix_nat (k := 2) (by omega)
end
end DL

namespace DL
open PySem L2 PySem.Spec PyProof.Rows

/-! ### loops -/
theorem forL_ok {g : Tg} {body : M Fl} (I : List D → Env → Prop) (step : ∀ d ds e, I (d :: ds) e → ∃ e1 e2, g d e = some e1 ∧ (body e1 = .ok .nx e2 ∨ body e1 = .ok .ct e2) ∧ I ds e2) :
    ∀ {ds : List D} {e : Env}, I ds e → ∃ e', forL g body ds e = .ok .nx e' ∧ I [] e'
  | [], e, h => ⟨e, rfl, h⟩
  | d :: ds, e, h => by
    obtain ⟨e1, e2, h1, h2, h3⟩ := step d ds e h
    obtain ⟨e', h4, h5⟩ := forL_ok I step h3
    refine ⟨e', ?_, h5⟩
    rw [forL, h1]
    rcases h2 with h2 | h2 <;> · simp only [h2, v_bnd]; exact h4
/-- a loop that may return -/
theorem forL_ret {g : Tg} {body : M Fl} (I : List D → Env → Prop) (Rt : D → Env → Prop) (step : ∀ d ds e, I (d :: ds) e → ∃ e1 e2, g d e = some e1 ∧ (((body e1 = .ok .nx e2 ∨ body e1 = .ok .ct e2) ∧ I ds e2) ∨ ∃ r, body e1 = .ok (.rt r) e2 ∧ Rt r e2)) :
    ∀ {ds : List D} {e : Env}, I ds e → (∃ e', forL g body ds e = .ok .nx e' ∧ I [] e') ∨ ∃ r e', forL g body ds e = .ok (.rt r) e' ∧ Rt r e'
  | [], e, h => .inl ⟨e, rfl, h⟩
  | d :: ds, e, h => by
    obtain ⟨e1, e2, h1, h2⟩ := step d ds e h
    rcases h2 with ⟨h2, h3⟩ | ⟨r, h2, h3⟩
    · rcases forL_ret I Rt step h3 with ⟨e', h4, h5⟩ | ⟨r, e', h4, h5⟩
      · refine .inl ⟨e', ?_, h5⟩
        rw [forL, h1]
        rcases h2 with h2 | h2 <;> · simp only [h2, v_bnd]; exact h4
      · refine .inr ⟨r, e', ?_, h5⟩
        rw [forL, h1]
        rcases h2 with h2 | h2 <;> · simp only [h2, v_bnd]; exact h4
    · refine .inr ⟨r, e2, ?_, h3⟩
      rw [forL, h1]
      simp only [h2, v_bnd]
@[simp] theorem v_for {fi : M (List D)} {g : Tg} {body : M Fl} {e : Env} : sFor fi g body e = (fi e).bnd fun ds e1 => forL g body ds e1 := rfl
def iterO : Option (D × Env) → Out (List D)
  | some (d, e) => optB (seqItems d) e
  | none => .bad
@[simp] theorem v_iter {f : M R} {e : Env} : cIter f e = (f e).bnd fun r e1 => iterO (e1.frz r) := by first | rfl | (unfold cIter iterO; rfl)
@[simp] theorem v_iterO {d : D} {e : Env} : iterO (some (d, e)) = optB (seqItems d) e := rfl
@[simp] theorem v_itL {l : List D} : seqItems (.lst l) = some l := rfl
@[simp] theorem v_itT {l : List D} : seqItems (.tup l) = some l := rfl
@[simp] theorem v_itS {l : List Int} : seqItems (.scr l) = some (l.map D.int) := rfl
@[simp] theorem v_range1 {fs : M (List R)} {e : Env} : cRange1 fs e = (fs e).bnd fun rs e1 => optB (rngI1 rs) e1 := rfl
theorem v_rng {k : Int} (h1 : -(2 ^ 62) ≤ k) (h2 : k < 2 ^ 62) : rngI1 [.val (.int k)] = some (rng 0 k.toNat) := if_pos ⟨h1, h2⟩
@[simp] theorem v_gN {i : Nat} {d : D} {e : Env} : gN i d e = some (e.setS i (.dat d)) := rfl
theorem rng_cons {lo : Int} {n : Nat} : rng lo (n + 1) = .int lo :: rng (lo + 1) n := by
  unfold rng
  rw [List.range_succ_eq_map,
                                                                                                              List.map_cons, List.map_map]
  congr 1
  · simp
  · refine List.map_congr_left fun i _ => ?_
    simp only [Function.comp]
    congr 1
    omega
/-! ### comprehensions of a pure part -/
theorem lcL_pure {vs : List Nat} {g : Tg} {t : M Bool} {f : M R} {e0 : Env} (E : D → Env) (p : D → Bool) (h : D → D) :
    ∀ {ds acc : List D} {e : Env}, e.wipe vs = e0 → acc.length + ds.length ≤ sizeLine →
      (∀ d ∈ ds, g d e0 = some (E d) ∧ (E d).wipe vs = e0 ∧ t (E d) = .ok (p d) (E d) ∧ (p d = true → f (E d) = .ok (.val (h d)) (E d))) →
      ∃ e', lcL vs g t f ds acc e = .ok (acc ++ (ds.filter p).map h) e' ∧ e'.wipe vs = e0
  | [], acc, e, hw, _, _ => ⟨e, by simp [lcL], hw⟩
  | d :: ds, acc, e, hw, hl, H => by
    obtain ⟨h1, h2, h3, h4⟩ := H d List.mem_cons_self
    have hl' : acc.length + (ds.length + 1) ≤ sizeLine := hl
    rw [lcL, hw, h1]
    simp only [h3]
    cases hp : p d with
    | false =>
      simp only
      obtain ⟨e', q1, q2⟩ := lcL_pure (g := g) (t := t) (f := f) (acc := acc) E p h h2 (by omega) fun x hx => H x (List.mem_cons_of_mem _ hx)
      exact ⟨e', by rw [List.filter_cons, hp]; exact q1, q2⟩
    | true =>
      simp only [h4 hp, v_frzV]
      rw [if_pos (by omega)]
      obtain ⟨e', q1, q2⟩ := lcL_pure (g := g) (t := t) (f := f) (acc := acc ++ [h d]) E p h h2 (by rw [List.length_append]; simp; omega) fun x hx => H x (List.mem_cons_of_mem _ hx)
      refine ⟨e', ?_, q2⟩
      rw [q1, List.filter_cons, hp]
      simp
theorem wipe_slen (vs : List Nat) (e : Env) : (e.wipe vs).s.length = e.s.length := by
  induction vs with
  | nil => rfl
  | cons v vs ih => show (List.set _ _ _).length = _; rw [List.length_set]; exact ih
theorem back_slen (vs : List Nat) (e e' : Env) : (e.back e' vs).s.length = e'.s.length := by
  induction vs with
  | nil => rfl
  | cons v vs ih =>
    unfold Env.back
    split
    · show (List.set _ _ _).length = _; rw [List.length_set]; exact ih
    · exact ih
/-- the slots come back -/
theorem back_wipe {vs : List Nat} {e e' : Env} (h : e'.wipe vs = e.wipe vs) : e.back e' vs = e := by
  have hj : e'.j = e.j := by rw [← wipe_j vs e', h, wipe_j]
  have hl : e'.s.length = e.s.length := by rw [← wipe_slen vs e', h, wipe_slen]
  have hs : (e.back e' vs).s = e.s := by
    refine List.ext_getElem? fun i => ?_
    by_cases hi : i ∈ vs
    · rw [back_in vs e e' hl.symm hi]
    · rw [back_out vs e e' hi, ← wipe_out vs e' hi, h, wipe_out vs e hi]
  have e1 : (e.back e' vs).j = e.j := by rw [back_j, hj]
  cases e
  cases hb : Env.back _ _ _
  rw [hb] at hs e1
  simp only at hs e1
  rw [hs, e1]
theorem v_lc {vs : List Nat} {fi : M (List D)} {g : Tg} {t : M Bool} {f : M R} {e e1 : Env} {ds : List D} (E : D → Env) (p : D → Bool) (h : D → D) (hi : fi e = .ok ds e1) (pl : plainAt e1 vs = true) (hl : ds.length ≤ sizeLine)
    (H : ∀ d ∈ ds, g d (e1.wipe vs) = some (E d) ∧ (E d).wipe vs = e1.wipe vs ∧ t (E d) = .ok (p d) (E d) ∧ (p d = true → f (E d) = .ok (.val (h d)) (E d))) :
    cLc vs fi g t f e = .ok (.val (.lst ((ds.filter p).map h))) e1 := by
  obtain ⟨e', q1, q2⟩ := lcL_pure (g := g) (t := t) (f := f) (acc := []) (e := e1) E p h rfl (by simpa using hl) H
  unfold cLc
  rw [hi, v_bnd, if_pos pl, q1]
  simp only [List.nil_append]
  rw [back_wipe q2]
@[simp] theorem v_wipe1 {i : Nat} {e : Env} : e.wipe [i] = e.setS i .un := rfl
@[simp] theorem v_plU : S.un.plain = true := rfl
@[simp] theorem v_plD {d : D} : (S.dat d).plain = true := rfl
@[simp] theorem v_yes {e : Env} : tYs e = .ok true e := rfl
/-- the same as an outcome of simp's: one slot, all pure -/
theorem v_lc1 {i : Nat} {fi : M (List D)} {t : M Bool} {f : M R} {e e1 : Env} {ds : List D} (p : D → Bool) (h : D → D) (hi : fi e = .ok ds e1) (pl : plainAt e1 [i] = true) (hl : ds.length ≤ sizeLine)
    (H : ∀ d ∈ ds, t ((e1.setS i .un).setS i (.dat d)) = .ok (p d) ((e1.setS i .un).setS i (.dat d)) ∧ (p d = true → f ((e1.setS i .un).setS i (.dat d)) = .ok (.val (h d)) ((e1.setS i .un).setS i (.dat d)))) :
    cLc [i] fi (gN i) t f e = .ok (.val (.lst ((ds.filter p).map h))) e1 := by
  refine v_lc (fun d => (e1.setS i .un).setS i (.dat d)) p h hi pl hl fun d hd => ⟨rfl, ?_, H d hd⟩
  cases e1
  simp [Env.wipe, Env.setS]
/-! ### slices, sums of lists -/
@[simp] theorem v_sl {f : M R} {lo hi : M (Option Int)} {e : Env} : cSl f lo hi e = (f e).bnd fun r e1 => (lo e1).bnd fun l e2 => (hi e2).bnd fun h e3 => opt ((e3.rd r).bind fun d => slD d l h) e3 := rfl
def partO (e : Env) : R → Out (Option Int)
  | .val (.int i) => .ok (some i) e
  | _ => .bad
@[simp] theorem v_part {f : M R} {e : Env} : cPart f e = (f e).bnd fun r e1 => partO e1 r := rfl
@[simp] theorem v_partO {i : Int} {e : Env} : partO e (.val (.int i)) = .ok (some i) e := rfl
@[simp] theorem v_noPart {e : Env} : cNoPart e = .ok none e := rfl
@[simp] theorem v_slL {l : List D} {a b : Option Int} : slD (.lst l) a b = some (.lst (cutL l a b)) := rfl
@[simp] theorem v_slT {l : List D} {a b : Option Int} : slD (.tup l) a b = some (.tup (cutL l a b)) := rfl
@[simp] theorem v_slS {l : List Int} {a b : Option Int} : slD (.scr l) a b = some (.lst ((cutL l a b).map D.int)) := rfl
theorem cut_from {α : Type} {l : List α} {k : Nat} : cutL l (some (k : Int)) none = l.drop k := by
  unfold cutL
  rw [HT.sIx_nat, HT.sIx_none]
  by_cases h : k ≤ l.length
  · rw [Nat.min_eq_left h, List.take_of_length_le (by rw [List.length_drop]; omega)]
  · rw [Nat.min_eq_right (by omega), List.drop_of_length_le (by omega : l.length ≤ k)]
    simp
theorem cut_to {α : Type} {l : List α} {k : Nat} : cutL l none (some (k : Int)) = l.take k := by
  unfold cutL
  rw [HT.sIx_nat, HT.sIx_none, List.drop_zero, Nat.sub_zero]
  by_cases h : k ≤ l.length
  · rw [Nat.min_eq_left h]
  · rw [Nat.min_eq_right (by omega), List.take_of_length_le (by omega : l.length ≤ k), List.take_of_length_le (Nat.le_refl _)]
theorem v_addL {a b : List D} (h : a.length + b.length ≤ 16777216) : addD (.lst a) (.lst b) = some (.lst (a ++ b)) := if_pos (by rw [sizeLine_eq]; exact h)
theorem v_addT {a b : List D} (h : a.length + b.length ≤ 16777216) : addD (.tup a) (.tup b) = some (.tup (a ++ b)) := if_pos (by rw [sizeLine_eq]; exact h)
def lstO : Option (List D × Env) → Out R
  | some (ds, e) => if ds.length ≤ sizeLine then .ok (.val (.lst ds)) e else .bad
  | none => .bad
def tupO : Option (List D × Env) → Out R
  | some (ds, e) => if ds.length ≤ sizeLine then .ok (.val (.tup ds)) e else .bad
  | none => .bad
@[simp] theorem v_lst {f : M (List R)} {e : Env} : cLst f e = (f e).bnd fun rs e1 => lstO (e1.frzs rs) := rfl
@[simp] theorem v_tup {f : M (List R)} {e : Env} : cTup f e = (f e).bnd fun rs e1 => tupO (e1.frzs rs) := rfl
@[simp] theorem v_fLst {f : M (List R)} {e : Env} : fLst f e = (f e).bnd fun rs e1 => (match e1.frzs rs with
  | some (ds, e2) => if ds.length ≤ sizeLine then .ok (.lst ds) e2 else .bad
  | none => .bad) := rfl
theorem v_lstO {ds : List D} {e : Env} (h : ds.length ≤ 1000) : lstO (some (ds, e)) = .ok (.val (.lst ds)) e := if_pos (by rw [sizeLine_eq]; omega)
theorem v_tupO {ds : List D} {e : Env} (h : ds.length ≤ 1000) : tupO (some (ds, e)) = .ok (.val (.tup ds)) e := if_pos (by rw [sizeLine_eq]; omega)
@[simp] theorem v_lstO0 {e : Env} : lstO (some ([], e)) = .ok (.val (.lst [])) e := v_lstO (by simp)
@[simp] theorem v_tupO0 {e : Env} : tupO (some ([], e)) = .ok (.val (.tup [])) e := v_tupO (by simp)
@[simp] theorem v_tupO1 {a : D} {e : Env} : tupO (some ([a], e)) = .ok (.val (.tup [a])) e := v_tupO (by simp)
@[simp] theorem v_tupO2 {a b : D} {e : Env} : tupO (some ([a, b], e)) = .ok (.val (.tup [a, b])) e := v_tupO (by simp)
@[simp] theorem v_lstO1 {a : D} {e : Env} : lstO (some ([a], e)) = .ok (.val (.lst [a])) e := v_lstO (by simp)
@[simp] theorem v_lstO2 {a b : D} {e : Env} : lstO (some ([a, b], e)) = .ok (.val (.lst [a, b])) e := v_lstO (by simp)
@[simp] theorem v_lstO3 {a b c : D} {e : Env} : lstO (some ([a, b, c], e)) = .ok (.val (.lst [a, b, c])) e := v_lstO (by simp)
@[simp] theorem v_par {i j : Nat} {f g : M P} {e : Env} : sPar i j f g e = (f e).bnd fun p e1 => (g e1).bnd fun q e2 => .ok .nx ((e2.setS i p.s).setS j q.s) := rfl
@[simp] theorem v_pV {f : M R} {e : Env} : pV f e = (f e).bnd fun r e1 => pFrz (e1.frz r) := rfl
@[simp] theorem v_pFrz {d : D} {e : Env} : pFrz (some (d, e)) = .ok (.v d) e := rfl
@[simp] theorem v_pN {f : M D} {e : Env} : pN f e = (f e).bnd fun d e1 => .ok (.n d) e1 := rfl
@[simp] theorem v_pSv {d : D} : (P.v d).s = .dat d := rfl
@[simp] theorem v_pSn {d : D} : (P.n d).s = .own d := rfl
@[simp] theorem v_app {i : Nat} {f : M R} {e : Env} : cApp i f e = if isLst (e.rd (.whole i)) then (f e).bnd fun r e1 => appO i (e1.frz r) else .bad := rfl
def appL (i : Nat) (d : D) (e : Env) : Option D → Out R
  | some (.lst l) => if l.length < sizeLine then outE (e.put i (.lst (l ++ [d]))) fun e3 => .ok (.val .non) e3 else .bad
  | _ => .bad
@[simp] theorem v_appO {i : Nat} {d : D} {e : Env} : appO i (some (d, e)) = appL i d e (e.rd (.whole i)) := rfl
theorem v_appL {i : Nat} {d : D} {e : Env} {l : List D} (h : l.length < 16777216) : appL i d e (some (.lst l)) = outE (e.put i (.lst (l ++ [d]))) fun e3 => .ok (.val .non) e3 := if_pos (by rw [sizeLine_eq]; exact h)
def popL (i : Nat) (e : Env) : Option D → Out R
  | some (.lst l) => (match l.getLast? with
    | some d => outE (e.put i (.lst l.dropLast)) fun e3 => .ok (.val d) e3
    | none => .bad)
  | _ => .bad
@[simp] theorem v_pop {i : Nat} {e : Env} : cPop i e = popL i e (e.rd (.whole i)) := rfl
@[simp] theorem v_popL {i : Nat} {e : Env} {l : List D} {d : D} : popL i e (some (.lst (l ++ [d]))) = outE (e.put i (.lst l)) fun e3 => .ok (.val d) e3 := by
  unfold popL
  simp
@[simp] theorem v_revT {f : M R} {e : Env} : cRevT f e = (f e).bnd fun r e1 => opt ((e1.rd r).bind revD) e1 := rfl
@[simp] theorem v_revD {l : List D} : revD (.tup l) = some (.tup l.reverse) := rfl
@[simp] theorem v_asgT {g : Tg} {f : M R} {e : Env} : sAsgT g f e = (f e).bnd fun r e1 => (match e1.frz r with
  | some (d, e2) => (match g d e2 with
    | some e3 => .ok .nx e3
    | none => .bad)
  | none => .bad) := rfl
@[simp] theorem v_gT {gs : List Tg} {ds : List D} {e : Env} : gT gs (.tup ds) e = gTs gs ds e := rfl
@[simp] theorem v_gTs0 {e : Env} : gTs [] [] e = some e := rfl
@[simp] theorem v_gTs {g : Tg} {gs : List Tg} {d : D} {ds : List D} {e : Env} : gTs (g :: gs) (d :: ds) e = (g d e).bind (gTs gs ds) := rfl
@[simp] theorem v_lenL {l : List D} : lenD [.lst l] = some (.int l.length) := rfl
@[simp] theorem v_lenT {l : List D} : lenD [.tup l] = some (.int l.length) := rfl
@[simp] theorem v_lenS {l : List Int} : lenD [.scr l] = some (.int l.length) := rfl
@[simp] theorem v_min {a b : Int} : min2D [.int a, .int b] = some (.int (if b < a then b else a)) := rfl
@[simp] theorem v_max {a b : Int} : max2D [.int a, .int b] = some (.int (if b > a then b else a)) := rfl
@[simp] theorem v_tplL {l : List D} : tupleD [.lst l] = some (.tup l) := rfl
@[simp] theorem v_tplT {l : List D} : tupleD [.tup l] = some (.tup l) := rfl
end DL

namespace DL
open PySem L2 PySem.Spec PyProof.Rows

/-! ### plain data, by levels -/
inductive Sh : Nat → D → Prop
  | int {k : Nat} {i : Int} : Sh k (.int i)
  | bl {k : Nat} {b : Bool} : Sh k (.bl b)
  | non {k : Nat} : Sh k .non
  | str {k : Nat} {s : Str} : PyData.strOk s = true → Sh k (.str s)
  | tup {k : Nat} {l : List D} : (∀ d ∈ l, Sh k d) → Sh (k + 1) (.tup l)
  | lst {k : Nat} {l : List D} : (∀ d ∈ l, Sh k d) → Sh (k + 1) (.lst l)
theorem pyL_all {q : PyData → Bool} {qa : List PyData → Bool} (h0 : qa [] = true) (hc : ∀ x l, qa (x :: l) = (q x && qa l)) : ∀ {l : List D}, (∀ d ∈ l, q d.py = true) → qa (D.pyL l) = true
  | [], _ => h0
  | d :: l, h => by
    rw [D.pyL, hc, h d List.mem_cons_self, pyL_all h0 hc fun x hx => h x (List.mem_cons_of_mem _ hx)]
    rfl
theorem plL_of : ∀ {l : List D}, (∀ d ∈ l, d.pl = true) → D.plL l = true
  | [], _ => rfl
  | d :: l, h => by
    rw [D.plL, h d List.mem_cons_self, plL_of fun x hx => h x (List.mem_cons_of_mem _ hx)]
    rfl
theorem depth_of {k : Nat} : ∀ {l : List D}, (∀ d ∈ l, d.py.depth ≤ k) → PyData.depthAll (D.pyL l) ≤ k
  | [], _ => Nat.zero_le _
  | d :: l, h => by
    rw [D.pyL, PyData.depthAll]
    exact Nat.max_le.mpr ⟨h d List.mem_cons_self, depth_of fun x hx => h x (List.mem_cons_of_mem _ hx)⟩
theorem Sh.facts : ∀ {k : Nat} {d : D}, Sh k d → d.pl = true ∧ d.py.canLay0 = true ∧ d.py.depth ≤ k ∧ d.py.hasDict = false
  | _, _, .int => ⟨rfl, rfl, Nat.zero_le _, rfl⟩
  | _, _, .bl => ⟨rfl, rfl, Nat.zero_le _, rfl⟩
  | _, _, .non => ⟨rfl, rfl, Nat.zero_le _, rfl⟩
  | _, _, .str h => ⟨rfl, h, Nat.zero_le _, rfl⟩
  | _, _, .tup (l := l) h => by
    have f := fun d hd => Sh.facts (h d hd)
    refine ⟨plL_of fun d hd => (f d hd).1, pyL_all (q := PyData.canLay0) (qa := PyData.canLayAll0) (by simp [PyData.canLayAll0]) (fun x l => by simp [PyData.canLayAll0]) fun d hd => (f d hd).2.1, ?_, ?_⟩
    · rw [D.py, PyData.depth]; exact Nat.succ_le_succ (depth_of fun d hd => (f d hd).2.2.1)
    · have : (!PyData.hasDictAll (D.pyL l)) = true := pyL_all (q := fun d => !d.hasDict) (qa := fun l => !PyData.hasDictAll l) (by simp [PyData.hasDictAll]) (fun x l => by simp [PyData.hasDictAll]) fun d hd => by rw [(f d hd).2.2.2]; rfl
      rw [D.py, PyData.hasDict]; simpa using this
  | _, _, .lst (l := l) h => by
    have f := fun d hd => Sh.facts (h d hd)
    refine ⟨plL_of fun d hd => (f d hd).1, pyL_all (q := PyData.canLay0) (qa := PyData.canLayAll0) (by simp [PyData.canLayAll0]) (fun x l => by simp [PyData.canLayAll0]) fun d hd => (f d hd).2.1, ?_, ?_⟩
    · rw [D.py, PyData.depth]; exact Nat.succ_le_succ (depth_of fun d hd => (f d hd).2.2.1)
    · have : (!PyData.hasDictAll (D.pyL l)) = true := pyL_all (q := fun d => !d.hasDict) (qa := fun l => !PyData.hasDictAll l) (by simp [PyData.hasDictAll]) (fun x l => by simp [PyData.hasDictAll]) fun d hd => by rw [(f d hd).2.2.2]; rfl
      rw [D.py, PyData.hasDict]; simpa using this
theorem Sh.shp {k : Nat} {d : D} (h : Sh k d) (hk : k ≤ 64) : shp d = true := by
  obtain ⟨h1, h2, h3, _⟩ := h.facts
  unfold DL.shp SeqAt.shaped
  simp [h1, h2]
  omega
theorem Sh.mono {k j : Nat} {d : D} (h : Sh k d) (hj : k ≤ j) : Sh j d := by
  induction h generalizing j with
  | int => exact .int
  | bl => exact .bl
  | non => exact .non
  | str h => exact .str h
  | tup h ih =>
    obtain ⟨i, rfl⟩ : ∃ i, j = i + 1 := ⟨j - 1, by omega⟩
    exact .tup fun d hd => ih d hd (by omega)
  | lst h ih =>
    obtain ⟨i, rfl⟩ : ∃ i, j = i + 1 := ⟨j - 1, by omega⟩
    exact .lst fun d hd => ih d hd (by omega)
theorem eqD_of {k : Nat} {a b : D} (ha : Sh k a) (hb : Sh k b) (hk : k ≤ 64) : eqD a b = some (.bl (eqB a b)) := by
  unfold eqD
  rw [ha.shp hk, hb.shp hk]
  rfl
theorem neD_of {k : Nat} {a b : D} (ha : Sh k a) (hb : Sh k b) (hk : k ≤ 64) : neD a b = some (.bl (!eqB a b)) := by
  unfold neD
  rw [ha.shp hk, hb.shp hk]
  rfl
@[simp] theorem v_eqI {a b : Int} : eqD (.int a) (.int b) = some (.bl (decide (a = b))) := by
  rw [eqD_of (k := 0) .int .int (by omega)]
  have : eqB (.int a) (.int b) = decide (a = b) := by
    show (a == b) = _
    by_cases h : a = b <;> simp [h]
  rw [this]
theorem eqB_str {a b : Str} : eqB (.str a) (.str b) = decide (a = b) := by
  show (a == b) = _
  by_cases h : a = b <;> simp [h]
theorem v_eqS {a b : Str} (ha : PyData.strOk a = true) (hb : PyData.strOk b = true) : eqD (.str a) (.str b) = some (.bl (decide (a = b))) := by
  rw [eqD_of (k := 0) (.str ha) (.str hb) (by omega), eqB_str]
theorem v_neS {a b : Str} (ha : PyData.strOk a = true) (hb : PyData.strOk b = true) : neD (.str a) (.str b) = some (.bl (!decide (a = b))) := by
  rw [neD_of (k := 0) (.str ha) (.str hb) (by omega), eqB_str]
theorem eqvAll_cons (x y : D) (l m : List D) : PyData.eqvAll (D.pyL (x :: l)) (D.pyL (y :: m)) = (eqB x y && PyData.eqvAll (D.pyL l) (D.pyL m)) := by
  rw [D.pyL, D.pyL, PyData.eqvAll]
  rfl
theorem eqB_tup (l m : List D) : eqB (.tup l) (.tup m) = PyData.eqvAll (D.pyL l) (D.pyL m) := by
  show PyData.eqv _ _ = _
  rw [D.py, D.py, PyData.eqv]
theorem eqB_lst (l m : List D) : eqB (.lst l) (.lst m) = PyData.eqvAll (D.pyL l) (D.pyL m) := by
  show PyData.eqv _ _ = _
  rw [D.py, D.py, PyData.eqv]
theorem eqvAll_strs : ∀ (l m : List Str), PyData.eqvAll (D.pyL (l.map D.str)) (D.pyL (m.map D.str)) = decide (l = m)
  | [], [] => by simp [D.pyL, PyData.eqvAll]
  | [], _ :: _ => by simp [D.pyL, PyData.eqvAll]
  | _ :: _, [] => by simp [D.pyL, PyData.eqvAll]
  | a :: l, b :: m => by
    rw [List.map_cons, List.map_cons, eqvAll_cons, eqB_str, eqvAll_strs l m]
    by_cases h : a = b <;> by_cases h2 : l = m <;> simp [h, h2]
theorem eqB_row (l m : List Str) : eqB (.tup (l.map D.str)) (.tup (m.map D.str)) = decide (l = m) := by rw [eqB_tup, eqvAll_strs]
theorem Sh.refl : ∀ {k : Nat} {d : D}, Sh k d → eqB d d = true
  | _, _, .int => by simp [eqB, D.py, PyData.eqv]
  | _, _, .bl => by simp [eqB, D.py, PyData.eqv]
  | _, _, .non => by simp [eqB, D.py, PyData.eqv]
  | _, _, .str h => by simp [eqB, D.py, PyData.eqv]
  | _, _, .tup (l := l) h => by
    rw [eqB_tup]
    have r := fun d hd => Sh.refl (h d hd)
    clear h
    induction l with
    | nil => simp [D.pyL, PyData.eqvAll]
    | cons x l ih => rw [eqvAll_cons, r x List.mem_cons_self, ih fun d hd => r d (List.mem_cons_of_mem _ hd)]; rfl
  | _, _, .lst (l := l) h => by
    rw [eqB_lst]
    have r := fun d hd => Sh.refl (h d hd)
    clear h
    induction l with
    | nil => simp [D.pyL, PyData.eqvAll]
    | cons x l ih => rw [eqvAll_cons, r x List.mem_cons_self, ih fun d hd => r d (List.mem_cons_of_mem _ hd)]; rfl
/-- x in a list, a tuple -/
theorem inD_tup {k : Nat} {a : D} {l : List D} (ha : Sh k a) (hl : Sh k (.tup l)) (hk : k ≤ 64) : inD a (.tup l) = some (.bl (memB a l)) := by
  unfold inD inB
  simp only [ha.shp hk, hl.shp hk]
  rfl
theorem inD_lst {k : Nat} {a : D} {l : List D} (ha : Sh k a) (hl : Sh k (.lst l)) (hk : k ≤ 64) : inD a (.lst l) = some (.bl (memB a l)) := by
  unfold inD inB
  simp only [ha.shp hk, hl.shp hk]
  rfl
theorem notInD_tup {k : Nat} {a : D} {l : List D} (ha : Sh k a) (hl : Sh k (.tup l)) (hk : k ≤ 64) : notInD a (.tup l) = some (.bl (!memB a l)) := by
  unfold notInD inB
  simp only [ha.shp hk, hl.shp hk]
  rfl
theorem notInD_lst {k : Nat} {a : D} {l : List D} (ha : Sh k a) (hl : Sh k (.lst l)) (hk : k ≤ 64) : notInD a (.lst l) = some (.bl (!memB a l)) := by
  unfold notInD inB
  simp only [ha.shp hk, hl.shp hk]
  rfl
theorem memB_nil {x : D} : memB x [] = false := by simp [memB, D.pyL]
theorem memB_cons {x y : D} {l : List D} : memB x (y :: l) = (eqB y x || memB x l) := by
  unfold memB
  rw [D.pyL, List.any_cons]
  rfl
theorem memB_str {a : Str} : ∀ {l : List Str}, memB (.str a) (l.map D.str) = decide (a ∈ l)
  | [] => by simp [memB_nil]
  | b :: l => by
    rw [List.map_cons, memB_cons, memB_str, eqB_str]
    by_cases h : b = a
    · simp [h]
    · have h2 : ¬ a = b := fun z => h z.symm
      simp [h, h2]
/-- rows of texts -/
def rowD (l : List Str) : D := .tup (l.map D.str)
theorem sh_row {k : Nat} {l : List Str} (h : ∀ s ∈ l, PyData.strOk s = true) : Sh (k + 1) (rowD l) := .tup fun d hd => by
  obtain ⟨s, hs, rfl⟩ := List.mem_map.mp hd
  exact .str (h s hs)
theorem sh_rows {k : Nat} {l : List (List Str)} (h : ∀ r ∈ l, ∀ s ∈ r, PyData.strOk s = true) : Sh (k + 2) (.lst (l.map rowD)) := .lst fun d hd => by
  obtain ⟨s, hs, rfl⟩ := List.mem_map.mp hd
  exact sh_row (h s hs)
theorem sh_rowsT {k : Nat} {l : List (List Str)} (h : ∀ r ∈ l, ∀ s ∈ r, PyData.strOk s = true) : Sh (k + 2) (.tup (l.map rowD)) := .tup fun d hd => by
  obtain ⟨s, hs, rfl⟩ := List.mem_map.mp hd
  exact sh_row (h s hs)
end DL

namespace DL
open PySem L2 PySem.Spec PyProof.Rows

/-! ### webs, plain -/
def allPairs : List Str → List (Str × Str)
  | [] => []
  | a :: r => r.map (fun o => (a, o)) ++ allPairs r
def tieD (p : Str × Str) : D := .tup [.str p.1, .str p.2]
/-- ties among the places ws: of two different places, no two of the same -/
structure Lk (ws : List Str) (ls : List (Str × Str)) : Prop where
  on : ∀ p ∈ ls, p.1 ∈ ws ∧ p.2 ∈ ws ∧ p.1 ≠ p.2
  dif : ls.Pairwise fun p q => q ≠ p ∧ q ≠ p.swap
theorem dif_symm : ∀ {p q : Str × Str}, (q ≠ p ∧ q ≠ p.swap) → (p ≠ q ∧ p ≠ q.swap) := fun {p q} ⟨h1, h2⟩ => ⟨h1.symm, fun z => h2 (by rw [z, Prod.swap_swap])⟩
theorem Lk.perm {ws : List Str} {ls ms : List (Str × Str)} (h : Lk ws ls) (p : ls.Perm ms) : Lk ws ms :=
  ⟨fun x hx => h.on x (p.mem_iff.mpr hx), (p.pairwise_iff dif_symm).mp h.dif⟩
theorem Lk.swap {ws : List Str} {p : Str × Str} {ls : List (Str × Str)} (h : Lk ws (p :: ls)) : Lk ws (p.swap :: ls) := by
  obtain ⟨h1, h2⟩ := List.pairwise_cons.mp h.dif
  refine ⟨fun x hx => ?_, List.pairwise_cons.mpr ⟨fun q hq => ?_, h2⟩⟩
  · rcases List.mem_cons.mp hx with rfl | hx
    · obtain ⟨a, b, c⟩ := h.on p List.mem_cons_self
      exact ⟨b, a, c.symm⟩
    · exact h.on x (List.mem_cons_of_mem _ hx)
  · obtain ⟨a, b⟩ := h1 q hq
    exact ⟨b, by rw [Prod.swap_swap]; exact a⟩
theorem Lk.sub {ws : List Str} {ls ms : List (Str × Str)} (h : Lk ws ls) (s : ms.Sublist ls) : Lk ws ms := ⟨fun x hx => h.on x (s.subset hx), h.dif.sublist s⟩
theorem allPairs_on : ∀ {l : List Str} {p : Str × Str}, p ∈ allPairs l → p.1 ∈ l ∧ p.2 ∈ l
  | a :: r, p, h => by
    rcases List.mem_append.mp
                                                                                                              h with h | h
    · obtain ⟨o, ho, rfl⟩ := List.mem_map.mp h
      exact ⟨List.mem_cons_self, List.mem_cons_of_mem _ ho⟩
    · obtain ⟨h1, h2⟩ := allPairs_on h
      exact ⟨List.mem_cons_of_mem _ h1, List.mem_cons_of_mem _ h2⟩
theorem allPairs_lk : ∀ {l : List Str}, l.Nodup → Lk l (allPairs l)
  | [], _ => ⟨fun p h => by simp [allPairs] at h, List.Pairwise.nil⟩
  | a :: r, h => by
    obtain ⟨ha, hr⟩ := List.nodup_cons.mp h
    have ih := allPairs_lk hr
    refine ⟨fun p hp => ?_, List.pairwise_append.mpr ⟨?_, ih.dif, fun p hp q hq => ?_⟩⟩
    · rcases List.mem_append.mp
                                                                                                              hp with hp | hp
      · obtain ⟨o, ho, rfl⟩ := List.mem_map.mp hp
        exact ⟨List.mem_cons_self, List.mem_cons_of_mem _ ho, fun z => ha (by have z : a = o := z; rw [z]; exact ho)⟩
      · obtain ⟨h1, h2, h3⟩ := ih.on p hp
        exact ⟨List.mem_cons_of_mem _ h1, List.mem_cons_of_mem _ h2, h3⟩
    · refine List.pairwise_map.mpr (hr.imp_of_mem fun {x y} hx hy n => ?_)
      refine ⟨fun z => n (congrArg Prod.snd z).symm, fun z => ?_⟩
      have z1 : a = x := congrArg Prod.fst z
      exact ha (z1 ▸ hx)
    · obtain ⟨o, ho, rfl⟩ := List.mem_map.mp hp
      obtain ⟨q1, q2⟩ := allPairs_on hq
      refine ⟨fun z => ha ?_, fun z => ha ?_⟩
      · rw [z] at q1; exact q1
      · rw [z] at q2; exact q2
theorem allPairs_len : ∀ {l : List Str}, (allPairs l).length ≤ l.length * l.length
  | [] => Nat.le_refl _
  | a :: r => by
    have := allPairs_len (l := r)
    rw [allPairs, List.length_append, List.length_map, List.length_cons]
    have e : (r.length + 1) * (r.length + 1) = r.length * r.length + 2 * r.length + 1 := by rw [Nat.add_mul, Nat.mul_add]; omega
    omega
theorem allPairs_pos {l : List Str} (h : 2 ≤ l.length) : 0 < (allPairs l).length := by
  match l, h with
  | a :: b :: r, _ => simp [allPairs]
end DL

namespace DL
open PySem L2 PySem.Spec PyProof.Rows

/-! ### the order of texts, of rows -/
def ltS (a b : Str) : Bool := decide (a.cps.toList < b.cps.toList)
def ltR : List Str → List Str → Bool
  | [], [] => false
  | [], _ :: _ => true
  | _ :: _, [] => false
  | a :: l, b :: m => if a = b then ltR l m else ltS a b
theorem srt_tot (a b : D) : (srtLe a b || srtLe b a) = true := by
  rcases (PySem.W.sortLe_total (listOrd itemOrd) false fun d : D => PySem.W.keyToks d.py).total a b with h | h
  · exact Bool.or_eq_true_iff.mpr (.inl h)
  · exact Bool.or_eq_true_iff.mpr (.inr h)
theorem srt_trans (a b c : D) (h1 : srtLe a b = true) (h2 : srtLe b c = true) : srtLe a c = true := (PySem.W.sortLe_total (listOrd itemOrd) false fun d : D => PySem.W.keyToks d.py).trans a b c h1 h2
theorem srt_str (a b : Str) : srtLe (.str a) (.str b) = !ltS b a := by
  show (!PySem.W.dataLt (.str b) (.str a)) = _
  rw [PySem.W.dataLt_str]
  rfl
theorem row_lt : ∀ l m : List Str, PyProof.Rows.lexLt itemOrd (PySem.W.keyToksAll (D.pyL (l.map D.str))) (PySem.W.keyToksAll (D.pyL (m.map D.str))) = ltR l m
  | [], [] => by
    simp only [List.map_nil, D.pyL]
    exact lex_irrefl _
  | [], b :: m => by
    rw [List.map_nil, List.map_cons, D.pyL, D.pyL, PySem.W.keyToksAll, PySem.W.keyToksAll]
    exact lex_true.mpr (.inl (by rfl))
  | a :: l, [] => by
    rw [List.map_nil, List.map_cons, D.pyL, D.pyL, PySem.W.keyToksAll, PySem.W.keyToksAll]
    exact lex_false.mpr ⟨by rfl, .inl (by rfl)⟩
  | a :: l, b :: m => by
    rw [List.map_cons, List.map_cons, D.pyL, D.pyL, PySem.W.dataLt_cons (by rfl), row_lt l m]
    have e1 : PyData.eqv (D.str a).py (D.str b).py = decide (a = b) := eqB_str
    rw [e1]
    have e2 : PySem.W.dataLt (D.str a).py (D.str b).py = ltS a b := PySem.W.dataLt_str a b
    rw [e2]
    by_cases h : a = b <;> simp [ltR, h]
theorem srt_row (l m : List Str) : srtLe (rowD l) (rowD m) = !ltR m l := by
  show (!PySem.W.dataLt (rowD m).py (rowD l).py) = _
  rw [rowD, rowD, D.py, D.py, PySem.W.dataLt_tuple, row_lt]
theorem ltR_pre : ∀ (c a b : List Str), ltR (c ++ a) (c ++ b) = ltR a b
  | [], _, _ => rfl
  | x :: c, a, b => by
    show (if x = x then ltR (c ++ a) (c ++ b) else _) = _
    rw [if_pos rfl, ltR_pre c a b]
theorem ltS_asym {a b : Str} (h : ltS a b = true) : ltS b a = false := by
  unfold ltS at h ⊢
  have h := of_decide_eq_true h
  exact decide_eq_false fun z => absurd (List.lt_trans h z) (List.lt_irrefl _)
theorem ltS_ne {a b : Str} (h : ltS a b = true) : a ≠ b := fun z => by
  subst z
  have := ltS_asym h
  rw [h] at this
  cases this
theorem ltS_tot {a b : Str} (h : a ≠ b) (h2 : ltS b a = false) : ltS a b = true := by
  unfold ltS at h2 ⊢
  have h2 := of_decide_eq_false h2
  refine decide_eq_true ?_
  by_cases q : a.cps.toList < b.cps.toList
  · exact q
  · exact absurd (PySem.W.str_of_cps (List.le_antisymm (show a.cps.toList ≤ b.cps.toList from h2) (show b.cps.toList ≤ a.cps.toList from q))) h
theorem ltR_asym : ∀ {a b : List Str}, ltR a b = true → ltR b a = false
  | [], [], h => by cases h
  | [], _ :: _, _ => rfl
  | _ :: _, [], h => by cases h
  | x :: a, y :: b, h => by
    unfold ltR at h ⊢
    by_cases e : x = y
    · subst e
      rw [if_pos rfl] at h ⊢
      exact ltR_asym h
    · rw [if_neg e] at h
      rw [if_neg fun z => e z.symm]
      exact ltS_asym h
theorem ltR_tot : ∀ {a b : List Str}, ltR a b = false → ltR b a = false → a = b
  | [], [], _, _ => rfl
  | [], _ :: _, h, _ =>
                                                                                                              by cases h
  | _ :: _, [], _, h =>
                                                                                                              by cases h
  | x :: a, y :: b, h, h2 => by
    unfold ltR at h h2
    by_cases e : x = y
    · subst e
      rw [if_pos rfl] at h h2
      rw [ltR_tot h h2]
    · rw [if_neg e] at h
      rw [if_neg fun z => e z.symm] at h2
      rw [ltS_tot e h2] at h
      cases h
theorem ltR_ne {a b : List Str} (h : ltR a b = true) : a ≠ b := fun z => by
  subst z
  have := ltR_asym h
  rw [h] at this
  cases this
/-! ### sorted lists of these -/
def sortS (l : List Str) : List Str := l.mergeSort fun a b => !ltS b a
theorem sortD_str (l : List Str) : sortD (l.map D.str) = (sortS l).map D.str := by
  unfold sortD sortS
  exact (List.map_mergeSort fun a _ b _ => (srt_str a b).symm).symm
theorem sortS_perm (l : List Str) : (sortS l).Perm l := List.mergeSort_perm _ _
theorem sortS_lt {l : List Str} (h : l.Nodup) : (sortS l).Pairwise fun a b => ltS a b = true := by
  have p : (sortS l).Pairwise fun a b => (!ltS b a) = true := by
    refine List.pairwise_mergeSort (fun a b c h1 h2 => ?_) (fun a b => ?_) l
    · rw [← srt_str] at h1 h2 ⊢
      exact srt_trans _ _ _ h1 h2
    · rw [← srt_str, ← srt_str]
      exact srt_tot _ _
  have n : (sortS l).Nodup := (sortS_perm l).nodup_iff.mpr h
  exact (p.and n).imp fun {a b} ⟨h1, h2⟩ => ltS_tot h2 (by simpa using h1)
/-- a sorted row of rows is what sorted tells of any order of them -/
theorem sortD_rows {E fd : List (List Str)} (hE : E.Pairwise fun a b => ltR a b = true) (p : fd.Perm E) : sortD (fd.map rowD) = E.map rowD := by
  have e1 : (E.map rowD).Pairwise fun a b => srtLe a b = true := List.pairwise_map.mpr (hE.imp fun {a b} h => by
    have z := srt_row a b
    rw [ltR_asym h] at z
    exact z)
  have e2 : (sortD (fd.map rowD)).Pairwise fun a b => srtLe a b = true := List.pairwise_mergeSort srt_trans srt_tot _
  refine List.Perm.eq_of_pairwise (le := fun a b => srtLe a b = true) (fun a b ha hb h1 h2 => ?_) e2 e1 ((List.mergeSort_perm _ _).trans (p.map rowD))
  obtain ⟨x, hx, rfl⟩ := List.mem_map.mp (List.mem_mergeSort.mp ha)
  obtain ⟨y, hy, rfl⟩ := List.mem_map.mp hb
  rw [srt_row] at h1 h2
  have z : x = y := ltR_tot (by simpa using h2) (by simpa using h1)
  rw [z]
theorem ltR_nodup {E : List (List Str)} (hE : E.Pairwise fun a b => ltR a b = true) : E.Nodup := hE.imp fun h => ltR_ne h

/-! ### neighbours -/
def nbr (ls : List (Str × Str)) (x : Str) : List Str := (ls.filter fun p => decide (p.1 = x)).map (·.2) ++ (ls.filter fun p => decide (p.2 = x)).map (·.1)
def NB (ls : List (Str × Str)) (x : Str) : List Str := sortS (nbr ls x)
def adj (ls : List (Str × Str)) (x y : Str) : Prop := (x, y) ∈ ls ∨ (y, x) ∈ ls
theorem adj_symm {ls : List (Str × Str)} {x y : Str} (h : adj ls x y) : adj ls y x := h.symm
theorem mem_nbr {ls : List (Str × Str)} {x y : Str} : y ∈ nbr ls x ↔ adj ls x y := by
  unfold nbr adj
  simp only [List.mem_append, List.mem_map, List.mem_filter, decide_eq_true_eq]
  constructor
  · rintro (⟨⟨a, b⟩, ⟨h1, rfl⟩, rfl⟩ | ⟨⟨a, b⟩, ⟨h1, rfl⟩, rfl⟩)
    · exact .inl h1
    · exact .inr h1
  · rintro (h | h)
    · exact .inl ⟨(x, y), ⟨h, rfl⟩, rfl⟩
    · exact .inr ⟨(y, x), ⟨h, rfl⟩, rfl⟩
theorem mem_NB {ls : List (Str × Str)} {x y : Str} : y ∈ NB ls x ↔ adj ls x y := (sortS_perm _).mem_iff.trans mem_nbr
theorem nbr_nodup {ws : List Str} {ls : List (Str × Str)} (h : Lk ws ls) (x : Str) : (nbr ls x).Nodup := by
  unfold nbr
  refine List.pairwise_append.mpr ⟨?_, ?_, ?_⟩
  · refine List.pairwise_map.mpr (((h.dif.sublist List.filter_sublist)).imp_of_mem fun {p q} hp hq n z => n.1 ?_)
    have h1 := of_decide_eq_true (List.mem_filter.mp hp).2
    have h2 := of_decide_eq_true (List.mem_filter.mp hq).2
    exact Prod.ext (h2.trans h1.symm) z.symm
  · refine List.pairwise_map.mpr (((h.dif.sublist List.filter_sublist)).imp_of_mem fun {p q} hp hq n z => n.1 ?_)
    have h1 := of_decide_eq_true (List.mem_filter.mp hp).2
    have h2 := of_decide_eq_true (List.mem_filter.mp hq).2
    exact Prod.ext z.symm (h2.trans h1.symm)
  · intro a ha b hb z
    subst z
    obtain ⟨p, hp, rfl⟩ := List.mem_map.mp ha
    obtain ⟨q, hq, e⟩ := List.mem_map.mp hb
    obtain ⟨p1, p2⟩ := List.mem_filter.mp hp
    obtain ⟨q1, q2⟩ := List.mem_filter.mp hq
    have p2 := of_decide_eq_true p2
    have q2 := of_decide_eq_true q2
    have es : q = p.swap := Prod.ext e (q2.trans p2.symm)
    have dd := h.dif
    have hne : p ≠ q := fun z => by
      have := h.on p p1
      rw [z] at p2
      exact (h.on q q1).2.2 (p2.trans q2.symm)
    have key : ∀ {l : List (Str × Str)}, l.Pairwise (fun p q => q ≠ p ∧ q ≠ p.swap) → p ∈ l → q ∈ l → False := by
      intro l hl
      induction l with
      | nil => intro a; cases a
      | cons c l ih =>
        obtain ⟨k1, k2⟩ := List.pairwise_cons.mp hl
        intro a b
        rcases List.mem_cons.mp a with ea | a
        · rcases List.mem_cons.mp b with eb | b
          · exact hne (ea.trans eb.symm)
          · exact (k1 q b).2 (by rw [← ea]; exact es)
        · rcases List.mem_cons.mp b with eb | b
          · exact (k1 p a).2 (by rw [← eb, es, Prod.swap_swap])
          · exact ih k2 a b
    exact key dd p1 q1
theorem NB_lt {ws : List Str} {ls : List (Str × Str)} (h : Lk ws ls) (x : Str) : (NB ls x).Pairwise fun a b => ltS a b = true := sortS_lt (nbr_nodup h x)
theorem NB_nodup {ws : List Str} {ls : List (Str × Str)} (h : Lk ws ls) (x : Str) : (NB ls x).Nodup := (NB_lt h x).imp fun h => ltS_ne h
theorem NB_in {ws : List Str} {ls : List (Str × Str)} (h : Lk ws ls) {x y : Str} (hy : y ∈ NB ls x) : y ∈ ws := by
  rcases mem_NB.mp hy with q | q
  · exact (h.on _ q).2.1
  · exact (h.on _ q).1
theorem nd_len : ∀ {l ws : List Str}, l.Nodup → (∀ x ∈ l, x ∈ ws) → l.length ≤ ws.length
  | [], _, _, _ =>
                                                                                                              Nat.zero_le _
  | a :: l, ws, h, hs => by
    obtain ⟨h1, h2⟩ :=
                                                                                                              List.nodup_cons.mp h
    have ha : a ∈ ws := hs a List.mem_cons_self
    have := nd_len (ws := ws.erase a) h2 fun x hx => (List.mem_erase_of_ne (a := x) (b := a) fun z => h1 (by rw [← z]; exact hx)).mpr (hs x (List.mem_cons_of_mem _ hx))
    rw [List.length_erase_of_mem ha] at this
    have := List.length_pos_of_mem ha
    rw [List.length_cons]
    omega

/-! ### rows, by depth -/
section
variable (nb : Str → List Str) (g : Str)
def kids (pre : List Str) (x p : Str) (rest : List (List Str)) : List (List Str) := if p = g then [pre ++ [x] ++ [g]] else if p ∈ pre ++ [x] then [] else rest
def ext : Nat → List Str → Str → List (List Str)
  | 0, _, _ => []
  | n + 1, pre, x => (nb x).flatMap fun p => kids g pre x p (ext n (pre ++ [x]) p)
/-- what is left of a row from x to g, vis already in it -/
inductive Wk : List Str → Str → List Str → Prop
  | goal {vis : List Str} {x : Str} : g ∈ nb x → Wk vis x [g]
  | step {vis : List Str} {x p : Str} {t : List Str} : p ∈ nb x → p ≠ g → p ∉ vis → Wk (vis ++ [p]) p t → Wk vis x (p :: t)
end
variable {nb : Str → List Str} {g : Str}
theorem mem_ext : ∀ {n : Nat} {pre : List Str} {x : Str} {r : List Str}, r ∈ ext nb g n pre x ↔ ∃ t, t.length ≤ n ∧ r = pre ++ [x] ++ t ∧ Wk nb g (pre ++ [x]) x t
  | 0, pre, x, r => by
    refine Iff.intro (fun h => by cases h) fun h => ?_
    obtain ⟨t, h1, h2, h3⟩ := h
    cases h3 <;> simp at h1
  | n + 1, pre, x, r => by
    unfold ext kids
    rw [List.mem_flatMap]
    constructor
    · rintro ⟨p, hp, h⟩
      by_cases e : p = g
      · rw [if_pos e] at h
        subst e
        exact ⟨[p], by simp, List.mem_singleton.mp h, .goal hp⟩
      · rw [if_neg e] at h
        by_cases e2 : p ∈ pre ++ [x]
        · rw [if_pos e2] at h; cases h
        · rw [if_neg e2] at h
          obtain ⟨t, h1, h2, h3⟩ := mem_ext.mp h
          exact ⟨p :: t, by simpa using h1, by rw [h2]; simp, .step hp e e2 h3⟩
    · rintro ⟨t, h1, rfl, h3⟩
      cases h3 with
      | goal hp => exact ⟨g, hp, by rw [if_pos rfl]; simp⟩
      | step hp e e2 h4 =>
        rename_i p t
        refine ⟨p, hp, ?_⟩
        rw [if_neg e, if_neg e2]
        exact mem_ext.mpr ⟨t, by simpa using h1, by simp, h4⟩
theorem ext_lt (hs : ∀ x, (nb x).Pairwise fun a b => ltS a b = true) : ∀ {n : Nat} {pre : List Str} {x : Str}, (ext nb g n pre x).Pairwise fun a b => ltR a b = true
  | 0, _, _ => List.Pairwise.nil
  | n + 1, pre, x => by
    have pref : ∀ p r, r ∈ kids g pre x p (ext nb g n (pre ++ [x]) p) → ∃ t, r = pre ++ [x] ++ p :: t := by
      intro p r h
      unfold kids at h
      split at h
      · rename_i e
        exact ⟨[], by rw [List.mem_singleton.mp h, e]⟩
      · split at h
        · cases h
        · obtain ⟨t, _, h2, _⟩ := mem_ext.mp h
          exact ⟨t, by rw [h2]; simp⟩
    refine List.pairwise_flatMap.mpr ⟨fun p hp => ?_, (hs x).imp fun {p q} hpq r hr r' hr' => ?_⟩
    · unfold kids
      split
      · exact List.pairwise_singleton _ _
      · split
        · exact List.Pairwise.nil
        · exact ext_lt hs
    · obtain ⟨t, rfl⟩ := pref p r hr
      obtain ⟨t', rfl⟩ := pref q r' hr'
      rw [ltR_pre]
      show (if p = q then _ else ltS p q) = true
      rw [if_neg (ltS_ne hpq)]
      exact hpq
end DL

namespace DL
open PySem L2 PySem.Spec PyProof.Rows

/-! ### rows without depth -/
section
variable {nb : Str → List Str} {g b : Str}
def Ch (nb : Str → List Str) (l : List Str) : Prop := ∀ l1 a c l2, l = l1 ++ a :: c :: l2 → c ∈ nb a
theorem ch_one {x : Str} : Ch nb [x] := fun l1 a c l2 h => by
  have := congrArg
                                                                                                              List.length h
  simp at this
  omega
theorem ch_cons {x y : Str} {t : List Str} : Ch nb (x :: y :: t) ↔ y ∈ nb x ∧ Ch nb (y :: t) := by
  constructor
  · intro h
    refine ⟨h [] x y t rfl, fun l1 a c l2 e => h (x :: l1) a c l2 (by rw [e]; rfl)⟩
  · rintro ⟨h1, h2⟩ l1 a c l2 e
    cases l1 with
    | nil => cases e; exact h1
    | cons z l1 =>
      have e : x :: (y :: t) = z :: (l1 ++ a :: c :: l2) := e
      exact h2 l1 a c l2 (List.cons.inj e).2
theorem ch_rev {l : List Str} (hs : ∀ x y, y ∈ nb x → x ∈ nb y) (h : Ch nb l) : Ch nb l.reverse := fun l1 a c l2 e => by
  have e2 := congrArg List.reverse e
  rw [List.reverse_reverse] at e2
  simp only [List.reverse_append, List.reverse_cons, List.append_assoc, List.cons_append, List.nil_append] at e2
  exact hs _ _ (h l2.reverse c a l1.reverse (by rw [e2]))
theorem wk_to {vis : List Str} {x : Str} {t : List Str} (h : Wk nb g vis x t) : ∃ s, t = s ++ [g] ∧ g ∉ s ∧ s.Nodup ∧ (∀ p ∈ s, p ∉ vis) ∧ Ch nb (x :: t) := by
  induction h with
  | goal hg => exact ⟨[], rfl, by simp, List.nodup_nil, by simp, ch_cons.mpr ⟨hg, ch_one⟩⟩
  | step hp hg hv hw ih =>
    obtain ⟨s, rfl, h2, h3, h4, h5⟩ := ih
    rename_i vis x p
    refine ⟨p :: s, rfl, fun z => ?_, List.nodup_cons.mpr ⟨fun z => h4 p z (by simp), h3⟩, fun q hq => ?_, ch_cons.mpr ⟨hp, h5⟩⟩
    · rcases List.mem_cons.mp
                                                                                                              z with z | z
      · exact hg z.symm
      · exact h2 z
    · rcases List.mem_cons.mp
                                                                                                              hq with rfl | hq
      · exact hv
      · exact fun z => h4 q hq (List.mem_append_left _ z)
theorem wk_of : ∀ {s : List Str} {vis : List Str} {x : Str}, g ∉ s → s.Nodup → (∀ p ∈ s, p ∉ vis) → Ch nb (x :: (s ++ [g])) → Wk nb g vis x (s ++ [g])
  | [], vis, x, _, _, _, hc => .goal (ch_cons.mp hc).1
  | p :: s, vis, x, hg, hn, hv, hc => by
    obtain ⟨h1, h2⟩ := ch_cons.mp hc
    obtain ⟨n1, n2⟩ := List.nodup_cons.mp hn
    refine .step h1 (fun z => hg (by rw [z]; exact List.mem_cons_self)) (hv p List.mem_cons_self) (wk_of (fun z => hg (List.mem_cons_of_mem _ z)) n2 (fun q hq z => ?_) h2)
    rcases List.mem_append.mp z with z | z
    · exact hv q (List.mem_cons_of_mem _ hq) z
    · rw [List.mem_singleton.mp z] at hq
      exact n1 hq
/-- a row from b to g -/
def SP (nb : Str → List Str) (b g : Str) (r : List Str) : Prop := ∃ s, r = b :: (s ++ [g]) ∧ r.Nodup ∧ Ch nb r
theorem sp_wk (hb : b ≠ g) {t : List Str} : Wk nb g [b] b t ↔ SP nb b g (b :: t) := by
  constructor
  · intro h
    obtain ⟨s, rfl, h2, h3, h4, h5⟩ := wk_to h
    refine ⟨s, rfl, List.nodup_cons.mpr ⟨fun z => ?_, List.nodup_append.mpr ⟨h3, by simp, fun a ha c hc z => ?_⟩⟩, h5⟩
    · rcases List.mem_append.mp z with z | z
      · exact h4 b z (by simp)
      · exact hb (List.mem_singleton.mp z)
    · rw [List.mem_singleton.mp hc] at z
      exact h2 (z ▸ ha)
  · rintro ⟨s, h1, h2, h3⟩
    have h1 : t = s ++ [g] := (List.cons.inj h1).2
    subst h1
    obtain ⟨n1, n2⟩ := List.nodup_cons.mp h2
    obtain ⟨m1, m2, m3⟩ := List.nodup_append.mp n2
    refine wk_of (fun z => m3 g z g (by simp) rfl) m1 (fun p hp z => ?_) h3
    rw [List.mem_singleton.mp z] at hp
    exact n1 (List.mem_append_left _ hp)
theorem sp_rev (hs : ∀ x y, y ∈ nb x → x ∈ nb y) {r : List Str} (h : SP nb b g r) : SP nb g b r.reverse := by
  obtain ⟨s, rfl, h2, h3⟩ := h
  exact ⟨s.reverse, by simp, (List.reverse_perm _).nodup_iff.mpr h2, ch_rev hs h3⟩
theorem sp_in {ws : List Str} (hn : ∀ x y, y ∈ nb x → y ∈ ws) (hb : b ∈ ws) {r : List Str} (h : SP nb b g r) : ∀ x ∈ r, x ∈ ws := by
  obtain ⟨s, rfl, h2, h3⟩ := h
  intro x hx
  rcases List.mem_cons.mp
                                                                                                              hx with rfl | hx
  · exact hb
  · obtain ⟨l1, l2, e⟩ := List.append_of_mem hx
    have e3 : b :: (s ++ [g]) = (b :: l1) ++ x :: l2 := by rw [e]; rfl
    obtain ⟨l3, c, e4⟩ : ∃ l3 c, b :: l1 = l3 ++ [c] := ⟨(b :: l1).dropLast, (b :: l1).getLast (by simp), (List.dropLast_concat_getLast (by simp)).symm⟩
    refine hn c x (h3 l3 c x l2 ?_)
    rw [e3, e4]
    simp
theorem ext_sp {ws : List Str} (hn : ∀ x y, y ∈ nb x → y ∈ ws) (hb : b ∈ ws) (hbg : b ≠ g) {n : Nat} (hl : ws.length ≤ n) {r : List Str} : r ∈ ext nb g n [] b ↔ SP nb b g r := by
  rw [mem_ext]
  constructor
  · rintro ⟨t, _, rfl, h⟩
    exact (sp_wk hbg).mp h
  · intro h
    obtain ⟨s, e, h2, h3⟩ := id h
    have := nd_len h2 (sp_in hn hb h)
    subst e
    exact ⟨s ++ [g], by simp only [List.length_cons] at this; omega, rfl, (sp_wk hbg).mpr h⟩
/-- the rows the other way round -/
theorem ext_turn {ws : List Str} (hn : ∀ x y, y ∈ nb x → y ∈ ws) (hs : ∀ x y, y ∈ nb x → x ∈ nb y) (hlt : ∀ x, (nb x).Pairwise fun a b => ltS a b = true) (hb : b ∈ ws) (hg : g ∈ ws) (hbg : b ≠ g) {n : Nat} (hl : ws.length ≤ n) :
    ((ext nb b n [] g).map List.reverse).Perm (ext nb g n [] b) := by
  have n1 : (ext nb g n [] b).Nodup := ltR_nodup (ext_lt hlt)
  have n2 : ((ext nb b n [] g).map List.reverse).Nodup := List.pairwise_map.mpr ((ltR_nodup (ext_lt hlt)).imp fun h z => h (List.reverse_inj.mp z))
  refine (List.perm_ext_iff_of_nodup n2 n1).mpr fun r => ?_
  rw [ext_sp hn hb hbg hl, List.mem_map]
  constructor
  · rintro ⟨q, hq, rfl⟩
    exact sp_rev hs ((ext_sp hn hg hbg.symm hl).mp hq)
  · intro h
    exact ⟨r.reverse, (ext_sp hn hg hbg.symm hl).mpr (sp_rev hs h), List.reverse_reverse _⟩
end

/-! ### how many -/
def fct : Nat → Nat
  | 0 => 1
  | m + 1 => 1 + (m + 1) * fct m
def nds (nb : Str → List Str) (g : Str) : Nat → List Str → Str → Nat
  | 0, _, _ => 1
  | n + 1, pre, x => 1 + ((nb x).map fun p => if p = g ∨ p ∈ pre ++ [x] then 0 else nds nb g n (pre ++ [x]) p).sum
section
variable {nb : Str → List Str} {g : Str} {ws : List Str}
theorem fct_mono {a b : Nat} (h : a ≤ b) : fct a ≤ fct b := by
  induction h with
  | refl => exact Nat.le_refl _
  | step _ ih =>
    refine Nat.le_trans ih ?_
    rename_i m _
    show fct m ≤ 1 + (m + 1) * fct m
    rw [Nat.add_mul]
    omega
theorem sum_le {p : Str → Prop} [DecidablePred p] {f : Str → Nat} {B : Nat} : ∀ {l : List Str}, (∀ x ∈ l, ¬ p x → f x ≤ B) → (l.map fun x => if p x then 0 else f x).sum ≤ (l.filter fun x => !decide (p x)).length * B
  | [], _ => by simp
  | x :: l, h => by
    have ih := sum_le (p := p) (f := f) (B := B) (l := l) fun y hy => h y (List.mem_cons_of_mem _ hy)
    rw [List.map_cons, List.sum_cons, List.filter_cons]
    by_cases hp : p x
    · rw [if_pos hp]
      simp only [hp, decide_true, Bool.not_true, Bool.false_eq_true, if_false]
      omega
    · rw [if_neg hp]
      have := h x List.mem_cons_self hp
      simp only [hp, decide_false, Bool.not_false, if_true, List.length_cons, Nat.add_mul]
      omega
theorem nds_le (hn : ∀ x y, y ∈ nb x → y ∈ ws) (hd : ∀ x, (nb x).Nodup) (hg : g ∈ ws) : ∀ {n : Nat} {pre : List Str} {x : Str}, (pre ++ [x]).Nodup → (∀ y ∈ pre ++ [x], y ∈ ws) → g ∉ pre ++ [x] → nds nb g n pre x ≤ fct (ws.length - pre.length - 2)
  | 0, pre, x, _, _, _ => by
    show 1 ≤ _
    exact Nat.le_trans (by decide : 1 ≤ fct 0) (fct_mono (Nat.zero_le _))
  | n + 1, pre, x, h1, h2, h3 => by
    have hk : ((nb x).filter fun p => !decide (p = g ∨ p ∈ pre ++ [x])).length + pre.length + 2 ≤ ws.length := by
      have nd : (((nb x).filter fun p => !decide (p = g ∨ p ∈ pre ++ [x])) ++ (g :: (pre ++ [x]))).Nodup := by
        refine List.nodup_append.mpr ⟨(hd x).sublist List.filter_sublist, List.nodup_cons.mpr ⟨h3, h1⟩, fun a ha c hc z => ?_⟩
        subst z
        have q := (List.mem_filter.mp ha).2
        have q : ¬ (a = g ∨ a ∈ pre ++ [x]) := by simpa using q
        exact q (List.mem_cons.mp hc)
      have := nd_len (ws := ws) nd fun y hy => by
        rcases List.mem_append.mp
                                                                                                              hy with hy | hy
        · exact hn x y (List.mem_filter.mp hy).1
        · rcases List.mem_cons.mp
                                                                                                              hy with rfl | hy
          · exact hg
          · exact h2 y hy
      simp only [List.length_append, List.length_cons, List.length_nil] at this
      omega
    unfold nds
    have s := sum_le (p := fun p => p = g ∨ p ∈ pre ++ [x]) (f := fun p => nds nb g n (pre ++ [x]) p) (B := fct (ws.length - (pre ++ [x]).length - 2)) (l := nb x) fun p hp hq => by
      have hq1 : p ∉ pre ++ [x] := fun z => hq (.inr z)
      refine nds_le hn hd hg (List.nodup_append.mpr ⟨h1, by simp, fun a ha c hc z => ?_⟩) (fun y hy => ?_) fun z => ?_
      · rw [List.mem_singleton.mp hc] at z
        exact hq1 (z ▸ ha)
      · rcases List.mem_append.mp hy with hy | hy
        · exact h2 y hy
        · rw [List.mem_singleton.mp hy]; exact hn x p hp
      · rcases List.mem_append.mp z with z | z
        · exact h3 z
        · exact hq (.inl (List.mem_singleton.mp z).symm)
    obtain ⟨m, hm⟩ : ∃ m, m = ws.length - pre.length - 2 := ⟨_, rfl⟩
    rw [← hm]
    rw [show ws.length - (pre ++ [x]).length - 2 = m - 1 by rw [List.length_append]; simp only [List.length_cons, List.length_nil]; omega] at s
    generalize ((nb x).filter fun p => !decide (p = g ∨ p ∈ pre ++ [x])).length = K at s hk
    cases m with
    | zero =>
      have : K = 0 := by omega
      subst this
      rw [Nat.zero_mul] at s
      exact Nat.add_le_add_left s 1
    | succ m =>
      have : K ≤ m + 1 := by omega
      exact Nat.add_le_add_left (Nat.le_trans s (Nat.mul_le_mul_right _ this)) 1
theorem ext_len (hd : ∀ x, (nb x).Nodup) : ∀ {n : Nat} {pre : List Str} {x : Str}, (ext nb g n pre x).length ≤ nds nb g n pre x
  | 0, _, _ => Nat.zero_le _
  | n + 1, pre, x => by
    unfold ext nds
    rw [List.length_flatMap]
    have key : ∀ {l : List Str}, l.Nodup → (l.map fun p => (kids g pre x p (ext nb g n (pre ++ [x]) p)).length).sum ≤ (if g ∈ l then 1 else 0) + (l.map fun p => if p = g ∨ p ∈ pre ++ [x] then 0 else nds nb g n (pre ++ [x]) p).sum := by
      intro l hl
      induction l with
      | nil => simp
      | cons p l ih =>
        obtain ⟨h1, h2⟩ := List.nodup_cons.mp hl
        have ih := ih h2
        rw [List.map_cons, List.map_cons, List.sum_cons, List.sum_cons]
        by_cases e : p = g
        · subst e
          have e1 : (kids p pre x p (ext nb p n (pre ++ [x]) p)).length = 1 := by unfold kids; rw [if_pos rfl]; rfl
          rw [e1, if_pos List.mem_cons_self, if_pos (.inl rfl)]
          rw [if_neg h1] at ih
          omega
        · have hm : (g ∈ p :: l) ↔ g ∈ l := by rw [List.mem_cons]; exact ⟨fun z => z.resolve_left fun y => e y.symm, .inr⟩
          have e2 : (if g ∈ p :: l then 1 else 0) = (if g ∈ l then 1 else 0) := by by_cases q : g ∈ l <;> simp [hm, q]
          rw [e2]
          by_cases e3 : p ∈ pre ++ [x]
          · have e1 : (kids g pre x p (ext nb g n (pre ++ [x]) p)).length = 0 := by unfold kids; rw [if_neg e, if_pos e3]; rfl
            have e4 : (if p = g ∨ p ∈ pre ++ [x] then 0 else nds nb g n (pre ++ [x]) p) = 0 := if_pos (.inr e3)
            rw [e1, e4]
            omega
          · have e1 : (kids g pre x p (ext nb g n (pre ++ [x]) p)).length ≤ nds nb g n (pre ++ [x]) p := by unfold kids; rw [if_neg e, if_neg e3]; exact ext_len hd
            have e4 : (if p = g ∨ p ∈ pre ++ [x] then 0 else nds nb g n (pre ++ [x]) p) = nds nb g n (pre ++ [x]) p := if_neg fun z => z.elim e e3
            rw [e4]
            omega
    have := key (hd x)
    refine Nat.le_trans this (Nat.add_le_add_right ?_ _)
    split <;> omega
end
end DL

namespace DL
open PySem L2 PySem.Spec PyProof.Rows

/-! ### more of what the mirrors do -/
section
variable {e : Env} {d : D} {cs : List Str}
@[simp] theorem v_isT {T : String} {f : M R} : cIsT cs T f e = (f e).bnd fun r e1 => opt (((e1.rd r).bind (isiTy cs T)).map D.bl) e1 := rfl
@[simp] theorem v_isC {T : Str} {f : M R} : cIsC cs T f e = (f e).bnd fun r e1 => opt (((e1.rd r).bind (isiC cs T)).map D.bl) e1 := rfl
@[simp] theorem v_tyT {l : List D} : isiTy cs "tuple" (.tup l) = some true := rfl
@[simp] theorem v_tyS {s : Str} : isiTy cs "str" (.str s) = some true := rfl
@[simp] theorem v_fld {n : Str} {f : M R} : cFld cs n f e = (f e).bnd fun r e1 => opt ((e1.rd r).bind (fldD cs n)) e1 := rfl
@[simp] theorem v_prop {c : Str} {Φ : Fn} {f : M R} : cProp c Φ f e = (f e).bnd fun r e1 => propO c Φ (e1.frz r) := rfl
@[simp] theorem v_propO {c : Str} {Φ : Fn} : propO c Φ (some (d, e)) = if isObjC c d then callO e (Φ [.dat d] []) else .bad := rfl
@[simp] theorem v_isObj {c : Str} {ns : List Str} {l : List D} : isObjC c (.obj c ns l) = true := by unfold isObjC; simp
def makF (c : Str) (Φ : Fn) : Option (List D × Env) → Out R
  | some (ds, e) => makeO c e (Φ (.jar 0 :: ds.map A.dat) [.obj c [] []])
  | none => .bad
@[simp] theorem v_make {c : Str} {Φ : Fn} {fs : M (List R)} : cMake c Φ fs e = (fs e).bnd fun rs e1 => makF c Φ (e1.frzs rs) := by first | rfl | (unfold cMake makF makeD; rfl)
@[simp] theorem v_makF {c : Str} {Φ : Fn} {ds : List D} : makF c Φ (some (ds, e)) = makeO c e (Φ (.jar 0 :: ds.map A.dat) [.obj c [] []]) := rfl
@[simp] theorem v_makeO {c : Str} {ns : List Str} {l : List D} : makeO c e (.ok .non [.obj c ns l]) = .ok (.val (.obj c ns l)) e := by unfold makeO; simp
@[simp] theorem v_sFld {i : Nat} {f : Str} {g : M R} : sFldSet cs i f g e = (g e).bnd fun r e1 => fldSetO cs i f (e1.frz r) := rfl
def fldS (cs : List Str) (i : Nat) (f : Str) (d : D) (e : Env) : Option D → Out Fl
  | some (.obj c ns l) => if c ∈ cs ∧ ns.length < 1000 then outE (e.put i (.obj c (putN f d ns l).1 (putN f d ns l).2)) fun e3 => .ok .nx e3 else .bad
  | _ => .bad
@[simp] theorem v_fldSetO {i : Nat} {f : Str} : fldSetO cs i f (some (d, e)) = fldS cs i f d e (e.rd (.whole i)) := rfl
@[simp] theorem v_fldS {i : Nat} {f c : Str} {ns : List Str} {l : List D} : fldS cs i f d e (some (.obj c ns l)) = if c ∈ cs ∧ ns.length < 1000 then outE (e.put i (.obj c (putN f d ns l).1 (putN f d ns l).2)) fun e3 => .ok .nx e3 else .bad := rfl
@[simp] theorem v_meth {c m : Str} {Φ : Fn} {g : M R} {fs : M (List R)} : cMeth c m Φ g fs e = (g e).bnd fun r e1 => methO c m Φ (e1.frz r) fs := rfl
def methF (Φ : Fn) (d : D) : Option (List D × Env) → Out R
  | some (ds, e) => callO e (Φ (.dat d :: ds.map A.dat) [])
  | none => .bad
@[simp] theorem v_methO {c m : Str} {Φ : Fn} {fs : M (List R)} : methO c m Φ (some (d, e)) fs = if isObjC c d && !hasN m d then (fs e).bnd fun rs e1 => methF Φ d (e1.frzs rs) else .bad := by first | rfl | (unfold methO methF; rfl)
@[simp] theorem v_methF {Φ : Fn} {ds : List D} : methF Φ d (some (ds, e)) = callO e (Φ (.dat d :: ds.map A.dat) []) := rfl
@[simp] theorem v_cbBl {b : Bool} : (some b).map D.bl = some (.bl b) := rfl
theorem bls_all {l : List D} (h : ∀ d ∈ l, d = .bl true) : allD [.lst l] = some (.bl true) := by
  have : blsOf l = some (l.map fun _ => true) := by
    induction l with
    | nil => rfl
    | cons x l ih =>
      have hx := h x List.mem_cons_self
      subst hx
      unfold blsOf
      rw [ih fun d hd => h d (List.mem_cons_of_mem _ hd)]
      rfl
  unfold allD
  simp only [this]
  simp
end
/-! ### sorted texts and rows -/
theorem alike_strs : ∀ l m : List Str, PySem.W.alikeAll (D.pyL (l.map D.str)) (D.pyL (m.map D.str)) = true
  | [], _ => by simp [D.pyL, PySem.W.alikeAll]
  | _ :: _, [] => by simp [D.pyL, PySem.W.alikeAll]
  | a :: l, b :: m => by
    rw [List.map_cons, List.map_cons, D.pyL, D.pyL, PySem.W.alikeAll, alike_strs l m]
    rfl
theorem sorted_strs (l : List Str) : sortedD [.lst (l.map D.str)] = some (.lst ((sortS l).map D.str)) := by
  have ok : srtOk (l.map D.str) = true := by
    unfold srtOk
    simp only [Bool.and_eq_true, Bool.or_eq_true, List.all_eq_true, decide_eq_true_eq]
    refine ⟨⟨⟨plL_of fun d hd => ?_, fun x hx y hy => ?_⟩, .inr fun d hd => ?_⟩, fun d hd => ?_⟩
    · obtain ⟨s, _, rfl⟩ := List.mem_map.mp hd; rfl
    · obtain ⟨s, _, rfl⟩ := List.mem_map.mp hx
      obtain ⟨t, _, rfl⟩ := List.mem_map.mp hy
      rfl
    · obtain ⟨s, _, rfl⟩ := List.mem_map.mp hd; rfl
    · obtain ⟨s, _, rfl⟩ := List.mem_map.mp hd; exact Nat.zero_le _
  unfold sortedD
  simp only [ok, if_true, sortD_str]
theorem sorted_rows {fd : List (List Str)} (hn : ∀ r ∈ fd, r ≠ []) : sortedD [.lst (fd.map rowD)] = some (.lst (sortD (fd.map rowD))) := by
  have ok : srtOk (fd.map rowD) = true := by
    unfold srtOk
    simp only [Bool.and_eq_true, Bool.or_eq_true, List.all_eq_true, decide_eq_true_eq]
    refine ⟨⟨⟨plL_of fun d hd => ?_, fun x hx y hy => ?_⟩, .inl fun d hd => ?_⟩, fun d hd => ?_⟩
    · obtain ⟨s, _, rfl⟩ := List.mem_map.mp hd
      exact plL_of fun d hd => by obtain ⟨s, _, rfl⟩ := List.mem_map.mp hd; rfl
    · obtain ⟨s, _, rfl⟩ := List.mem_map.mp hx
      obtain ⟨t, _, rfl⟩ := List.mem_map.mp hy
      rw [rowD, rowD, D.py, D.py, PySem.W.alike, alike_strs]
    · obtain ⟨s, hs, rfl⟩ := List.mem_map.mp hd
      match s, hn s hs with
      | _ :: _, _ => rfl
    · obtain ⟨s, _, rfl⟩ := List.mem_map.mp hd
      have : (rowD s).py.depth ≤ 1 := by
        rw [rowD, D.py, PyData.depth]
        exact Nat.succ_le_succ (depth_of fun d hd => by obtain ⟨s, _, rfl⟩ := List.mem_map.mp hd; exact Nat.le_refl _)
      omega
  unfold sortedD
  simp only [ok, if_true]
end DL

namespace DL
open PySem L2 PySem.Spec PyProof.Rows

theorem at_last {l : List D} {x : D} : atI (l ++ [x]) (-1) = some x := by
  unfold L2.atI L2.ixN
  rw [if_neg (by omega), if_pos (by rw [List.length_append]; simp only [List.length_cons, List.length_nil]; omega)]
  have e : ((-1 : Int) + ((l ++ [x]).length : Nat)).toNat = l.length := by rw [List.length_append]; simp only [List.length_cons, List.length_nil]; omega
  rw [e]
  simp
theorem dcL_pure {i : Nat} {fk fv : M R} {e0 : Env} (k : D → Key) (h : D → D) :
    ∀ {ds : List D} {ak : List Key} {al : List D} {e : Env}, e.setS i .un = e0 → ak.length + ds.length ≤ sizeLine → (ak ++ ds.map k).Nodup →
      (∀ d ∈ ds, fk (e0.setS i (.dat d)) = .ok (.val d) (e0.setS i (.dat d)) ∧ kD d = some (k d) ∧ fv (e0.setS i (.dat d)) = .ok (.val (h d)) (e0.setS i (.dat d))) →
      ∃ e', dcL [i] (gN i) tYs fk fv ds ak al e = .ok (ak ++ ds.map k, al ++ ds.map h) e' ∧ e'.setS i .un = e0
  | [], ak, al, e, hw, _, _, _ => ⟨e, by simp [dcL], hw⟩
  | d :: ds, ak, al, e, hw, hl, hn, H => by
    obtain ⟨h1, h2, h3⟩ := H d List.mem_cons_self
    have hl' : ak.length + (ds.length + 1) ≤ sizeLine := hl
    have hnew : ¬ (ak.any fun j => decide (j = k d)) = true := by
      intro z
      obtain ⟨j, hj, e⟩ := List.any_eq_true.mp z
      have e := of_decide_eq_true e
      obtain ⟨_, _, n3⟩ := List.nodup_append.mp hn
      exact n3 j hj (k d) (by simp) e
    have ep : putDv ak al (k d) (h d) = (ak ++ [k d], al ++ [h d]) := if_neg hnew
    rw [dcL, v_wipe1, hw]
    simp only [v_gN, v_yes, h1, v_rdV, Option.bind_some, h2, h3, v_frzV, ep]
    rw [if_pos (by omega)]
    obtain ⟨e', q1, q2⟩ := dcL_pure (fk := fk) (fv := fv) (ak := ak ++ [k d]) (al := al ++ [h d]) (e := e0.setS i (.dat d)) k h (by subst hw; cases e; simp [Env.setS]) (by rw [List.length_append]; simp only [List.length_cons, List.length_nil]; omega) (by rw [List.append_assoc]; exact hn) fun x hx => H x (List.mem_cons_of_mem _ hx)
    refine ⟨e', ?_, q2⟩
    rw [q1]
    simp
theorem v_dc1 {i : Nat} {fi : M (List D)} {fk fv : M R} {e e1 : Env} {ds : List D} (k : D → Key) (h : D → D) (hi : fi e = .ok ds e1) (pl : plainAt e1 [i] = true) (hl : ds.length ≤ sizeLine) (hn : (ds.map k).Nodup)
    (H : ∀ d ∈ ds, fk ((e1.setS i .un).setS i (.dat d)) = .ok (.val d) ((e1.setS i .un).setS i (.dat d)) ∧ kD d = some (k d) ∧ fv ((e1.setS i .un).setS i (.dat d)) = .ok (.val (h d)) ((e1.setS i .un).setS i (.dat d))) :
    cDc [i] fi (gN i) tYs fk fv e = .ok (.val (.dct (ds.map k) (ds.map h))) e1 := by
  obtain ⟨e', q1, q2⟩ := dcL_pure (fk := fk) (fv := fv) (ak := []) (al := []) (e := e1) k h rfl (by simpa using hl) (by simpa using hn) H
  unfold cDc
  rw [hi, v_bnd, if_pos pl, q1]
  simp only [List.nil_append]
  rw [back_wipe (by rw [v_wipe1, v_wipe1]; exact q2)]
theorem ix_dct {ws : List Str} {f : Str → D} {x : Str} (hx : x ∈ ws) : ixD (.dct (ws.map fun w => .inr w) (ws.map f)) (.str x) = some (f x) := by
  show ((keyOf (.str x)).bind fun k => (((ws.map fun w => (.inr w : Key)).zip (ws.map f)).find? fun kv => decide (kv.1 = k)).map (·.2)) = _
  have e : keyOf (.str x) = some (.inr x) := rfl
  rw [e, Option.bind_some]
  induction ws with
  | nil => cases hx
  | cons w ws ih =>
    rw [List.map_cons, List.map_cons, List.zip_cons_cons, List.find?_cons]
    by_cases h : w = x
    · subst h; simp
    · have : (decide ((.inr w : Key) = .inr x)) = false := decide_eq_false fun z => h (Sum.inr.inj z)
      rw [this]
      exact ih ((List.mem_cons.mp hx).resolve_left fun z => h z.symm)
/-- the part of the ties at x, on data -/
def isAt1 (x : Str) : D → Bool
  | .tup [.str a, .str _] => decide (a = x)
  | _ => false
def isAt2 (x : Str) : D → Bool
  | .tup [.str _, .str b] => decide (b = x)
  | _ => false
def end1 : D → D
  | .tup [a, _] => a
  | d => d
def end2 : D → D
  | .tup [_, b] => b
  | d => d
theorem at1_map {ls : List (Str × Str)} {x : Str} : (((ls.map tieD).filter (isAt1 x)).map end2) = ((ls.filter fun p => decide (p.1 = x)).map (·.2)).map D.str := by
  rw [List.filter_map, List.map_map, List.map_map]
  rfl
theorem at2_map {ls : List (Str × Str)} {x : Str} : (((ls.map tieD).filter (isAt2 x)).map end1) = ((ls.filter fun p => decide (p.2 = x)).map (·.1)).map D.str := by
  rw [List.filter_map, List.map_map, List.map_map]
  rfl
@[simp] theorem v_fAdd {fa fb : M R} {e : Env} : fAdd fa fb e = (fa e).bnd fun x e1 => (fb e1).bnd fun y e2 => fAddO (e2.rd x) (e2.rd y) e2 := rfl
theorem v_fAddO {a b : List D} {e : Env} (h : a.length + b.length ≤ 16777216) : fAddO (some (.lst a)) (some (.lst b)) e = .ok (.lst (a ++ b)) e := if_pos (by rw [sizeLine_eq]; exact h)
theorem row_app {l : List Str} {s : Str} (h : l.length ≤ 100) : addD (rowD l) (.tup [.str s]) = some (rowD (l ++ [s])) := by
  unfold rowD
  rw [v_addT (by simp only [List.length_map, List.length_cons, List.length_nil]; omega)]
  simp
theorem notIn_row {l : List Str} {s : Str} (hs : PyData.strOk s = true) (hl : ∀ x ∈ l, PyData.strOk x = true) : notInD (.str s) (rowD l) = some (.bl (!decide (s ∈ l))) := by
  unfold rowD
  rw [notInD_tup (k := 1) (.str hs) (sh_row hl) (by omega), memB_str]
theorem row_last {l : List Str} {s : Str} : ixD (rowD (l ++ [s])) (.int (-1)) = some (.str s) := by
  unfold rowD
  rw [v_ixT, List.map_append]
  exact at_last
end DL

namespace DL
open PySem L2 PySem.Spec PyProof.Rows

/-! ### how long a repr is -/
theorem ok_app {a b : Str} (ha : PyData.strOk a = true) (hb : PyData.strOk b = true) : PyData.strOk (a ++ b) = true := by
  unfold PyData.strOk at ha hb ⊢
  show (a.cps ++ b.cps).all _ = true
  rw [Array.all_append, ha, hb]
  rfl
theorem ok_join : ∀ {ts : List Str}, (∀ t ∈ ts, PyData.strOk t = true) → PyData.strOk (Str.join ", " ts) = true
  | [], _ => by decide +kernel
  | [x], h => h x List.mem_cons_self
  | x :: y :: r, h => ok_app (ok_app (h x List.mem_cons_self) (by decide +kernel)) (ok_join fun t ht => h t (List.mem_cons_of_mem _ ht))
theorem ok_listText {ts : List Str} (h : ∀ t ∈ ts, PyData.strOk t = true) : PyData.strOk (listText ts) = true := by
  rw [listText_eq_join]
  exact ok_app (ok_app (by decide +kernel) (ok_join h)) (by decide +kernel)
theorem ok_tupleText {ts : List Str} (h : ∀ t ∈ ts, PyData.strOk t = true) : PyData.strOk (tupleText ts) = true := by
  unfold tupleText
  refine ok_app (ok_app (by decide +kernel) (ok_join h)) ?_
  split <;> decide +kernel
structure Txt (n : Nat) (d : D) : Prop where
  sh : d.py.showable = true
  len : d.py.shown.length ≤ n
  ok : PyData.strOk d.py.shown = true
theorem shown_all : ∀ l : List D, PyData.shownAll (D.pyL l) = l.map fun d => d.py.shown
  | [] => by rw [D.pyL, PyData.shownAll]; rfl
  | d :: l => by rw [D.pyL, PyData.shownAll, shown_all l]; rfl
theorem sum_len {n : Nat} : ∀ {l : List D}, (∀ d ∈ l, Txt n d) → (((l.map fun d => d.py.shown).map fun t => t.length).sum) ≤ l.length * n
  | [], _ => Nat.zero_le _
  | d :: l, h => by
    have ih := sum_len fun x hx => h x (List.mem_cons_of_mem _ hx)
    have := (h d List.mem_cons_self).len
    rw [List.map_cons, List.map_cons, List.sum_cons, List.length_cons, Nat.add_mul]
    omega
theorem Txt.tup {n : Nat} {l : List D} (h : ∀ d ∈ l, Txt n d) : Txt (l.length * n + 2 * l.length + 3) (.tup l) := by
  have e : (D.tup l).py.shown = tupleText (l.map fun d => d.py.shown) := by rw [D.py, PyData.shown, shown_all]
  refine ⟨?_, ?_, ?_⟩
  · rw [D.py, PyData.showable]
    exact pyL_all (q := PyData.showable) (qa := PyData.showableAll) (by simp [PyData.showableAll]) (fun x l => by simp [PyData.showableAll]) fun d hd => (h d hd).sh
  · rw [e]
    refine Nat.le_trans (tupleText_len_le _) ?_
    have := sum_len h
    rw [List.length_map]
    omega
  · rw [e]
    exact ok_tupleText fun t ht => by obtain ⟨d, hd, rfl⟩ := List.mem_map.mp ht; exact (h d hd).ok
theorem Txt.lst {n : Nat} {l : List D} (h : ∀ d ∈ l, Txt n d) : Txt (l.length * n + 2 * l.length + 3) (.lst l) := by
  have e : (D.lst l).py.shown = listText (l.map fun d => d.py.shown) := by rw [D.py, PyData.shown, shown_all]
  refine ⟨?_, ?_, ?_⟩
  · rw [D.py, PyData.showable]
    exact pyL_all (q := PyData.showable) (qa := PyData.showableAll) (by simp [PyData.showableAll]) (fun x l => by simp [PyData.showableAll]) fun d hd => (h d hd).sh
  · rw [e]
    refine Nat.le_trans (listText_len_le _) ?_
    have := sum_len h
    rw [List.length_map]
    omega
  · rw [e]
    exact ok_listText fun t ht => by obtain ⟨d, hd, rfl⟩ := List.mem_map.mp ht; exact (h d hd).ok
theorem Txt.mono {n m : Nat} {d : D} (h : Txt n d) (hm : n ≤ m) : Txt m d := ⟨h.sh, Nat.le_trans h.len hm, h.ok⟩
theorem repr_of {k n : Nat} {d : D} (hs : isSeqD d = true) (h : Sh k d) (hk : k ≤ 60) (t : Txt n d) (hn : n ≤ 16777216) : reprD [d] = some (.str d.py.shown) := by
  obtain ⟨h1, h2, h3, h4⟩ := h.facts
  have c : (isSeqD d && d.pl && d.py.showable && decide (d.py.depth ≤ 60) && decide (d.py.shown.length ≤ sizeLine) && !d.py.hasDict) = true := by
    rw [hs, h1, t.sh, h4, decide_eq_true (by omega : d.py.depth ≤ 60), decide_eq_true (by rw [sizeLine_eq]; have := t.len; omega : d.py.shown.length ≤ sizeLine)]
    rfl
  unfold reprD
  simp only [c, if_true]
/-- rows of short words -/
theorem txt_row {l : List Str} (h : ∀ s ∈ l, Txt 10 (.str s)) (hl : l.length ≤ 9) : Txt 111 (rowD l) := by
  refine (Txt.tup (n := 10) fun d hd => ?_).mono (by rw [List.length_map]; omega)
  obtain ⟨s, hs, rfl⟩ := List.mem_map.mp hd
  exact h s hs
theorem txt_rows {E : List (List Str)} (h : ∀ r ∈ E, r.length ≤ 9 ∧ ∀ s ∈ r, Txt 10 (.str s)) (hE : E.length ≤ 13700) : Txt 1548103 (.tup (E.map rowD)) := by
  refine (Txt.tup (n := 111) fun d hd => ?_).mono (by rw [List.length_map]; omega)
  obtain ⟨r, hr, rfl⟩ := List.mem_map.mp hd
  exact txt_row (h r hr).2 (h r hr).1
end DL

namespace DL
open PySem L2 PySem.Spec PyProof.Rows

section
variable {e : Env} {d : D}
@[simp] theorem v_nCall {Φ : Fn} {fs : M (List R)} : nCall Φ fs e = (fs e).bnd fun rs e1 => nCallO Φ (e1.frzs rs) := rfl
@[simp] theorem v_nCallO {Φ : Fn} {ds : List D} : nCallO Φ (some (ds, e)) = callN e (Φ (ds.map A.dat) []) := rfl
@[simp] theorem v_callN : callN e (.ok d []) = .ok d e := rfl
@[simp] theorem v_callT {Φ : Fn} {f : M D} : cCallT Φ f e = (f e).bnd fun d e1 => DL.callT e1 (Φ [.jar 0] [d]) := rfl
@[simp] theorem v_callTo {x : D} : DL.callT e (.ok d [x]) = .ok (.val d) e := rfl
@[simp] theorem v_nSeq {f : M Fl} {g : M D} : nSeq f g e = (f e).bnd fun fl e1 => (match fl with
  | .nx => g e1
  | _ => .bad) := rfl
def methK2 (Φ : Fn) (n nk : Nat) (p : List Nat) (d : D) (ds : List D) : Option (List D × Env) → Out R
  | some (zs, e) => if ds.length = n ∧ zs.length = nk then callO e (Φ ((prm p (d :: ds ++ zs)).map A.dat) []) else .bad
  | none => .bad
def methK1 (Φ : Fn) (n nk : Nat) (p : List Nat) (d : D) (gs : M (List R)) : Option (List D × Env) → Out R
  | some (ds, e) => (gs e).bnd fun qs e3 => methK2 Φ n nk p d ds (e3.frzs qs)
  | none => .bad
@[simp] theorem v_methK {c m : Str} {Φ : Fn} {n nk : Nat} {p : List Nat} {g : M R} {fs gs : M (List R)} : cMethK c m Φ n nk p g fs gs e = (g e).bnd fun r e1 => methKO c m Φ n nk p (e1.frz r) fs gs := rfl
@[simp] theorem v_methKO {c m : Str} {Φ : Fn} {n nk : Nat} {p : List Nat} {fs gs : M (List R)} : methKO c m Φ n nk p (some (d, e)) fs gs = if isObjC c d && !hasN m d then (fs e).bnd fun rs e1 => methK1 Φ n nk p d gs (e1.frzs rs) else .bad := by first | rfl | (unfold methKO methK1 methK2; rfl)
@[simp] theorem v_methK1 {Φ : Fn} {n nk : Nat} {p : List Nat} {gs : M (List R)} {ds : List D} : methK1 Φ n nk p d gs (some (ds, e)) = (gs e).bnd fun qs e3 => methK2 Φ n nk p d ds (e3.frzs qs) := rfl
@[simp] theorem v_methK2 {Φ : Fn} {n nk : Nat} {p : List Nat} {ds zs : List D} : methK2 Φ n nk p d ds (some (zs, e)) = if ds.length = n ∧ zs.length = nk then callO e (Φ ((prm p (d :: ds ++ zs)).map A.dat) []) else .bad := rfl
end
theorem neD_self {k : Nat} {a : D} (ha : Sh k a) (hk : k ≤ 64) : neD a a = some (.bl false) := by
  rw [neD_of ha ha hk, ha.refl]
  rfl
/-- the spot is another one -/
def isNot (x : Str) : D → Bool
  | .str a => !decide (a = x)
  | _ => false
theorem not_map {ws : List Str} {x : Str} : ((ws.map D.str).filter (isNot x)) = (ws.filter fun s => !decide (s = x)).map D.str := by
  rw [List.filter_map]
  rfl
end DL

namespace K04
open PySem L2 DL PySem.Spec PyProof.Rows

abbrev pw : Program := PySem.Challenge.pw_hurryways_k04_whole_rows_of_a_web
def top (i : Nat) : Stmt := pw.main.body.getD i (.Pass ⟨0, 0, 0, 0⟩)
theorem bt_abs : bootBuiltins ("abs" : Str) = some (.builtin "abs") := by kernel_rfl
theorem bt_all : bootBuiltins ("all" : Str) = some (.builtin "all") := by kernel_rfl
theorem bt_int : bootBuiltins ("int" : Str) = some (.type "int") := by kernel_rfl
theorem bt_len : bootBuiltins ("len" : Str) = some (.builtin "len") := by kernel_rfl
theorem bt_max : bootBuiltins ("max" : Str) = some (.builtin "max") := by kernel_rfl
theorem bt_min : bootBuiltins ("min" : Str) = some (.builtin "min") := by kernel_rfl
theorem bt_repr : bootBuiltins ("repr" : Str) = some (.builtin "repr") := by kernel_rfl
theorem bt_sorted : bootBuiltins ("sorted" : Str) = some (.builtin "sorted") := by kernel_rfl
theorem bt_str : bootBuiltins ("str" : Str) = some (.type "str") := by kernel_rfl
theorem bt_tuple : bootBuiltins ("tuple" : Str) = some (.type "tuple") := by kernel_rfl
abbrev CS : List Str := ["Web"]
abbrev S__law_dip : Stmt := top 33
theorem sc__law_dip : FnScope ["_law_jar_here", "_law_most", "_law_digit", "_law_seed"] ["_law_jar_here", "_law_most"] (defScope S__law_dip) := ⟨rfl, rfl, rfl, by decide +kernel, rfl, by decide +kernel, by decide +kernel⟩
def g__law_dip : M Fl := (sSeq (sSetIx 0 (cC (.int 2)) (cOp addD (cOp ixD (cVar 0) (cC (.int 2))) (cC (.int 1))))
  (sSeq (sIf (cTest (cOp gtD (cOp ixD (cVar 0) (cC (.int 0))) (cC (.int 0)))) (sSeq (sAsg 2 (cOp modD (cCB intFnD (cCons (cOp ixD (cVar 0) (cC (.int 0))) cNil)) (cVar 1)))
  (sSeq (sSetIx 0 (cC (.int 0)) (cOp fdivD (cCB intFnD (cCons (cOp ixD (cVar 0) (cC (.int 0))) cNil)) (cVar 1)))
  (sRet (cVar 2)))) sNx)
  (sSeq (sAsg 3 (cCB intFnD (cCons (cOp ixD (cVar 0) (cC (.int 1))) cNil)))
  (sSeq (sSetIx 0 (cC (.int 1)) (cOp modD (cCB intFnD (cCons (cOp addD (cOp addD (cOp mulD (cVar 3) (cC (.int 40692))) (cOp mulD (cOp ixD (cVar 0) (cC (.int 2))) (cC (.int 52021)))) (cC (.int 31))) cNil)) (cC (.int 2147483399))))
  (sRet (cOp modD (cCB intFnD (cCons (cOp fdivD (cOp ixD (cVar 0) (cC (.int 1))) (cC (.int 2048))) cNil)) (cVar 1)))))))
def F__law_dip : Fn := fnOf 4 2 g__law_dip
abbrev S__law_names : Stmt := top 35
theorem sc__law_names : FnScope ["_law_jar_here", "_law_most", "_law_pool", "_law_at"] ["_law_jar_here", "_law_most"] (defScope S__law_names) := ⟨rfl, rfl, rfl, by decide +kernel, rfl, by decide +kernel, by decide +kernel⟩
def g__law_names : M Fl := (sSeq (sAsg 2 (cLst (cCons (cC (.str "a")) (cCons (cC (.str "b")) (cCons (cC (.str "ab")) (cCons (cC (.str "hub")) (cCons (cC (.str "tie")) (cCons (cC (.str "places")) (cCons (cC (.str "zz")) (cCons (cC (.str "q")) (cCons (cC (.str "m")) (cCons (cC (.str "longname")) (cCons (cC (.str "x")) (cCons (cC (.str "y")) cNil))))))))))))))
  (sSeq (sAsg 3 (cCallJ F__law_dip (cCons (cVar 0) (cCons (cC (.int 12)) cNil))))
  (sRet (cSl (cOp addD (cSl (cVar 2) (cPart (cVar 3)) cNoPart) (cSl (cVar 2) cNoPart (cPart (cVar 3)))) cNoPart (cPart (cVar 1))))))
def F__law_names : Fn := fnOf 4 2 g__law_names
abbrev S__law_pick : Stmt := top 34
theorem sc__law_pick : FnScope ["_law_jar_here", "_law_menu", "_law_at"] ["_law_jar_here", "_law_menu"] (defScope S__law_pick) := ⟨rfl, rfl, rfl, by decide +kernel, rfl, by decide +kernel, by decide +kernel⟩
def g__law_pick : M Fl := (sSeq (sAsg 2 (cCallJ F__law_dip (cCons (cVar 0) (cCons (cCB lenD (cCons (cVar 1) cNil)) cNil))))
  (sRet (cOp ixD (cVar 1) (cVar 2))))
def F__law_pick : Fn := fnOf 3 2 g__law_pick
abbrev S__law_net : Stmt := top 36
theorem sc__law_net : FnScope ["_law_jar_here", "_law_least", "_law_most", "_law_links_most", "_law_spots", "_law_pairs", "_law_found", "_law_k", "_law_other_spot", "_law_many_links", "_law_turn", "_law_at"] ["_law_jar_here", "_law_least", "_law_most", "_law_links_most"] (defScope S__law_net) := ⟨rfl, rfl, rfl, by decide +kernel, rfl, by decide +kernel, by decide +kernel⟩
def b1__law_net : M Fl := (sAsg 5 (cOp addD (cVar 5) (cLc [8] (cIter (cSl (cVar 4) (cPart (cOp addD (cVar 7) (cC (.int 1)))) cNoPart)) (gN 8) tYs (cTup (cCons (cOp ixD (cVar 4) (cVar 7)) (cCons (cVar 8) cNil))))))
def b2__law_net : M Fl := (sSeq (sAsg 11 (cCallJ F__law_dip (cCons (cVar 0) (cCons (cCB lenD (cCons (cVar 5) cNil)) cNil))))
  (sSeq (sExpr (cApp 6 (cIf (cTest (cOp eqD (cCallJ F__law_dip (cCons (cVar 0) (cCons (cC (.int 2)) cNil))) (cC (.int 0)))) (cOp ixD (cVar 5) (cVar 11)) (cRevT (cOp ixD (cVar 5) (cVar 11))))))
  (sAsg 5 (cOp addD (cSl (cVar 5) cNoPart (cPart (cVar 11))) (cSl (cVar 5) (cPart (cOp addD (cVar 11) (cC (.int 1)))) cNoPart)))))
def g__law_net : M Fl := (sSeq (sAsg 4 (cCallJ F__law_names (cCons (cVar 0) (cCons (cOp addD (cVar 1) (cCallJ F__law_dip (cCons (cVar 0) (cCons (cOp addD (cOp subD (cVar 2) (cVar 1)) (cC (.int 1))) cNil)))) cNil))))
  (sSeq (sPar 5 6 (pV (cLst cNil)) (pN (fLst cNil)))
  (sSeq (sFor (cRange1 (cCons (cCB lenD (cCons (cVar 4) cNil)) cNil)) (gN 7) b1__law_net)
  (sSeq (sAsg 9 (cCB min2D (cCons (cVar 3) (cCons (cOp subD (cOp addD (cCB lenD (cCons (cVar 5) cNil)) (cC (.int 1))) (cCallJ F__law_dip (cCons (cVar 0) (cCons (cCallJ F__law_pick (cCons (cVar 0) (cCons (cLst (cCons (cC (.int 2)) (cCons (cC (.int 3)) (cCons (cCB lenD (cCons (cVar 5) cNil)) cNil)))) cNil))) cNil)))) cNil))))
  (sSeq (sFor (cRange1 (cCons (cCB min2D (cCons (cVar 9) (cCons (cCB lenD (cCons (cVar 5) cNil)) cNil))) cNil)) (gN 10) b2__law_net)
  (sRet (cTup (cCons (cCB tupleD (cCons (cVar 4) cNil)) (cCons (cCB tupleD (cCons (cVar 6) cNil)) cNil)))))))))
def F__law_net : Fn := fnOf 12 4 g__law_net
abbrev S_is_name : Stmt := top 17
theorem sc_is_name : FnScope ["value", "sign"] ["value"] (defScope S_is_name) := ⟨rfl, rfl, rfl, by decide +kernel, rfl, by decide +kernel, by decide +kernel⟩
def g_is_name : M Fl := (sRet (cAndV (cIsT CS "str" (cVar 0)) (cAndV (cChain ltD leD (cC (.int 0)) (cCB lenD (cCons (cVar 0) cNil)) (cC (.int 8))) (cCB allD (cCons (cLc [1] (cIter (cVar 0)) (gN 1) tYs (cOp inD (cVar 1) (cC (.str "abcdefghijklmnopqrstuvwxyz")))) cNil)))))
def F_is_name : Fn := fnOf 2 1 g_is_name
abbrev S_check_places : Stmt := top 19
theorem sc_check_places : FnScope ["places", "index"] ["places"] (defScope S_check_places) := ⟨rfl, rfl, rfl, by decide +kernel, rfl, by decide +kernel, by decide +kernel⟩
def b1_check_places : M Fl := (sIf (cOr (cTest (cOp eqD (cVar 1) (cC (.int 9)))) (cOr (cNot (cTru (cCall F_is_name (cCons (cOp ixD (cVar 0) (cVar 1)) cNil)))) (cTest (cOp inD (cOp ixD (cVar 0) (cVar 1)) (cSl (cVar 0) cNoPart (cPart (cVar 1))))))) sBad sNx)
def g_check_places : M Fl := (sSeq (sIf (cOr (cNot (cTru (cIsT CS "tuple" (cVar 0)))) (cTest (cOp ltD (cCB lenD (cCons (cVar 0) cNil)) (cC (.int 2))))) sBad sNx)
  (sFor (cRange1 (cCons (cCB lenD (cCons (cVar 0) cNil)) cNil)) (gN 1) b1_check_places))
def F_check_places : Fn := fnOf 2 1 g_check_places
abbrev S_is_pair : Stmt := top 18
theorem sc_is_pair : FnScope ["value"] ["value"] (defScope S_is_pair) := ⟨rfl, rfl, rfl, by decide +kernel, rfl, by decide +kernel, by decide +kernel⟩
def g_is_pair : M Fl := (sRet (cAndV (cIsT CS "tuple" (cVar 0)) (cOp eqD (cCB lenD (cCons (cVar 0) cNil)) (cC (.int 2)))))
def F_is_pair : Fn := fnOf 1 1 g_is_pair
abbrev S_is_tie : Stmt := top 20
theorem sc_is_tie : FnScope ["value", "places"] ["value", "places"] (defScope S_is_tie) := ⟨rfl, rfl, rfl, by decide +kernel, rfl, by decide +kernel, by decide +kernel⟩
def g_is_tie : M Fl := (sSeq (sIf (cOr (cNot (cTru (cCall F_is_pair (cCons (cVar 0) cNil)))) (cOr (cNot (cTru (cCall F_is_name (cCons (cOp ixD (cVar 0) (cC (.int 0))) cNil)))) (cNot (cTru (cCall F_is_name (cCons (cOp ixD (cVar 0) (cC (.int 1))) cNil)))))) (sRet (cC (.bl false))) sNx)
  (sRet (cAndV (cOp neD (cOp ixD (cVar 0) (cC (.int 0))) (cOp ixD (cVar 0) (cC (.int 1)))) (cAndV (cOp inD (cOp ixD (cVar 0) (cC (.int 0))) (cVar 1)) (cOp inD (cOp ixD (cVar 0) (cC (.int 1))) (cVar 1))))))
def F_is_tie : Fn := fnOf 2 2 g_is_tie
abbrev S_index_in : Stmt := top 22
theorem sc_index_in : FnScope ["ties", "one", "other", "index"] ["ties", "one", "other"] (defScope S_index_in) := ⟨rfl, rfl, rfl, by decide +kernel, rfl, by decide +kernel, by decide +kernel⟩
def b1_index_in : M Fl := (sIf (cTest (cOp inD (cOp ixD (cVar 0) (cVar 3)) (cTup (cCons (cTup (cCons (cVar 1) (cCons (cVar 2) cNil))) (cCons (cTup (cCons (cVar 2) (cCons (cVar 1) cNil))) cNil))))) (sRet (cVar 3)) sNx)
def g_index_in : M Fl := (sSeq (sFor (cRange1 (cCons (cCB lenD (cCons (cVar 0) cNil)) cNil)) (gN 3) b1_index_in)
  (sRet (cC .non)))
def F_index_in : Fn := fnOf 4 3 g_index_in
abbrev S_check_ties : Stmt := top 21
theorem sc_check_ties : FnScope ["ties", "places", "index"] ["ties", "places"] (defScope S_check_ties) := ⟨rfl, rfl, rfl, by decide +kernel, rfl, by decide +kernel, by decide +kernel⟩
def b1_check_ties : M Fl := (sSeq (sIf (cOr (cTest (cOp eqD (cVar 2) (cC (.int 16)))) (cNot (cTru (cCall F_is_tie (cCons (cOp ixD (cVar 0) (cVar 2)) (cCons (cVar 1) cNil)))))) sBad sNx)
  (sIf (cTest (cOp isNotD (cCall F_index_in (cCons (cSl (cVar 0) cNoPart (cPart (cVar 2))) (cCons (cOp ixD (cOp ixD (cVar 0) (cVar 2)) (cC (.int 0))) (cCons (cOp ixD (cOp ixD (cVar 0) (cVar 2)) (cC (.int 1))) cNil)))) (cC .non))) sBad sNx))
def g_check_ties : M Fl := (sSeq (sIf (cNot (cTru (cIsT CS "tuple" (cVar 0)))) sBad sNx)
  (sFor (cRange1 (cCons (cCB lenD (cCons (cVar 0) cNil)) cNil)) (gN 2) b1_check_ties))
def F_check_ties : Fn := fnOf 3 2 g_check_ties
abbrev S_Web___init__ : Stmt := (bodyOf (top 23)).getD 0 (.Pass ⟨0, 0, 0, 0⟩)
theorem sc_Web___init__ : FnScope ["self", "places", "ties"] ["self", "places", "ties"] (defScope S_Web___init__) := ⟨rfl, rfl, rfl, by decide +kernel, rfl, by decide +kernel, by decide +kernel⟩
def g_Web___init__ : M Fl := (sSeq (sExpr (cCall F_check_places (cCons (cVar 1) cNil)))
  (sSeq (sExpr (cCall F_check_ties (cCons (cVar 2) (cCons (cVar 1) cNil))))
  (sFldSet ["Web"] 0 "both" (cTup (cCons (cVar 1) (cCons (cVar 2) cNil))))))
def F_Web___init__ : Fn := fnOf 3 3 g_Web___init__
abbrev S__law_made : Stmt := top 40
theorem sc__law_made : FnScope ["_law_net_here"] ["_law_net_here"] (defScope S__law_made) := ⟨rfl, rfl, rfl, by decide +kernel, rfl, by decide +kernel, by decide +kernel⟩
def g__law_made : M Fl := (sRet (cMake "Web" F_Web___init__ (cCons (cOp ixD (cVar 0) (cC (.int 0))) (cCons (cOp ixD (cVar 0) (cC (.int 1))) cNil))))
def F__law_made : Fn := fnOf 1 1 g__law_made
abbrev S__law_near : Stmt := top 37
theorem sc__law_near : FnScope ["_law_net_here", "_law_spot", "_law_link"] ["_law_net_here", "_law_spot"] (defScope S__law_near) := ⟨rfl, rfl, rfl, by decide +kernel, rfl, by decide +kernel, by decide +kernel⟩
def g__law_near : M Fl := (sRet (cCB sortedD (cCons (cOp addD (cLc [2] (cIter (cOp ixD (cVar 0) (cC (.int 1)))) (gN 2) (cTest (cOp eqD (cOp ixD (cVar 2) (cC (.int 0))) (cVar 1))) (cOp ixD (cVar 2) (cC (.int 1)))) (cLc [2] (cIter (cOp ixD (cVar 0) (cC (.int 1)))) (gN 2) (cTest (cOp eqD (cOp ixD (cVar 2) (cC (.int 1))) (cVar 1))) (cOp ixD (cVar 2) (cC (.int 0))))) cNil)))
def F__law_near : Fn := fnOf 3 2 g__law_near
abbrev S__law_lines : Stmt := top 38
theorem sc__law_lines : FnScope ["_law_net_here", "_law_begin", "_law_last", "_law_found", "_law_growing", "_law_line", "_law_spot"] ["_law_net_here", "_law_begin", "_law_last"] (defScope S__law_lines) := ⟨rfl, rfl, rfl, by decide +kernel, rfl, by decide +kernel, by decide +kernel⟩
def b1__law_lines : M Fl := (sIf (cTest (cOp eqD (cVar 6) (cVar 2))) (sExpr (cApp 3 (cOp addD (cVar 5) (cTup (cCons (cVar 2) cNil))))) (sIf (cTest (cOp notInD (cVar 6) (cVar 5))) (sExpr (cApp 4 (cOp addD (cVar 5) (cTup (cCons (cVar 6) cNil))))) sNx))
def c2__law_lines : M Bool := (cTest (cOp neD (cVar 4) (cLst cNil)))
def b3__law_lines : M Fl := (sSeq (sAsg 5 (cPop 4))
  (sFor (cIter (cCall F__law_near (cCons (cVar 0) (cCons (cOp ixD (cVar 5) (cNeg (cC (.int 1)))) cNil)))) (gN 6) b1__law_lines))
def g__law_lines : M Fl := (sSeq (sPar 3 4 (pN (fLst cNil)) (pN (fLst (cCons (cTup (cCons (cVar 1) cNil)) cNil))))
  (sSeq (whL c2__law_lines b3__law_lines 20000)
  (sRet (cCB sortedD (cCons (cVar 3) cNil)))))
def F__law_lines : Fn := fnOf 7 3 g__law_lines
abbrev S_Web___contains__ : Stmt := (bodyOf (top 23)).getD 6 (.Pass ⟨0, 0, 0, 0⟩)
theorem sc_Web___contains__ : FnScope ["self", "value"] ["self", "value"] (defScope S_Web___contains__) := ⟨rfl, rfl, rfl, by decide +kernel, rfl, by decide +kernel, by decide +kernel⟩
def g_Web___contains__ : M Fl := (sRet (cAndV (cCall F_is_name (cCons (cVar 1) cNil)) (cOp inD (cVar 1) (cOp ixD (cFld ["Web"] "both" (cVar 0)) (cC (.int 0))))))
def F_Web___contains__ : Fn := fnOf 2 2 g_Web___contains__
abbrev S_check_place : Stmt := top 26
theorem sc_check_place : FnScope ["web", "place"] ["web", "place"] (defScope S_check_place) := ⟨rfl, rfl, rfl, by decide +kernel, rfl, by decide +kernel, by decide +kernel⟩
def g_check_place : M Fl := (sIf (cTest (cOp (notInOwn "Web" F_Web___contains__) (cVar 1) (cVar 0))) sBad sNx)
def F_check_place : Fn := fnOf 2 2 g_check_place
abbrev S_check_goal : Stmt := top 27
theorem sc_check_goal : FnScope ["web", "start", "goal"] ["web", "start", "goal"] (defScope S_check_goal) := ⟨rfl, rfl, rfl, by decide +kernel, rfl, by decide +kernel, by decide +kernel⟩
def g_check_goal : M Fl := (sSeq (sExpr (cCall F_check_place (cCons (cVar 0) (cCons (cVar 1) cNil))))
  (sSeq (sExpr (cCall F_check_place (cCons (cVar 0) (cCons (cVar 2) cNil))))
  (sIf (cTest (cOp eqD (cVar 1) (cVar 2))) sBad sNx)))
def F_check_goal : Fn := fnOf 3 3 g_check_goal
abbrev S_longer_paths : Stmt := top 30
theorem sc_longer_paths : FnScope ["beside", "row", "goal", "found", "place"] ["beside", "row", "goal"] (defScope S_longer_paths) := ⟨rfl, rfl, rfl, by decide +kernel, rfl, by decide +kernel, by decide +kernel⟩
def b1_longer_paths (Φ : Fn) : M Fl := (sIf (cTest (cOp eqD (cVar 4) (cVar 2))) (sExpr (cApp 3 (cOp addD (cVar 1) (cTup (cCons (cVar 2) cNil))))) (sIf (cTest (cOp notInD (cVar 4) (cVar 1))) (sOwn 3 (fAdd (cVar 3) (cCall Φ (cCons (cVar 0) (cCons (cOp addD (cVar 1) (cTup (cCons (cVar 4) cNil))) (cCons (cVar 2) cNil)))))) sNx))
def g_longer_paths (Φ : Fn) : M Fl := (sSeq (sOwn 3 (fLst cNil))
  (sSeq (sFor (cIter (cOp ixD (cVar 0) (cOp ixD (cVar 1) (cNeg (cC (.int 1)))))) (gN 4) (b1_longer_paths Φ))
  (sRet (cVar 3))))
def F_longer_paths : Nat → Fn
  | 0 => fun _ _ => .bad
  | n + 1 => fnOf 5 3 (g_longer_paths (F_longer_paths n))
abbrev S_Web_places : Stmt := (bodyOf (top 23)).getD 2 (.Pass ⟨0, 0, 0, 0⟩)
theorem sc_Web_places : FnScope ["self"] ["self"] (defScope S_Web_places) := ⟨rfl, rfl, rfl, by decide +kernel, rfl, by decide +kernel, by decide +kernel⟩
def g_Web_places : M Fl := (sRet (cOp ixD (cFld ["Web"] "both" (cVar 0)) (cC (.int 0))))
def F_Web_places : Fn := fnOf 1 1 g_Web_places
abbrev S_Web_ties : Stmt := (bodyOf (top 23)).getD 3 (.Pass ⟨0, 0, 0, 0⟩)
theorem sc_Web_ties : FnScope ["self"] ["self"] (defScope S_Web_ties) := ⟨rfl, rfl, rfl, by decide +kernel, rfl, by decide +kernel, by decide +kernel⟩
def g_Web_ties : M Fl := (sRet (cOp ixD (cFld ["Web"] "both" (cVar 0)) (cC (.int 1))))
def F_Web_ties : Fn := fnOf 1 1 g_Web_ties
abbrev S_beside_in : Stmt := top 28
theorem sc_beside_in : FnScope ["web", "place", "found", "tie"] ["web", "place"] (defScope S_beside_in) := ⟨rfl, rfl, rfl, by decide +kernel, rfl, by decide +kernel, by decide +kernel⟩
def g_beside_in : M Fl := (sSeq (sAsg 2 (cOp addD (cLc [3] (cIter (cProp "Web" F_Web_ties (cVar 0))) (gN 3) (cTest (cOp eqD (cOp ixD (cVar 3) (cC (.int 0))) (cVar 1))) (cOp ixD (cVar 3) (cC (.int 1)))) (cLc [3] (cIter (cProp "Web" F_Web_ties (cVar 0))) (gN 3) (cTest (cOp eqD (cOp ixD (cVar 3) (cC (.int 1))) (cVar 1))) (cOp ixD (cVar 3) (cC (.int 0))))))
  (sRet (cCB tupleD (cCons (cCB sortedD (cCons (cVar 2) cNil)) cNil))))
def F_beside_in : Fn := fnOf 4 2 g_beside_in
abbrev S_paths : Stmt := top 29
theorem sc_paths : FnScope ["web", "start", "goal", "place"] ["web", "start", "goal"] (defScope S_paths) := ⟨rfl, rfl, rfl, by decide +kernel, rfl, by decide +kernel, by decide +kernel⟩
def g_paths : M Fl := (sRet (cCall (F_longer_paths 12) (cCons (cDc [3] (cIter (cProp "Web" F_Web_places (cVar 0))) (gN 3) tYs (cVar 3) (cCall F_beside_in (cCons (cVar 0) (cCons (cVar 3) cNil)))) (cCons (cTup (cCons (cVar 1) cNil)) (cCons (cVar 2) cNil)))))
def F_paths : Fn := fnOf 4 3 g_paths
abbrev S_Web_rows : Stmt := (bodyOf (top 23)).getD 11 (.Pass ⟨0, 0, 0, 0⟩)
theorem sc_Web_rows : FnScope ["self", "start", "goal"] ["self", "start", "goal"] (defScope S_Web_rows) := ⟨rfl, rfl, rfl, by decide +kernel, rfl, by decide +kernel, by decide +kernel⟩
def g_Web_rows : M Fl := (sSeq (sExpr (cCall F_check_goal (cCons (cVar 0) (cCons (cVar 1) (cCons (cVar 2) cNil)))))
  (sRet (cCB tupleD (cCons (cCall F_paths (cCons (cVar 0) (cCons (cVar 1) (cCons (cVar 2) cNil)))) cNil))))
def F_Web_rows : Fn := fnOf 3 3 g_Web_rows
abbrev S__law_ends : Stmt := top 39
theorem sc__law_ends : FnScope ["_law_jar_here", "_law_net_here", "_law_at", "_law_rest", "_law_spot"] ["_law_jar_here", "_law_net_here"] (defScope S__law_ends) := ⟨rfl, rfl, rfl, by decide +kernel, rfl, by decide +kernel, by decide +kernel⟩
def g__law_ends : M Fl := (sSeq (sAsg 2 (cCallJ F__law_dip (cCons (cVar 0) (cCons (cCB lenD (cCons (cOp ixD (cVar 1) (cC (.int 0))) cNil)) cNil))))
  (sSeq (sAsg 3 (cLc [4] (cIter (cOp ixD (cVar 1) (cC (.int 0)))) (gN 4) (cTest (cOp neD (cVar 4) (cOp ixD (cOp ixD (cVar 1) (cC (.int 0))) (cVar 2)))) (cVar 4)))
  (sRet (cTup (cCons (cOp ixD (cOp ixD (cVar 1) (cC (.int 0))) (cVar 2)) (cCons (cCallJ F__law_pick (cCons (cVar 0) (cCons (cVar 3) cNil))) cNil))))))
def F__law_ends : Fn := fnOf 5 2 g__law_ends
abbrev S__law_right : Stmt := top 41
theorem sc__law_right : FnScope ["_law_jar_here", "_law_net_here", "_law_pairs", "_law_spot", "_law_other_spot", "_law_mine", "_law_begin", "_law_last", "_law_due", "_law_line", "_law_turn"] ["_law_jar_here"] (defScope S__law_right) := ⟨rfl, rfl, rfl, by decide +kernel, rfl, by decide +kernel, by decide +kernel⟩
def b1__law_right : M Fl := (sAsg 2 (cOp addD (cVar 2) (cLc [4] (cIter (cOp ixD (cVar 1) (cC (.int 0)))) (gN 4) (cTest (cOp neD (cVar 4) (cVar 3))) (cTup (cCons (cVar 3) (cCons (cVar 4) cNil))))))
def b2__law_right : M Fl := (sSeq (sAsg 8 (cCB tupleD (cCons (cCall F__law_lines (cCons (cVar 1) (cCons (cVar 6) (cCons (cVar 7) cNil)))) cNil)))
  (sSeq (sIf (cTest (cOp neD (cCB reprD (cCons (cLst (cCons (cMeth "Web" "rows" F_Web_rows (cVar 5) (cCons (cVar 6) (cCons (cVar 7) cNil))) (cCons (cMethK "Web" "rows" F_Web_rows 0 2 [0, 2, 1] (cVar 5) cNil (cCons (cVar 7) (cCons (cVar 6) cNil))) cNil))) cNil)) (cCB reprD (cCons (cLst (cCons (cVar 8) (cCons (cVar 8) cNil))) cNil)))) (sRet (cC (.bl false))) sNx)
  (sIf (cTest (cOp neD (cCB tupleD (cCons (cCB sortedD (cCons (cLc [9] (cIter (cMeth "Web" "rows" F_Web_rows (cVar 5) (cCons (cVar 7) (cCons (cVar 6) cNil)))) (gN 9) tYs (cRevT (cVar 9))) cNil)) cNil)) (cVar 8))) (sRet (cC (.bl false))) sNx)))
def b3__law_right : M Fl := (sSeq (sAsgT (gT [(gN 6), (gN 7)]) (cCallJ F__law_ends (cCons (cVar 0) (cCons (cVar 1) cNil))))
  (sIf (cTest (cOp neD (cCB reprD (cCons (cMeth "Web" "rows" F_Web_rows (cVar 5) (cCons (cVar 6) (cCons (cVar 7) cNil))) cNil)) (cCB reprD (cCons (cCB tupleD (cCons (cCall F__law_lines (cCons (cVar 1) (cCons (cVar 6) (cCons (cVar 7) cNil)))) cNil)) cNil)))) (sRet (cC (.bl false))) sNx))
def g__law_right : M Fl := (sSeq (sAsg 1 (cCallJ F__law_net (cCons (cVar 0) (cCons (cC (.int 2)) (cCons (cC (.int 6)) (cCons (cC (.int 12)) cNil))))))
  (sSeq (sAsg 2 (cLst cNil))
  (sSeq (sFor (cIter (cOp ixD (cVar 1) (cC (.int 0)))) (gN 3) b1__law_right)
  (sSeq (sAsg 5 (cCall F__law_made (cCons (cVar 1) cNil)))
  (sSeq (sFor (cIter (cVar 2)) (gT [(gN 6), (gN 7)]) b2__law_right)
  (sSeq (sAsg 1 (cCallJ F__law_net (cCons (cVar 0) (cCons (cC (.int 7)) (cCons (cC (.int 9)) (cCons (cC (.int 14)) cNil))))))
  (sSeq (sAsg 5 (cCall F__law_made (cCons (cVar 1) cNil)))
  (sSeq (sFor (cRange1 (cCons (cC (.int 3)) cNil)) (gN 10) b3__law_right)
  (sRet (cC (.bl true)))))))))))
def F__law_right : Fn := fnOf 11 1 g__law_right
abbrev S__law_jar : Stmt := top 32
theorem sc__law_jar : FnScope ["_law_script", "_law_k", "_law_mixed", "_law_cell", "_law_own", "_law_digits"] ["_law_script", "_law_k"] (defScope S__law_jar) := ⟨rfl, rfl, rfl, by decide +kernel, rfl, by decide +kernel, by decide +kernel⟩
def b1__law_jar : M Fl := (sAsg 2 (cOp modD (cCB intFnD (cCons (cOp addD (cOp mulD (cVar 2) (cC (.int 733))) (cVar 3)) cNil)) (cC (.int 1000000009))))
def g__law_jar : M D := (nSeq (sAsg 2 (cOp addD (cOp mulD (cOp mulD (cC (.int 7369)) (cOp addD (cVar 1) (cC (.int 5)))) (cOp addD (cVar 1) (cC (.int 2)))) (cOp mulD (cC (.int 29)) (cCB lenD (cCons (cVar 0) cNil)))))
  (nSeq (sFor (cIter (cSl (cVar 0) cNoPart (cPart (cC (.int 4))))) (gN 3) b1__law_jar)
  (nSeq (sAsg 4 (cIf (cTest (cOp ltD (cVar 1) (cCB lenD (cCons (cVar 0) cNil)))) (cOp ixD (cVar 0) (cVar 1)) (cC (.int 0))))
  (nSeq (sAsg 5 (cIf (cOr (cTest (cOp ltD (cVar 4) (cC (.int 0)))) (cTest (cOp geD (cVar 4) (cOp powD (cC (.int 10)) (cC (.int 18)))))) (cCB absD (cCons (cVar 4) cNil)) (cC (.int 0))))
  (fLst (cCons (cVar 5) (cCons (cOp modD (cCB intFnD (cCons (cOp addD (cOp addD (cOp mulD (cVar 2) (cC (.int 8117))) (cOp mulD (cVar 4) (cC (.int 64013)))) (cOp mulD (cC (.int 105019)) (cOp addD (cVar 1) (cC (.int 1))))) cNil)) (cC (.int 2147483563))) (cCons (cC (.int 0)) cNil))))))))
def F__law_jar : Fn := newOf 6 2 g__law_jar
abbrev S_law : Stmt := top 42
theorem sc_law : FnScope ["_law_script", "_law_k"] ["_law_script"] (defScope S_law) := ⟨rfl, rfl, rfl, by decide +kernel, rfl, by decide +kernel, by decide +kernel⟩
def b1_law : M Fl := (sIf (cNot (cTru (cCallT F__law_right (nCall F__law_jar (cCons (cVar 0) (cCons (cVar 1) cNil)))))) (sRet (cC (.bl false))) sNx)
def g_law : M Fl := (sSeq (sFor (cRange1 (cCons (cCB max2D (cCons (cC (.int 2)) (cCons (cCB min2D (cCons (cCB lenD (cCons (cVar 0) cNil)) (cCons (cC (.int 5)) cNil))) cNil))) cNil)) (gN 1) b1_law)
  (sRet (cC (.bl true))))
def F_law : Fn := fnOf 2 1 g_law
structure Fx (K : PySem.W.Frag) (mg : Str → Option Value) (cl : Str → Addr) where
  n_abs : mg "abs" = none
  n_all : mg "all" = none
  n_int : mg "int" = none
  n_isinstance : mg "isinstance" = none
  n_len : mg "len" = none
  n_max : mg "max" = none
  n_min : mg "min" = none
  n_range : mg "range" = none
  n_repr : mg "repr" = none
  n_sorted : mg "sorted" = none
  n_str : mg "str" = none
  n_tuple : mg "tuple" = none
  i_LONGEST : ∃ t, mg "LONGEST" = some (.int 8 t)
  i_MOST_PLACES : ∃ t, mg "MOST_PLACES" = some (.int 9 t)
  i_MOST_TIES : ∃ t, mg "MOST_TIES" = some (.int 16 t)
  s_SMALL : ∃ t, mg "SMALL" = some (.str "abcdefghijklmnopqrstuvwxyz" t)
  a__law_dip : Addr
  d__law_dip : FuncData
  F__law_dip : FunD K "_law_dip" "_law_dip" (defArgs S__law_dip) (defBody S__law_dip) (defScope S__law_dip) [] [] a__law_dip d__law_dip
  m__law_dip : mg "_law_dip" = some (.ref a__law_dip)
  a__law_names : Addr
  d__law_names : FuncData
  F__law_names : FunD K "_law_names" "_law_names" (defArgs S__law_names) (defBody S__law_names) (defScope S__law_names) [] [] a__law_names d__law_names
  m__law_names : mg "_law_names" = some (.ref a__law_names)
  a__law_pick : Addr
  d__law_pick : FuncData
  F__law_pick : FunD K "_law_pick" "_law_pick" (defArgs S__law_pick) (defBody S__law_pick) (defScope S__law_pick) [] [] a__law_pick d__law_pick
  m__law_pick : mg "_law_pick" = some (.ref a__law_pick)
  a__law_net : Addr
  d__law_net : FuncData
  F__law_net : FunD K "_law_net" "_law_net" (defArgs S__law_net) (defBody S__law_net) (defScope S__law_net) [] [] a__law_net d__law_net
  m__law_net : mg "_law_net" = some (.ref a__law_net)
  a_is_name : Addr
  d_is_name : FuncData
  F_is_name : FunD K "is_name" "is_name" (defArgs S_is_name) (defBody S_is_name) (defScope S_is_name) [] [] a_is_name d_is_name
  m_is_name : mg "is_name" = some (.ref a_is_name)
  a_check_places : Addr
  d_check_places : FuncData
  F_check_places : FunD K "check_places" "check_places" (defArgs S_check_places) (defBody S_check_places) (defScope S_check_places) [] [] a_check_places d_check_places
  m_check_places : mg "check_places" = some (.ref a_check_places)
  a_is_pair : Addr
  d_is_pair : FuncData
  F_is_pair : FunD K "is_pair" "is_pair" (defArgs S_is_pair) (defBody S_is_pair) (defScope S_is_pair) [] [] a_is_pair d_is_pair
  m_is_pair : mg "is_pair" = some (.ref a_is_pair)
  a_is_tie : Addr
  d_is_tie : FuncData
  F_is_tie : FunD K "is_tie" "is_tie" (defArgs S_is_tie) (defBody S_is_tie) (defScope S_is_tie) [] [] a_is_tie d_is_tie
  m_is_tie : mg "is_tie" = some (.ref a_is_tie)
  a_index_in : Addr
  d_index_in : FuncData
  F_index_in : FunD K "index_in" "index_in" (defArgs S_index_in) (defBody S_index_in) (defScope S_index_in) [] [] a_index_in d_index_in
  m_index_in : mg "index_in" = some (.ref a_index_in)
  a_check_ties : Addr
  d_check_ties : FuncData
  F_check_ties : FunD K "check_ties" "check_ties" (defArgs S_check_ties) (defBody S_check_ties) (defScope S_check_ties) [] [] a_check_ties d_check_ties
  m_check_ties : mg "check_ties" = some (.ref a_check_ties)
  a_Web___init__ : Addr
  d_Web___init__ : FuncData
  F_Web___init__ : FunD K "__init__" "Web.__init__" (defArgs S_Web___init__) (defBody S_Web___init__) (defScope S_Web___init__) [] [] a_Web___init__ d_Web___init__
  a__law_made : Addr
  d__law_made : FuncData
  F__law_made : FunD K "_law_made" "_law_made" (defArgs S__law_made) (defBody S__law_made) (defScope S__law_made) [] [] a__law_made d__law_made
  m__law_made : mg "_law_made" = some (.ref a__law_made)
  a__law_near : Addr
  d__law_near : FuncData
  F__law_near : FunD K "_law_near" "_law_near" (defArgs S__law_near) (defBody S__law_near) (defScope S__law_near) [] [] a__law_near d__law_near
  m__law_near : mg "_law_near" = some (.ref a__law_near)
  a__law_lines : Addr
  d__law_lines : FuncData
  F__law_lines : FunD K "_law_lines" "_law_lines" (defArgs S__law_lines) (defBody S__law_lines) (defScope S__law_lines) [] [] a__law_lines d__law_lines
  m__law_lines : mg "_law_lines" = some (.ref a__law_lines)
  a_Web___contains__ : Addr
  d_Web___contains__ : FuncData
  F_Web___contains__ : FunD K "__contains__" "Web.__contains__" (defArgs S_Web___contains__) (defBody S_Web___contains__) (defScope S_Web___contains__) [] [] a_Web___contains__ d_Web___contains__
  a_check_place : Addr
  d_check_place : FuncData
  F_check_place : FunD K "check_place" "check_place" (defArgs S_check_place) (defBody S_check_place) (defScope S_check_place) [] [] a_check_place d_check_place
  m_check_place : mg "check_place" = some (.ref a_check_place)
  a_check_goal : Addr
  d_check_goal : FuncData
  F_check_goal : FunD K "check_goal" "check_goal" (defArgs S_check_goal) (defBody S_check_goal) (defScope S_check_goal) [] [] a_check_goal d_check_goal
  m_check_goal : mg "check_goal" = some (.ref a_check_goal)
  a_longer_paths : Addr
  d_longer_paths : FuncData
  F_longer_paths : FunD K "longer_paths" "longer_paths" (defArgs S_longer_paths) (defBody S_longer_paths) (defScope S_longer_paths) [] [] a_longer_paths d_longer_paths
  m_longer_paths : mg "longer_paths" = some (.ref a_longer_paths)
  a_Web_places : Addr
  d_Web_places : FuncData
  F_Web_places : FunD K "places" "Web.places" (defArgs S_Web_places) (defBody S_Web_places) (defScope S_Web_places) [] [] a_Web_places d_Web_places
  a_Web_ties : Addr
  d_Web_ties : FuncData
  F_Web_ties : FunD K "ties" "Web.ties" (defArgs S_Web_ties) (defBody S_Web_ties) (defScope S_Web_ties) [] [] a_Web_ties d_Web_ties
  a_beside_in : Addr
  d_beside_in : FuncData
  F_beside_in : FunD K "beside_in" "beside_in" (defArgs S_beside_in) (defBody S_beside_in) (defScope S_beside_in) [] [] a_beside_in d_beside_in
  m_beside_in : mg "beside_in" = some (.ref a_beside_in)
  a_paths : Addr
  d_paths : FuncData
  F_paths : FunD K "paths" "paths" (defArgs S_paths) (defBody S_paths) (defScope S_paths) [] [] a_paths d_paths
  m_paths : mg "paths" = some (.ref a_paths)
  a_Web_rows : Addr
  d_Web_rows : FuncData
  F_Web_rows : FunD K "rows" "Web.rows" (defArgs S_Web_rows) (defBody S_Web_rows) (defScope S_Web_rows) [] [] a_Web_rows d_Web_rows
  a__law_ends : Addr
  d__law_ends : FuncData
  F__law_ends : FunD K "_law_ends" "_law_ends" (defArgs S__law_ends) (defBody S__law_ends) (defScope S__law_ends) [] [] a__law_ends d__law_ends
  m__law_ends : mg "_law_ends" = some (.ref a__law_ends)
  a__law_right : Addr
  d__law_right : FuncData
  F__law_right : FunD K "_law_right" "_law_right" (defArgs S__law_right) (defBody S__law_right) (defScope S__law_right) [] [] a__law_right d__law_right
  m__law_right : mg "_law_right" = some (.ref a__law_right)
  a__law_jar : Addr
  d__law_jar : FuncData
  F__law_jar : FunD K "_law_jar" "_law_jar" (defArgs S__law_jar) (defBody S__law_jar) (defScope S__law_jar) [] [] a__law_jar d__law_jar
  m__law_jar : mg "_law_jar" = some (.ref a__law_jar)
  a_law : Addr
  d_law : FuncData
  F_law : FunD K "law" "law" (defArgs S_law) (defBody S_law) (defScope S_law) [] [] a_law d_law
  m_law : mg "law" = some (.ref a_law)
  c_Web : mg "Web" = some (.ref (cl "Web"))
  cls_Web : Cls K (cl "Web")
  mk_Web : Mk K (cl "Web") a_Web___init__
  at_Web_both : NoAttr K (cl "Web") "both"
  me_Web___contains__ : Meth K (cl "Web") "__contains__" a_Web___contains__
  me_Web_rows : Meth K (cl "Web") "rows" a_Web_rows
  p_Web_places : Addr
  pr_Web_places : PropOf K (cl "Web") "places" p_Web_places a_Web_places
  p_Web_ties : Addr
  pr_Web_ties : PropOf K (cl "Web") "ties" p_Web_ties a_Web_ties
  clsx : ClsX K cl CS
theorem bd__law_dip {K : PySem.W.Frag} {mg : Str → Option Value} {cl : Str → Addr} (T : Fx K mg cl) : Binds K T.d__law_dip ["_law_jar_here", "_law_most"] [] := T.F__law_dip.bindsN fun _ _ _ _ _ _ us hl => match us, hl with | [_, _], _ => rfl
theorem ok__law_dip {P : Program} {w : World} {K : PySem.W.Frag} {mg : Str → Option Value} {base : Heap} {cl : Str → Addr} (T : Fx K mg cl) : FnOk P w K mg base (L2.CX P w) 1 T.a__law_dip T.d__law_dip ["_law_jar_here", "_law_most"] (spD K cl F__law_dip) :=
  fn_D (k := 0) (N := ["_law_jar_here", "_law_most", "_law_digit", "_law_seed"]) (g := g__law_dip) T.F__law_dip sc__law_dip fun F cdv A outer s H E hr =>
    (rs_cons (rs_setIx 0 re_int (re_op od_add (re_ix (room1 hr) (re_v 0) re_int) re_int))
    (rs_cons (rs_if (rt_cmp od_gt (re_ix (room1 hr) (re_v 0) re_int) re_int (nomark _)) (rs_cons (rs_asg sc__law_dip.nd (re_op od_mod (re_callTy cd_int rfl T.n_int bt_int (ra_cons (re_ix (room1 hr) (re_v 0) re_int) ra_nil)) (re_v 1)))
    (rs_cons (rs_setIx 0 re_int (re_op od_fdiv (re_callTy cd_int rfl T.n_int bt_int (ra_cons (re_ix (room1 hr) (re_v 0) re_int) ra_nil)) (re_v 1)))
    (rs_one (rs_ret (re_v 2))))) rs_nil)
    (rs_cons (rs_asg sc__law_dip.nd (re_callTy cd_int rfl T.n_int bt_int (ra_cons (re_ix (room1 hr) (re_v 0) re_int) ra_nil)))
    (rs_cons (rs_setIx 0 re_int (re_op od_mod (re_callTy cd_int rfl T.n_int bt_int (ra_cons (re_op od_add (re_op od_add (re_op od_mul (re_v 3) re_int) (re_op od_mul (re_ix (room1 hr) (re_v 0) re_int) re_int)) re_int) ra_nil)) re_int))
    (rs_one (rs_ret (re_op od_mod (re_callTy cd_int rfl T.n_int bt_int (ra_cons (re_op od_fdiv (re_ix (room1 hr) (re_v 0) re_int) re_int) ra_nil)) (re_v 1))))))))
theorem bd__law_names {K : PySem.W.Frag} {mg : Str → Option Value} {cl : Str → Addr} (T : Fx K mg cl) : Binds K T.d__law_names ["_law_jar_here", "_law_most"] [] := T.F__law_names.bindsN fun _ _ _ _ _ _ us hl => match us, hl with | [_, _], _ => rfl
theorem ok__law_names {P : Program} {w : World} {K : PySem.W.Frag} {mg : Str → Option Value} {base : Heap} {cl : Str → Addr} (T : Fx K mg cl) : FnOk P w K mg base (L2.CX P w) 2 T.a__law_names T.d__law_names ["_law_jar_here", "_law_most"] (spD K cl F__law_names) :=
  fn_D (k := 1) (N := ["_law_jar_here", "_law_most", "_law_pool", "_law_at"]) (g := g__law_names) T.F__law_names sc__law_names fun F cdv A outer s H E hr =>
    (rs_cons (rs_asg sc__law_names.nd (re_lst (ra_cons re_str (ra_cons re_str (ra_cons re_str (ra_cons re_str (ra_cons re_str (ra_cons re_str (ra_cons re_str (ra_cons re_str (ra_cons re_str (ra_cons re_str (ra_cons re_str (ra_cons re_str ra_nil))))))))))))))
    (rs_cons (rs_asg sc__law_names.nd (re_callJ (ok__law_dip T) (hr.mono (by omega)) (takes_of rfl rfl rfl rfl) rfl T.m__law_dip T.F__law_dip.kp (bd__law_dip T) (ra_cons (re_v 0) (ra_cons re_int ra_nil))))
    (rs_one (rs_ret (re_sl (re_op od_add (re_sl (re_v 2) (ro_some (re_v 3)) ro_none) (re_sl (re_v 2) ro_none (ro_some (re_v 3)))) ro_none (ro_some (re_v 1)))))))
theorem bd__law_pick {K : PySem.W.Frag} {mg : Str → Option Value} {cl : Str → Addr} (T : Fx K mg cl) : Binds K T.d__law_pick ["_law_jar_here", "_law_menu"] [] := T.F__law_pick.bindsN fun _ _ _ _ _ _ us hl => match us, hl with | [_, _], _ => rfl
theorem ok__law_pick {P : Program} {w : World} {K : PySem.W.Frag} {mg : Str → Option Value} {base : Heap} {cl : Str → Addr} (T : Fx K mg cl) : FnOk P w K mg base (L2.CX P w) 2 T.a__law_pick T.d__law_pick ["_law_jar_here", "_law_menu"] (spD K cl F__law_pick) :=
  fn_D (k := 1) (N := ["_law_jar_here", "_law_menu", "_law_at"]) (g := g__law_pick) T.F__law_pick sc__law_pick fun F cdv A outer s H E hr =>
    (rs_cons (rs_asg sc__law_pick.nd (re_callJ (ok__law_dip T) (hr.mono (by omega)) (takes_of rfl rfl rfl rfl) rfl T.m__law_dip T.F__law_dip.kp (bd__law_dip T) (ra_cons (re_v 0) (ra_cons (re_callB cd_len rfl T.n_len bt_len (ra_cons (re_v 1) ra_nil)) ra_nil))))
    (rs_one (rs_ret (re_ix (room1 hr) (re_v 1) (re_v 2)))))
theorem bd__law_net {K : PySem.W.Frag} {mg : Str → Option Value} {cl : Str → Addr} (T : Fx K mg cl) : Binds K T.d__law_net ["_law_jar_here", "_law_least", "_law_most", "_law_links_most"] [] := T.F__law_net.bindsN fun _ _ _ _ _ _ us hl => match us, hl with | [_, _, _, _], _ => rfl
theorem ok__law_net {P : Program} {w : World} {K : PySem.W.Frag} {mg : Str → Option Value} {base : Heap} {cl : Str → Addr} (T : Fx K mg cl) : FnOk P w K mg base (L2.CX P w) 3 T.a__law_net T.d__law_net ["_law_jar_here", "_law_least", "_law_most", "_law_links_most"] (spD K cl F__law_net) :=
  fn_D (k := 2) (N := ["_law_jar_here", "_law_least", "_law_most", "_law_links_most", "_law_spots", "_law_pairs", "_law_found", "_law_k", "_law_other_spot", "_law_many_links", "_law_turn", "_law_at"]) (g := g__law_net) T.F__law_net sc__law_net fun F cdv A outer s H E hr =>
    (rs_cons (rs_asg sc__law_net.nd (re_callJ (ok__law_names T) (hr.mono (by omega)) (takes_of rfl rfl rfl rfl) rfl T.m__law_names T.F__law_names.kp (bd__law_names T) (ra_cons (re_v 0) (ra_cons (re_op od_add (re_v 1) (re_callJ (ok__law_dip T) (hr.mono (by omega)) (takes_of rfl rfl rfl rfl) rfl T.m__law_dip T.F__law_dip.kp (bd__law_dip T) (ra_cons (re_v 0) (ra_cons (re_op od_add (re_op od_sub (re_v 2) (re_v 1)) re_int) ra_nil)))) ra_nil))))
    (rs_cons (rs_par (i := 5) (j := 6) rfl sc__law_net.nd (rp_v (re_lst ra_nil)) (rp_n (rf_lst ra_nil)) (by rfl))
    (rs_cons (rs_for (passes_of rfl) rfl (ri_range1 rfl T.n_range (ra_cons (re_callB cd_len rfl T.n_len bt_len (ra_cons (re_v 4) ra_nil)) ra_nil)) (rg_n 7 sc__law_net.nd) (rs_one (rs_asg sc__law_net.nd (re_op od_add (re_v 5) (re_lc (own := [("_law_other_spot", 8)]) rfl sc__law_net.nd (ri_seq (re_sl (re_v 4) (ro_some (re_op od_add (re_v 7) re_int)) ro_none)) (blkOk_by (by kernel_rfl)) (fun _ _ _ _ _ => (rg_n 8 sc__law_net.nd)) (fun _ _ _ _ _ => rts_nil) (fun _ _ _ _ _ => (re_tup (ra_cons (re_ix (room1 hr) (re_v 4) (re_v 7)) (ra_cons (re_v 8) ra_nil)))))))))
    (rs_cons (rs_asg sc__law_net.nd (re_callB (cd_min2 rfl) rfl T.n_min bt_min (ra_cons (re_v 3) (ra_cons (re_op od_sub (re_op od_add (re_callB cd_len rfl T.n_len bt_len (ra_cons (re_v 5) ra_nil)) re_int) (re_callJ (ok__law_dip T) (hr.mono (by omega)) (takes_of rfl rfl rfl rfl) rfl T.m__law_dip T.F__law_dip.kp (bd__law_dip T) (ra_cons (re_v 0) (ra_cons (re_callJ (ok__law_pick T) (hr.mono (by omega)) (takes_of rfl rfl rfl rfl) rfl T.m__law_pick T.F__law_pick.kp (bd__law_pick T) (ra_cons (re_v 0) (ra_cons (re_lst (ra_cons re_int (ra_cons re_int (ra_cons (re_callB cd_len rfl T.n_len bt_len (ra_cons (re_v 5) ra_nil)) ra_nil)))) ra_nil))) ra_nil)))) ra_nil))))
    (rs_cons (rs_for (passes_of rfl) rfl (ri_range1 rfl T.n_range (ra_cons (re_callB (cd_min2 rfl) rfl T.n_min bt_min (ra_cons (re_v 9) (ra_cons (re_callB cd_len rfl T.n_len bt_len (ra_cons (re_v 5) ra_nil)) ra_nil))) ra_nil)) (rg_n 10 sc__law_net.nd) (rs_cons (rs_asg sc__law_net.nd (re_callJ (ok__law_dip T) (hr.mono (by omega)) (takes_of rfl rfl rfl rfl) rfl T.m__law_dip T.F__law_dip.kp (bd__law_dip T) (ra_cons (re_v 0) (ra_cons (re_callB cd_len rfl T.n_len bt_len (ra_cons (re_v 5) ra_nil)) ra_nil))))
    (rs_cons (rs_expr (re_app 6 (re_if (rt_cmp (od_eq (room64 hr)) (re_callJ (ok__law_dip T) (hr.mono (by omega)) (takes_of rfl rfl rfl rfl) rfl T.m__law_dip T.F__law_dip.kp (bd__law_dip T) (ra_cons (re_v 0) (ra_cons re_int ra_nil))) re_int (nomark _)) (re_ix (room1 hr) (re_v 5) (re_v 11)) (re_revT (re_ix (room1 hr) (re_v 5) (re_v 11))))))
    (rs_one (rs_asg sc__law_net.nd (re_op od_add (re_sl (re_v 5) ro_none (ro_some (re_v 11))) (re_sl (re_v 5) (ro_some (re_op od_add (re_v 11) re_int)) ro_none)))))))
    (rs_one (rs_ret (re_tup (ra_cons (re_callTy cd_tuple rfl T.n_tuple bt_tuple (ra_cons (re_v 4) ra_nil)) (ra_cons (re_callTy cd_tuple rfl T.n_tuple bt_tuple (ra_cons (re_v 6) ra_nil)) ra_nil))))))))))
theorem bd_is_name {K : PySem.W.Frag} {mg : Str → Option Value} {cl : Str → Addr} (T : Fx K mg cl) : Binds K T.d_is_name ["value"] [] := T.F_is_name.bindsN fun _ _ _ _ _ _ us hl => match us, hl with | [_], _ => rfl
theorem ok_is_name {P : Program} {w : World} {K : PySem.W.Frag} {mg : Str → Option Value} {base : Heap} {cl : Str → Addr} (T : Fx K mg cl) : FnOk P w K mg base (L2.CX P w) 1 T.a_is_name T.d_is_name ["value"] (spD K cl F_is_name) :=
  fn_D (k := 0) (N := ["value", "sign"]) (g := g_is_name) T.F_is_name sc_is_name fun F cdv A outer s H E hr =>
    (rs_one (rs_ret (re_and (re_isT T.clsx (re_v 0) rfl T.n_isinstance rfl T.n_str bt_str (by decide)) (re_and (re_chain od_lt od_le re_int (re_callB cd_len rfl T.n_len bt_len (ra_cons (re_v 0) ra_nil)) (re_gint rfl T.i_LONGEST)) (re_one (re_callB (cd_all rfl) rfl T.n_all bt_all (ra_cons (re_lc (own := [("sign", 1)]) rfl sc_is_name.nd (ri_seq (re_v 0)) (blkOk_by (by kernel_rfl)) (fun _ _ _ _ _ => (rg_n 1 sc_is_name.nd)) (fun _ _ _ _ _ => rts_nil) (fun _ _ _ _ _ => (re_cmp (od_in (room65 hr)) (re_v 1) (re_gstr rfl T.s_SMALL) (by rfl)))) ra_nil)))))))
theorem bd_check_places {K : PySem.W.Frag} {mg : Str → Option Value} {cl : Str → Addr} (T : Fx K mg cl) : Binds K T.d_check_places ["places"] [] := T.F_check_places.bindsN fun _ _ _ _ _ _ us hl => match us, hl with | [_], _ => rfl
theorem ok_check_places {P : Program} {w : World} {K : PySem.W.Frag} {mg : Str → Option Value} {base : Heap} {cl : Str → Addr} (T : Fx K mg cl) : FnOk P w K mg base (L2.CX P w) 2 T.a_check_places T.d_check_places ["places"] (spD K cl F_check_places) :=
  fn_D (k := 1) (N := ["places", "index"]) (g := g_check_places) T.F_check_places sc_check_places fun F cdv A outer s H E hr =>
    (rs_cons (rs_if (rt_w (rw_or (rt_not (rt_tru (re_isT T.clsx (re_v 0) rfl T.n_isinstance rfl T.n_tuple bt_tuple (by decide)))) (rw_or1 (rt_cmp od_lt (re_callB cd_len rfl T.n_len bt_len (ra_cons (re_v 0) ra_nil)) re_int (nomark _))))) (rs_one rs_never) rs_nil)
    (rs_one (rs_for (passes_of rfl) rfl (ri_range1 rfl T.n_range (ra_cons (re_callB cd_len rfl T.n_len bt_len (ra_cons (re_v 0) ra_nil)) ra_nil)) (rg_n 1 sc_check_places.nd) (rs_one (rs_if (rt_w (rw_or (rt_cmp (od_eq (room64 hr)) (re_v 1) (re_gint rfl T.i_MOST_PLACES) (nomark _)) (rw_or (rt_not (rt_tru (re_call (ok_is_name T) (hr.mono (by omega)) (takes_of rfl rfl rfl rfl) rfl T.m_is_name T.F_is_name.kp (bd_is_name T) (ra_cons (re_ix (room1 hr) (re_v 0) (re_v 1)) ra_nil)))) (rw_or1 (rt_cmp (od_in (room65 hr)) (re_ix (room1 hr) (re_v 0) (re_v 1)) (re_sl (re_v 0) ro_none (ro_some (re_v 1))) (by rfl)))))) (rs_one rs_never) rs_nil)))))
theorem bd_is_pair {K : PySem.W.Frag} {mg : Str → Option Value} {cl : Str → Addr} (T : Fx K mg cl) : Binds K T.d_is_pair ["value"] [] := T.F_is_pair.bindsN fun _ _ _ _ _ _ us hl => match us, hl with | [_], _ => rfl
theorem ok_is_pair {P : Program} {w : World} {K : PySem.W.Frag} {mg : Str → Option Value} {base : Heap} {cl : Str → Addr} (T : Fx K mg cl) : FnOk P w K mg base (L2.CX P w) 1 T.a_is_pair T.d_is_pair ["value"] (spD K cl F_is_pair) :=
  fn_D (k := 0) (N := ["value"]) (g := g_is_pair) T.F_is_pair sc_is_pair fun F cdv A outer s H E hr =>
    (rs_one (rs_ret (re_and (re_isT T.clsx (re_v 0) rfl T.n_isinstance rfl T.n_tuple bt_tuple (by decide)) (re_one (re_cmp (od_eq (room64 hr)) (re_callB cd_len rfl T.n_len bt_len (ra_cons (re_v 0) ra_nil)) re_int (nomark _))))))
theorem bd_is_tie {K : PySem.W.Frag} {mg : Str → Option Value} {cl : Str → Addr} (T : Fx K mg cl) : Binds K T.d_is_tie ["value", "places"] [] := T.F_is_tie.bindsN fun _ _ _ _ _ _ us hl => match us, hl with | [_, _], _ => rfl
theorem ok_is_tie {P : Program} {w : World} {K : PySem.W.Frag} {mg : Str → Option Value} {base : Heap} {cl : Str → Addr} (T : Fx K mg cl) : FnOk P w K mg base (L2.CX P w) 2 T.a_is_tie T.d_is_tie ["value", "places"] (spD K cl F_is_tie) :=
  fn_D (k := 1) (N := ["value", "places"]) (g := g_is_tie) T.F_is_tie sc_is_tie fun F cdv A outer s H E hr =>
    (rs_cons (rs_if (rt_w (rw_or (rt_not (rt_tru (re_call (ok_is_pair T) (hr.mono (by omega)) (takes_of rfl rfl rfl rfl) rfl T.m_is_pair T.F_is_pair.kp (bd_is_pair T) (ra_cons (re_v 0) ra_nil)))) (rw_or (rt_not (rt_tru (re_call (ok_is_name T) (hr.mono (by omega)) (takes_of rfl rfl rfl rfl) rfl T.m_is_name T.F_is_name.kp (bd_is_name T) (ra_cons (re_ix (room1 hr) (re_v 0) re_int) ra_nil)))) (rw_or1 (rt_not (rt_tru (re_call (ok_is_name T) (hr.mono (by omega)) (takes_of rfl rfl rfl rfl) rfl T.m_is_name T.F_is_name.kp (bd_is_name T) (ra_cons (re_ix (room1 hr) (re_v 0) re_int) ra_nil)))))))) (rs_one (rs_ret re_bl)) rs_nil)
    (rs_one (rs_ret (re_and (re_cmp (od_ne (room64 hr)) (re_ix (room1 hr) (re_v 0) re_int) (re_ix (room1 hr) (re_v 0) re_int) (nomark _)) (re_and (re_cmp (od_in (room65 hr)) (re_ix (room1 hr) (re_v 0) re_int) (re_v 1) (by rfl)) (re_one (re_cmp (od_in (room65 hr)) (re_ix (room1 hr) (re_v 0) re_int) (re_v 1) (by rfl))))))))
theorem bd_index_in {K : PySem.W.Frag} {mg : Str → Option Value} {cl : Str → Addr} (T : Fx K mg cl) : Binds K T.d_index_in ["ties", "one", "other"] [] := T.F_index_in.bindsN fun _ _ _ _ _ _ us hl => match us, hl with | [_, _, _], _ => rfl
theorem ok_index_in {P : Program} {w : World} {K : PySem.W.Frag} {mg : Str → Option Value} {base : Heap} {cl : Str → Addr} (T : Fx K mg cl) : FnOk P w K mg base (L2.CX P w) 1 T.a_index_in T.d_index_in ["ties", "one", "other"] (spD K cl F_index_in) :=
  fn_D (k := 0) (N := ["ties", "one", "other", "index"]) (g := g_index_in) T.F_index_in sc_index_in fun F cdv A outer s H E hr =>
    (rs_cons (rs_for (passes_of rfl) rfl (ri_range1 rfl T.n_range (ra_cons (re_callB cd_len rfl T.n_len bt_len (ra_cons (re_v 0) ra_nil)) ra_nil)) (rg_n 3 sc_index_in.nd) (rs_one (rs_if (rt_cmp (od_in (room65 hr)) (re_ix (room1 hr) (re_v 0) (re_v 3)) (re_tup (ra_cons (re_tup (ra_cons (re_v 1) (ra_cons (re_v 2) ra_nil))) (ra_cons (re_tup (ra_cons (re_v 2) (ra_cons (re_v 1) ra_nil))) ra_nil))) (by rfl)) (rs_one (rs_ret (re_v 3))) rs_nil)))
    (rs_one (rs_ret re_non)))
theorem bd_check_ties {K : PySem.W.Frag} {mg : Str → Option Value} {cl : Str → Addr} (T : Fx K mg cl) : Binds K T.d_check_ties ["ties", "places"] [] := T.F_check_ties.bindsN fun _ _ _ _ _ _ us hl => match us, hl with | [_, _], _ => rfl
theorem ok_check_ties {P : Program} {w : World} {K : PySem.W.Frag} {mg : Str → Option Value} {base : Heap} {cl : Str → Addr} (T : Fx K mg cl) : FnOk P w K mg base (L2.CX P w) 3 T.a_check_ties T.d_check_ties ["ties", "places"] (spD K cl F_check_ties) :=
  fn_D (k := 2) (N := ["ties", "places", "index"]) (g := g_check_ties) T.F_check_ties sc_check_ties fun F cdv A outer s H E hr =>
    (rs_cons (rs_if (rt_not (rt_tru (re_isT T.clsx (re_v 0) rfl T.n_isinstance rfl T.n_tuple bt_tuple (by decide)))) (rs_one rs_never) rs_nil)
    (rs_one (rs_for (passes_of rfl) rfl (ri_range1 rfl T.n_range (ra_cons (re_callB cd_len rfl T.n_len bt_len (ra_cons (re_v 0) ra_nil)) ra_nil)) (rg_n 2 sc_check_ties.nd) (rs_cons (rs_if (rt_w (rw_or (rt_cmp (od_eq (room64 hr)) (re_v 2) (re_gint rfl T.i_MOST_TIES) (nomark _)) (rw_or1 (rt_not (rt_tru (re_call (ok_is_tie T) (hr.mono (by omega)) (takes_of rfl rfl rfl rfl) rfl T.m_is_tie T.F_is_tie.kp (bd_is_tie T) (ra_cons (re_ix (room1 hr) (re_v 0) (re_v 2)) (ra_cons (re_v 1) ra_nil)))))))) (rs_one rs_never) rs_nil)
    (rs_one (rs_if (rt_cmp od_isNot (re_call (ok_index_in T) (hr.mono (by omega)) (takes_of rfl rfl rfl rfl) rfl T.m_index_in T.F_index_in.kp (bd_index_in T) (ra_cons (re_sl (re_v 0) ro_none (ro_some (re_v 2))) (ra_cons (re_ix (room1 hr) (re_ix (room1 hr) (re_v 0) (re_v 2)) re_int) (ra_cons (re_ix (room1 hr) (re_ix (room1 hr) (re_v 0) (re_v 2)) re_int) ra_nil)))) re_non (nomark _)) (rs_one rs_never) rs_nil))))))
theorem bd_Web___init__ {K : PySem.W.Frag} {mg : Str → Option Value} {cl : Str → Addr} (T : Fx K mg cl) : Binds K T.d_Web___init__ ["self", "places", "ties"] [] := T.F_Web___init__.bindsN fun _ _ _ _ _ _ us hl => match us, hl with | [_, _, _], _ => rfl
theorem ok_Web___init__ {P : Program} {w : World} {K : PySem.W.Frag} {mg : Str → Option Value} {base : Heap} {cl : Str → Addr} (T : Fx K mg cl) : FnOk P w K mg base (L2.CX P w) 4 T.a_Web___init__ T.d_Web___init__ ["self", "places", "ties"] (spD K cl F_Web___init__) :=
  fn_D (k := 3) (N := ["self", "places", "ties"]) (g := g_Web___init__) T.F_Web___init__ sc_Web___init__ fun F cdv A outer s H E hr =>
    (rs_cons (rs_expr (re_call (ok_check_places T) (hr.mono (by omega)) (takes_of rfl rfl rfl rfl) rfl T.m_check_places T.F_check_places.kp (bd_check_places T) (ra_cons (re_v 1) ra_nil)))
    (rs_cons (rs_expr (re_call (ok_check_ties T) (hr.mono (by omega)) (takes_of rfl rfl rfl rfl) rfl T.m_check_ties T.F_check_ties.kp (bd_check_ties T) (ra_cons (re_v 2) (ra_cons (re_v 1) ra_nil))))
    (rs_one (rs_fld 0 (fun c hc => by rw [List.mem_singleton.mp hc]; exact ⟨T.cls_Web, T.at_Web_both⟩) (re_tup (ra_cons (re_v 1) (ra_cons (re_v 2) ra_nil)))))))
theorem bd__law_made {K : PySem.W.Frag} {mg : Str → Option Value} {cl : Str → Addr} (T : Fx K mg cl) : Binds K T.d__law_made ["_law_net_here"] [] := T.F__law_made.bindsN fun _ _ _ _ _ _ us hl => match us, hl with | [_], _ => rfl
theorem ok__law_made {P : Program} {w : World} {K : PySem.W.Frag} {mg : Str → Option Value} {base : Heap} {cl : Str → Addr} (T : Fx K mg cl) : FnOk P w K mg base (L2.CX P w) 6 T.a__law_made T.d__law_made ["_law_net_here"] (spD K cl F__law_made) :=
  fn_D (k := 5) (N := ["_law_net_here"]) (g := g__law_made) T.F__law_made sc__law_made fun F cdv A outer s H E hr =>
    (rs_one (rs_ret (re_make T.mk_Web (ok_Web___init__ T) (hr.mono (by omega)) (takes_of rfl rfl rfl rfl) si0 rfl T.c_Web (bd_Web___init__ T) (ra_cons (re_ix (room1 hr) (re_v 0) re_int) (ra_cons (re_ix (room1 hr) (re_v 0) re_int) ra_nil)))))
theorem bd__law_near {K : PySem.W.Frag} {mg : Str → Option Value} {cl : Str → Addr} (T : Fx K mg cl) : Binds K T.d__law_near ["_law_net_here", "_law_spot"] [] := T.F__law_near.bindsN fun _ _ _ _ _ _ us hl => match us, hl with | [_, _], _ => rfl
theorem ok__law_near {P : Program} {w : World} {K : PySem.W.Frag} {mg : Str → Option Value} {base : Heap} {cl : Str → Addr} (T : Fx K mg cl) : FnOk P w K mg base (L2.CX P w) 1 T.a__law_near T.d__law_near ["_law_net_here", "_law_spot"] (spD K cl F__law_near) :=
  fn_D (k := 0) (N := ["_law_net_here", "_law_spot", "_law_link"]) (g := g__law_near) T.F__law_near sc__law_near fun F cdv A outer s H E hr =>
    (rs_one (rs_ret (re_callB (cd_sorted (room64 hr)) rfl T.n_sorted bt_sorted (ra_cons (re_op od_add (re_lc (own := [("_law_link", 2)]) rfl sc__law_near.nd (ri_seq (re_ix (room1 hr) (re_v 0) re_int)) (blkOk_by (by kernel_rfl)) (fun _ _ _ _ _ => (rg_n 2 sc__law_near.nd)) (fun _ _ _ _ _ => (rts_one (rt_cmp (od_eq (room64 hr)) (re_ix (room1 hr) (re_v 2) re_int) (re_v 1) (nomark _)))) (fun _ _ _ _ _ => (re_ix (room1 hr) (re_v 2) re_int))) (re_lc (own := [("_law_link", 2)]) rfl sc__law_near.nd (ri_seq (re_ix (room1 hr) (re_v 0) re_int)) (blkOk_by (by kernel_rfl)) (fun _ _ _ _ _ => (rg_n 2 sc__law_near.nd)) (fun _ _ _ _ _ => (rts_one (rt_cmp (od_eq (room64 hr)) (re_ix (room1 hr) (re_v 2) re_int) (re_v 1) (nomark _)))) (fun _ _ _ _ _ => (re_ix (room1 hr) (re_v 2) re_int)))) ra_nil))))
theorem bd__law_lines {K : PySem.W.Frag} {mg : Str → Option Value} {cl : Str → Addr} (T : Fx K mg cl) : Binds K T.d__law_lines ["_law_net_here", "_law_begin", "_law_last"] [] := T.F__law_lines.bindsN fun _ _ _ _ _ _ us hl => match us, hl with | [_, _, _], _ => rfl
theorem ok__law_lines {P : Program} {w : World} {K : PySem.W.Frag} {mg : Str → Option Value} {base : Heap} {cl : Str → Addr} (T : Fx K mg cl) : FnOk P w K mg base (L2.CX P w) 2 T.a__law_lines T.d__law_lines ["_law_net_here", "_law_begin", "_law_last"] (spD K cl F__law_lines) :=
  fn_D (k := 1) (N := ["_law_net_here", "_law_begin", "_law_last", "_law_found", "_law_growing", "_law_line", "_law_spot"]) (g := g__law_lines) T.F__law_lines sc__law_lines fun F cdv A outer s H E hr =>
    (rs_cons (rs_par (i := 3) (j := 4) rfl sc__law_lines.nd (rp_n (rf_lst ra_nil)) (rp_n (rf_lst (ra_cons (re_tup (ra_cons (re_v 1) ra_nil)) ra_nil))) (by rfl))
    (rs_cons (rs_while 20000 (passes_of rfl) (rt_cmp (od_ne (room64 hr)) (re_v 4) (re_lst ra_nil) (nomark _)) (rs_cons (rs_asg sc__law_lines.nd (re_pop 4))
    (rs_one (rs_for (passes_of rfl) rfl (ri_seq (re_call (ok__law_near T) (hr.mono (by omega)) (takes_of rfl rfl rfl rfl) rfl T.m__law_near T.F__law_near.kp (bd__law_near T) (ra_cons (re_v 0) (ra_cons (re_ix (room1 hr) (re_v 5) (re_neg re_int)) ra_nil)))) (rg_n 6 sc__law_lines.nd) (rs_one (rs_if (rt_cmp (od_eq (room64 hr)) (re_v 6) (re_v 2) (nomark _)) (rs_one (rs_expr (re_app 3 (re_op od_add (re_v 5) (re_tup (ra_cons (re_v 2) ra_nil)))))) (rs_one (rs_if (rt_cmp (od_notIn (room65 hr)) (re_v 6) (re_v 5) (by rfl)) (rs_one (rs_expr (re_app 4 (re_op od_add (re_v 5) (re_tup (ra_cons (re_v 6) ra_nil)))))) rs_nil))))))))
    (rs_one (rs_ret (re_callB (cd_sorted (room64 hr)) rfl T.n_sorted bt_sorted (ra_cons (re_v 3) ra_nil))))))
theorem bd_Web___contains__ {K : PySem.W.Frag} {mg : Str → Option Value} {cl : Str → Addr} (T : Fx K mg cl) : Binds K T.d_Web___contains__ ["self", "value"] [] := T.F_Web___contains__.bindsN fun _ _ _ _ _ _ us hl => match us, hl with | [_, _], _ => rfl
theorem ok_Web___contains__ {P : Program} {w : World} {K : PySem.W.Frag} {mg : Str → Option Value} {base : Heap} {cl : Str → Addr} (T : Fx K mg cl) : FnOk P w K mg base (L2.CX P w) 2 T.a_Web___contains__ T.d_Web___contains__ ["self", "value"] (spD K cl F_Web___contains__) :=
  fn_D (k := 1) (N := ["self", "value"]) (g := g_Web___contains__) T.F_Web___contains__ sc_Web___contains__ fun F cdv A outer s H E hr =>
    (rs_one (rs_ret (re_and (re_call (ok_is_name T) (hr.mono (by omega)) (takes_of rfl rfl rfl rfl) rfl T.m_is_name T.F_is_name.kp (bd_is_name T) (ra_cons (re_v 1) ra_nil)) (re_one (re_cmp (od_in (room65 hr)) (re_v 1) (re_ix (room1 hr) (re_fld (fun c hc => by rw [List.mem_singleton.mp hc]; exact ⟨T.cls_Web, T.at_Web_both⟩) (re_v 0)) re_int) (by rfl))))))
theorem bd_check_place {K : PySem.W.Frag} {mg : Str → Option Value} {cl : Str → Addr} (T : Fx K mg cl) : Binds K T.d_check_place ["web", "place"] [] := T.F_check_place.bindsN fun _ _ _ _ _ _ us hl => match us, hl with | [_, _], _ => rfl
theorem ok_check_place {P : Program} {w : World} {K : PySem.W.Frag} {mg : Str → Option Value} {base : Heap} {cl : Str → Addr} (T : Fx K mg cl) : FnOk P w K mg base (L2.CX P w) 3 T.a_check_place T.d_check_place ["web", "place"] (spD K cl F_check_place) :=
  fn_D (k := 2) (N := ["web", "place"]) (g := g_check_place) T.F_check_place sc_check_place fun F cdv A outer s H E hr =>
    (rs_one (rs_if (rt_cmp (od_notInOwn T.me_Web___contains__.at_ T.me_Web___contains__.fn (ok_Web___contains__ T) (hr.mono (by omega)) (bd_Web___contains__ T)) (re_v 1) (re_v 0) (by rfl)) (rs_one rs_never) rs_nil))
theorem bd_check_goal {K : PySem.W.Frag} {mg : Str → Option Value} {cl : Str → Addr} (T : Fx K mg cl) : Binds K T.d_check_goal ["web", "start", "goal"] [] := T.F_check_goal.bindsN fun _ _ _ _ _ _ us hl => match us, hl with | [_, _, _], _ => rfl
theorem ok_check_goal {P : Program} {w : World} {K : PySem.W.Frag} {mg : Str → Option Value} {base : Heap} {cl : Str → Addr} (T : Fx K mg cl) : FnOk P w K mg base (L2.CX P w) 4 T.a_check_goal T.d_check_goal ["web", "start", "goal"] (spD K cl F_check_goal) :=
  fn_D (k := 3) (N := ["web", "start", "goal"]) (g := g_check_goal) T.F_check_goal sc_check_goal fun F cdv A outer s H E hr =>
    (rs_cons (rs_expr (re_call (ok_check_place T) (hr.mono (by omega)) (takes_of rfl rfl rfl rfl) rfl T.m_check_place T.F_check_place.kp (bd_check_place T) (ra_cons (re_v 0) (ra_cons (re_v 1) ra_nil))))
    (rs_cons (rs_expr (re_call (ok_check_place T) (hr.mono (by omega)) (takes_of rfl rfl rfl rfl) rfl T.m_check_place T.F_check_place.kp (bd_check_place T) (ra_cons (re_v 0) (ra_cons (re_v 2) ra_nil))))
    (rs_one (rs_if (rt_cmp (od_eq (room64 hr)) (re_v 1) (re_v 2) (nomark _)) (rs_one rs_never) rs_nil))))
theorem bd_longer_paths {K : PySem.W.Frag} {mg : Str → Option Value} {cl : Str → Addr} (T : Fx K mg cl) : Binds K T.d_longer_paths ["beside", "row", "goal"] [] := T.F_longer_paths.bindsN fun _ _ _ _ _ _ us hl => match us, hl with | [_, _, _], _ => rfl
theorem ok_longer_paths {P : Program} {w : World} {K : PySem.W.Frag} {mg : Str → Option Value} {base : Heap} {cl : Str → Addr} (T : Fx K mg cl) : ∀ n : Nat, FnOk P w K mg base (L2.CX P w) (0 + n) T.a_longer_paths T.d_longer_paths ["beside", "row", "goal"] (spD K cl (F_longer_paths n))
  | 0 => fn_bad
  | n + 1 => by
    have ih := ok_longer_paths (P := P) (w := w) (base := base) T n
    exact fn_D (k := 0 + n) (N := ["beside", "row", "goal", "found", "place"]) (g := g_longer_paths (F_longer_paths n)) T.F_longer_paths sc_longer_paths fun F cdv A outer s H E hr =>
    (rs_cons (rs_own sc_longer_paths.nd (rf_lst ra_nil))
    (rs_cons (rs_for (passes_of rfl) rfl (ri_seq (re_ix (room1 hr) (re_v 0) (re_ix (room1 hr) (re_v 1) (re_neg re_int)))) (rg_n 4 sc_longer_paths.nd) (rs_one (rs_if (rt_cmp (od_eq (room64 hr)) (re_v 4) (re_v 2) (nomark _)) (rs_one (rs_expr (re_app 3 (re_op od_add (re_v 1) (re_tup (ra_cons (re_v 2) ra_nil)))))) (rs_one (rs_if (rt_cmp (od_notIn (room65 hr)) (re_v 4) (re_v 1) (by rfl)) (rs_one (rs_own sc_longer_paths.nd (rf_add (re_v 3) (re_call ih hr (takes_of rfl rfl rfl rfl) rfl T.m_longer_paths T.F_longer_paths.kp (bd_longer_paths T) (ra_cons (re_v 0) (ra_cons (re_op od_add (re_v 1) (re_tup (ra_cons (re_v 4) ra_nil))) (ra_cons (re_v 2) ra_nil))))))) rs_nil)))))
    (rs_one (rs_ret (re_v 3)))))
theorem bd_Web_places {K : PySem.W.Frag} {mg : Str → Option Value} {cl : Str → Addr} (T : Fx K mg cl) : Binds K T.d_Web_places ["self"] [] := T.F_Web_places.bindsN fun _ _ _ _ _ _ us hl => match us, hl with | [_], _ => rfl
theorem ok_Web_places {P : Program} {w : World} {K : PySem.W.Frag} {mg : Str → Option Value} {base : Heap} {cl : Str → Addr} (T : Fx K mg cl) : FnOk P w K mg base (L2.CX P w) 1 T.a_Web_places T.d_Web_places ["self"] (spD K cl F_Web_places) :=
  fn_D (k := 0) (N := ["self"]) (g := g_Web_places) T.F_Web_places sc_Web_places fun F cdv A outer s H E hr =>
    (rs_one (rs_ret (re_ix (room1 hr) (re_fld (fun c hc => by rw [List.mem_singleton.mp hc]; exact ⟨T.cls_Web, T.at_Web_both⟩) (re_v 0)) re_int)))
theorem nx_Web_places : ∀ d x j, F_Web_places [.dat d] [] ≠ .exn x j := nx_fn (g := g_Web_places) (by unfold g_Web_places; exact nx_ret (nx_op (nx_fld nx_var) nx_c))
theorem bd_Web_ties {K : PySem.W.Frag} {mg : Str → Option Value} {cl : Str → Addr} (T : Fx K mg cl) : Binds K T.d_Web_ties ["self"] [] := T.F_Web_ties.bindsN fun _ _ _ _ _ _ us hl => match us, hl with | [_], _ => rfl
theorem ok_Web_ties {P : Program} {w : World} {K : PySem.W.Frag} {mg : Str → Option Value} {base : Heap} {cl : Str → Addr} (T : Fx K mg cl) : FnOk P w K mg base (L2.CX P w) 1 T.a_Web_ties T.d_Web_ties ["self"] (spD K cl F_Web_ties) :=
  fn_D (k := 0) (N := ["self"]) (g := g_Web_ties) T.F_Web_ties sc_Web_ties fun F cdv A outer s H E hr =>
    (rs_one (rs_ret (re_ix (room1 hr) (re_fld (fun c hc => by rw [List.mem_singleton.mp hc]; exact ⟨T.cls_Web, T.at_Web_both⟩) (re_v 0)) re_int)))
theorem nx_Web_ties : ∀ d x j, F_Web_ties [.dat d] [] ≠ .exn x j := nx_fn (g := g_Web_ties) (by unfold g_Web_ties; exact nx_ret (nx_op (nx_fld nx_var) nx_c))
theorem bd_beside_in {K : PySem.W.Frag} {mg : Str → Option Value} {cl : Str → Addr} (T : Fx K mg cl) : Binds K T.d_beside_in ["web", "place"] [] := T.F_beside_in.bindsN fun _ _ _ _ _ _ us hl => match us, hl with | [_, _], _ => rfl
theorem ok_beside_in {P : Program} {w : World} {K : PySem.W.Frag} {mg : Str → Option Value} {base : Heap} {cl : Str → Addr} (T : Fx K mg cl) : FnOk P w K mg base (L2.CX P w) 3 T.a_beside_in T.d_beside_in ["web", "place"] (spD K cl F_beside_in) :=
  fn_D (k := 2) (N := ["web", "place", "found", "tie"]) (g := g_beside_in) T.F_beside_in sc_beside_in fun F cdv A outer s H E hr =>
    (rs_cons (rs_asg sc_beside_in.nd (re_op od_add (re_lc (own := [("tie", 3)]) rfl sc_beside_in.nd (ri_seq (re_prop T.cls_Web T.pr_Web_ties (ok_Web_ties T) (hr.mono (by omega)) (bd_Web_ties T) nx_Web_ties (re_v 0))) (blkOk_by (by kernel_rfl)) (fun _ _ _ _ _ => (rg_n 3 sc_beside_in.nd)) (fun _ _ _ _ _ => (rts_one (rt_cmp (od_eq (room64 hr)) (re_ix (room1 hr) (re_v 3) re_int) (re_v 1) (nomark _)))) (fun _ _ _ _ _ => (re_ix (room1 hr) (re_v 3) re_int))) (re_lc (own := [("tie", 3)]) rfl sc_beside_in.nd (ri_seq (re_prop T.cls_Web T.pr_Web_ties (ok_Web_ties T) (hr.mono (by omega)) (bd_Web_ties T) nx_Web_ties (re_v 0))) (blkOk_by (by kernel_rfl)) (fun _ _ _ _ _ => (rg_n 3 sc_beside_in.nd)) (fun _ _ _ _ _ => (rts_one (rt_cmp (od_eq (room64 hr)) (re_ix (room1 hr) (re_v 3) re_int) (re_v 1) (nomark _)))) (fun _ _ _ _ _ => (re_ix (room1 hr) (re_v 3) re_int)))))
    (rs_one (rs_ret (re_callTy cd_tuple rfl T.n_tuple bt_tuple (ra_cons (re_callB (cd_sorted (room64 hr)) rfl T.n_sorted bt_sorted (ra_cons (re_v 2) ra_nil)) ra_nil)))))
theorem bd_paths {K : PySem.W.Frag} {mg : Str → Option Value} {cl : Str → Addr} (T : Fx K mg cl) : Binds K T.d_paths ["web", "start", "goal"] [] := T.F_paths.bindsN fun _ _ _ _ _ _ us hl => match us, hl with | [_, _, _], _ => rfl
theorem ok_paths {P : Program} {w : World} {K : PySem.W.Frag} {mg : Str → Option Value} {base : Heap} {cl : Str → Addr} (T : Fx K mg cl) : FnOk P w K mg base (L2.CX P w) 13 T.a_paths T.d_paths ["web", "start", "goal"] (spD K cl F_paths) :=
  fn_D (k := 12) (N := ["web", "start", "goal", "place"]) (g := g_paths) T.F_paths sc_paths fun F cdv A outer s H E hr =>
    (rs_one (rs_ret (re_call (ok_longer_paths T 12) (hr.mono (by omega)) (takes_of rfl rfl rfl rfl) rfl T.m_longer_paths T.F_longer_paths.kp (bd_longer_paths T) (ra_cons (re_dc (own := [("place", 3)]) rfl sc_paths.nd (ri_seq (re_prop T.cls_Web T.pr_Web_places (ok_Web_places T) (hr.mono (by omega)) (bd_Web_places T) nx_Web_places (re_v 0))) (blkOk_by (by kernel_rfl)) (fun _ _ _ _ _ => (rg_n 3 sc_paths.nd)) (fun _ _ _ _ _ => rts_nil) (fun _ _ _ _ _ => (re_v 3)) (fun _ _ _ _ _ => (re_call (ok_beside_in T) (hr.mono (by omega)) takes0 rfl T.m_beside_in T.F_beside_in.kp (bd_beside_in T) (ra_cons (re_v 0) (ra_cons (re_v 3) ra_nil))))) (ra_cons (re_tup (ra_cons (re_v 1) ra_nil)) (ra_cons (re_v 2) ra_nil))))))
theorem bd_Web_rows {K : PySem.W.Frag} {mg : Str → Option Value} {cl : Str → Addr} (T : Fx K mg cl) : Binds K T.d_Web_rows ["self", "start", "goal"] [] := T.F_Web_rows.bindsN fun _ _ _ _ _ _ us hl => match us, hl with | [_, _, _], _ => rfl
theorem kb_Web_rows_0_goal_start {K : PySem.W.Frag} {mg : Str → Option Value} {cl : Str → Addr} (T : Fx K mg cl) : KBp K T.d_Web_rows ["self", "start", "goal"] 1 ["goal", "start"] [0, 2, 1] := kb_p T.F_Web_rows 1 ["goal", "start"] [0, 2, 1] fun _ _ _ _ _ _ us ws h1 h2 => match us, ws, h1, h2 with | [_], [_, _], _, _ => rfl
theorem ok_Web_rows {P : Program} {w : World} {K : PySem.W.Frag} {mg : Str → Option Value} {base : Heap} {cl : Str → Addr} (T : Fx K mg cl) : FnOk P w K mg base (L2.CX P w) 14 T.a_Web_rows T.d_Web_rows ["self", "start", "goal"] (spD K cl F_Web_rows) :=
  fn_D (k := 13) (N := ["self", "start", "goal"]) (g := g_Web_rows) T.F_Web_rows sc_Web_rows fun F cdv A outer s H E hr =>
    (rs_cons (rs_expr (re_call (ok_check_goal T) (hr.mono (by omega)) (takes_of rfl rfl rfl rfl) rfl T.m_check_goal T.F_check_goal.kp (bd_check_goal T) (ra_cons (re_v 0) (ra_cons (re_v 1) (ra_cons (re_v 2) ra_nil)))))
    (rs_one (rs_ret (re_callTy cd_tuple rfl T.n_tuple bt_tuple (ra_cons (re_call (ok_paths T) (hr.mono (by omega)) (takes_of rfl rfl rfl rfl) rfl T.m_paths T.F_paths.kp (bd_paths T) (ra_cons (re_v 0) (ra_cons (re_v 1) (ra_cons (re_v 2) ra_nil)))) ra_nil)))))
theorem bd__law_ends {K : PySem.W.Frag} {mg : Str → Option Value} {cl : Str → Addr} (T : Fx K mg cl) : Binds K T.d__law_ends ["_law_jar_here", "_law_net_here"] [] := T.F__law_ends.bindsN fun _ _ _ _ _ _ us hl => match us, hl with | [_, _], _ => rfl
theorem ok__law_ends {P : Program} {w : World} {K : PySem.W.Frag} {mg : Str → Option Value} {base : Heap} {cl : Str → Addr} (T : Fx K mg cl) : FnOk P w K mg base (L2.CX P w) 3 T.a__law_ends T.d__law_ends ["_law_jar_here", "_law_net_here"] (spD K cl F__law_ends) :=
  fn_D (k := 2) (N := ["_law_jar_here", "_law_net_here", "_law_at", "_law_rest", "_law_spot"]) (g := g__law_ends) T.F__law_ends sc__law_ends fun F cdv A outer s H E hr =>
    (rs_cons (rs_asg sc__law_ends.nd (re_callJ (ok__law_dip T) (hr.mono (by omega)) (takes_of rfl rfl rfl rfl) rfl T.m__law_dip T.F__law_dip.kp (bd__law_dip T) (ra_cons (re_v 0) (ra_cons (re_callB cd_len rfl T.n_len bt_len (ra_cons (re_ix (room1 hr) (re_v 1) re_int) ra_nil)) ra_nil))))
    (rs_cons (rs_setLc (own := [("_law_spot", 4)]) rfl sc__law_ends.nd (ri_seq (re_ix (room1 hr) (re_v 1) re_int)) (blkOk_by (by kernel_rfl)) (fun _ _ _ _ _ => (rg_n 4 sc__law_ends.nd)) (fun _ _ _ _ _ => (rts_one (rt_cmp (od_ne (room64 hr)) (re_v 4) (re_ix (room1 hr) (re_ix (room1 hr) (re_v 1) re_int) (re_v 2)) (nomark _)))) (fun _ _ _ _ _ => (re_v 4)) (sw_true rfl rfl rfl (by decide +kernel)))
    (rs_one (rs_ret (re_tup (ra_cons (re_ix (room1 hr) (re_ix (room1 hr) (re_v 1) re_int) (re_v 2)) (ra_cons (re_callJ (ok__law_pick T) (hr.mono (by omega)) (takes_of rfl rfl rfl rfl) rfl T.m__law_pick T.F__law_pick.kp (bd__law_pick T) (ra_cons (re_v 0) (ra_cons (re_v 3) ra_nil))) ra_nil)))))))
theorem bd__law_right {K : PySem.W.Frag} {mg : Str → Option Value} {cl : Str → Addr} (T : Fx K mg cl) : Binds K T.d__law_right ["_law_jar_here"] [] := T.F__law_right.bindsN fun _ _ _ _ _ _ us hl => match us, hl with | [_], _ => rfl
theorem ok__law_right {P : Program} {w : World} {K : PySem.W.Frag} {mg : Str → Option Value} {base : Heap} {cl : Str → Addr} (T : Fx K mg cl) : FnG P w K mg base 15 T.a__law_right T.d__law_right ["_law_jar_here"] (spD K cl F__law_right) :=
  fnG_D (k := 14) (N := ["_law_jar_here", "_law_net_here", "_law_pairs", "_law_spot", "_law_other_spot", "_law_mine", "_law_begin", "_law_last", "_law_due", "_law_line", "_law_turn"]) (g := g__law_right) T.F__law_right sc__law_right fun F cdv A outer s H E hr hG =>
    (rs_cons (rs_asg sc__law_right.nd (re_callJ (ok__law_net T) (hr.mono (by omega)) (takes_of rfl rfl rfl rfl) rfl T.m__law_net T.F__law_net.kp (bd__law_net T) (ra_cons (re_v 0) (ra_cons re_int (ra_cons re_int (ra_cons re_int ra_nil))))))
    (rs_cons (rs_asg sc__law_right.nd (re_lst ra_nil))
    (rs_cons (rs_for (passes_of rfl) rfl (ri_seq (re_ix (room1 hr) (re_v 1) re_int)) (rg_n 3 sc__law_right.nd) (rs_one (rs_asg sc__law_right.nd (re_op od_add (re_v 2) (re_lc (own := [("_law_other_spot", 4)]) rfl sc__law_right.nd (ri_seq (re_ix (room1 hr) (re_v 1) re_int)) (blkOk_by (by kernel_rfl)) (fun _ _ _ _ _ => (rg_n 4 sc__law_right.nd)) (fun _ _ _ _ _ => (rts_one (rt_cmp (od_ne (room64 hr)) (re_v 4) (re_v 3) (nomark _)))) (fun _ _ _ _ _ => (re_tup (ra_cons (re_v 3) (ra_cons (re_v 4) ra_nil)))))))))
    (rs_cons (rs_asg sc__law_right.nd (re_call (ok__law_made T) (hr.mono (by omega)) (takes_of rfl rfl rfl rfl) rfl T.m__law_made T.F__law_made.kp (bd__law_made T) (ra_cons (re_v 1) ra_nil)))
    (rs_cons (rs_for (passes_of rfl) rfl (ri_seq (re_v 2)) (rg_t rfl (rgs_cons (rg_n 6 sc__law_right.nd) (rgs_cons (rg_n 7 sc__law_right.nd) rgs_nil))) (rs_cons (rs_asg sc__law_right.nd (re_callTy cd_tuple rfl T.n_tuple bt_tuple (ra_cons (re_call (ok__law_lines T) (hr.mono (by omega)) (takes_of rfl rfl rfl rfl) rfl T.m__law_lines T.F__law_lines.kp (bd__law_lines T) (ra_cons (re_v 1) (ra_cons (re_v 6) (ra_cons (re_v 7) ra_nil)))) ra_nil)))
    (rs_cons (rs_if (rt_cmp (od_ne (room64 hr)) (re_callB (cd_repr hG (room64 hr)) rfl T.n_repr bt_repr (ra_cons (re_lst (ra_cons (re_meth T.cls_Web T.me_Web_rows (ok_Web_rows T) (hr.mono (by omega)) (takes_of rfl rfl rfl rfl) si0 (bd_Web_rows T) (re_v 5) (ra_cons (re_v 6) (ra_cons (re_v 7) ra_nil))) (ra_cons (re_methK0 (ks := ["goal", "start"]) T.cls_Web T.me_Web_rows (ok_Web_rows T) (hr.mono (by omega)) (takes_of rfl rfl rfl rfl) si0 (kb_Web_rows_0_goal_start T) (re_v 5) (rk_cons (re_v 7) (rk_cons (re_v 6) rk_nil))) ra_nil))) ra_nil)) (re_callB (cd_repr hG (room64 hr)) rfl T.n_repr bt_repr (ra_cons (re_lst (ra_cons (re_v 8) (ra_cons (re_v 8) ra_nil))) ra_nil)) (nomark _)) (rs_one (rs_ret re_bl)) rs_nil)
    (rs_one (rs_if (rt_cmp (od_ne (room64 hr)) (re_callTy cd_tuple rfl T.n_tuple bt_tuple (ra_cons (re_callB (cd_sorted (room64 hr)) rfl T.n_sorted bt_sorted (ra_cons (re_lc (own := [("_law_line", 9)]) rfl sc__law_right.nd (ri_seq (re_meth T.cls_Web T.me_Web_rows (ok_Web_rows T) (hr.mono (by omega)) (takes_of rfl rfl rfl rfl) si0 (bd_Web_rows T) (re_v 5) (ra_cons (re_v 7) (ra_cons (re_v 6) ra_nil)))) (blkOk_by (by kernel_rfl)) (fun _ _ _ _ _ => (rg_n 9 sc__law_right.nd)) (fun _ _ _ _ _ => rts_nil) (fun _ _ _ _ _ => (re_revT (re_v 9)))) ra_nil)) ra_nil)) (re_v 8) (nomark _)) (rs_one (rs_ret re_bl)) rs_nil)))))
    (rs_cons (rs_asg sc__law_right.nd (re_callJ (ok__law_net T) (hr.mono (by omega)) (takes_of rfl rfl rfl rfl) rfl T.m__law_net T.F__law_net.kp (bd__law_net T) (ra_cons (re_v 0) (ra_cons re_int (ra_cons re_int (ra_cons re_int ra_nil))))))
    (rs_cons (rs_asg sc__law_right.nd (re_call (ok__law_made T) (hr.mono (by omega)) (takes_of rfl rfl rfl rfl) rfl T.m__law_made T.F__law_made.kp (bd__law_made T) (ra_cons (re_v 1) ra_nil)))
    (rs_cons (rs_for (passes_of rfl) rfl (ri_range1 rfl T.n_range (ra_cons re_int ra_nil)) (rg_n 10 sc__law_right.nd) (rs_cons (rs_asgT (re_callJ (ok__law_ends T) (hr.mono (by omega)) (takes_of rfl rfl rfl rfl) rfl T.m__law_ends T.F__law_ends.kp (bd__law_ends T) (ra_cons (re_v 0) (ra_cons (re_v 1) ra_nil))) (rg_t rfl (rgs_cons (rg_n 6 sc__law_right.nd) (rgs_cons (rg_n 7 sc__law_right.nd) rgs_nil))))
    (rs_one (rs_if (rt_cmp (od_ne (room64 hr)) (re_callB (cd_repr hG (room64 hr)) rfl T.n_repr bt_repr (ra_cons (re_meth T.cls_Web T.me_Web_rows (ok_Web_rows T) (hr.mono (by omega)) (takes_of rfl rfl rfl rfl) si0 (bd_Web_rows T) (re_v 5) (ra_cons (re_v 6) (ra_cons (re_v 7) ra_nil))) ra_nil)) (re_callB (cd_repr hG (room64 hr)) rfl T.n_repr bt_repr (ra_cons (re_callTy cd_tuple rfl T.n_tuple bt_tuple (ra_cons (re_call (ok__law_lines T) (hr.mono (by omega)) (takes_of rfl rfl rfl rfl) rfl T.m__law_lines T.F__law_lines.kp (bd__law_lines T) (ra_cons (re_v 1) (ra_cons (re_v 6) (ra_cons (re_v 7) ra_nil)))) ra_nil)) ra_nil)) (nomark _)) (rs_one (rs_ret re_bl)) rs_nil))))
    (rs_one (rs_ret re_bl))))))))))
theorem bd__law_jar {K : PySem.W.Frag} {mg : Str → Option Value} {cl : Str → Addr} (T : Fx K mg cl) : Binds K T.d__law_jar ["_law_script", "_law_k"] [] := T.F__law_jar.bindsN fun _ _ _ _ _ _ us hl => match us, hl with | [_, _], _ => rfl
theorem ok__law_jar {P : Program} {w : World} {K : PySem.W.Frag} {mg : Str → Option Value} {base : Heap} {cl : Str → Addr} (T : Fx K mg cl) : FnOk P w K mg base (L2.CX P w) 1 T.a__law_jar T.d__law_jar ["_law_script", "_law_k"] (spN K cl F__law_jar) :=
  fn_N (k := 0) (N := ["_law_script", "_law_k", "_law_mixed", "_law_cell", "_law_own", "_law_digits"]) (g := g__law_jar) T.F__law_jar sc__law_jar fun F cdv A outer s H E hr =>
    (rn_cons (rs_asg sc__law_jar.nd (re_op od_add (re_op od_mul (re_op od_mul re_int (re_op od_add (re_v 1) re_int)) (re_op od_add (re_v 1) re_int)) (re_op od_mul re_int (re_callB cd_len rfl T.n_len bt_len (ra_cons (re_v 0) ra_nil)))))
    (rn_cons (rs_for (passes_of rfl) rfl (ri_seq (re_sl (re_v 0) ro_none (ro_some re_int))) (rg_n 3 sc__law_jar.nd) (rs_one (rs_asg sc__law_jar.nd (re_op od_mod (re_callTy cd_int rfl T.n_int bt_int (ra_cons (re_op od_add (re_op od_mul (re_v 2) re_int) (re_v 3)) ra_nil)) re_int))))
    (rn_cons (rs_asg sc__law_jar.nd (re_if (rt_cmp od_lt (re_v 1) (re_callB cd_len rfl T.n_len bt_len (ra_cons (re_v 0) ra_nil)) (nomark _)) (re_ix (room1 hr) (re_v 0) (re_v 1)) re_int))
    (rn_cons (rs_asg sc__law_jar.nd (re_if (rt_w (rw_or (rt_cmp od_lt (re_v 4) re_int (nomark _)) (rw_or1 (rt_cmp od_ge (re_v 4) (re_op od_pow re_int re_int) (nomark _))))) (re_callB cd_abs rfl T.n_abs bt_abs (ra_cons (re_v 4) ra_nil)) re_int))
    (rn_ret (rf_lst (ra_cons (re_v 5) (ra_cons (re_op od_mod (re_callTy cd_int rfl T.n_int bt_int (ra_cons (re_op od_add (re_op od_add (re_op od_mul (re_v 2) re_int) (re_op od_mul (re_v 4) re_int)) (re_op od_mul re_int (re_op od_add (re_v 1) re_int))) ra_nil)) re_int) (ra_cons re_int ra_nil)))))))))
theorem bd_law {K : PySem.W.Frag} {mg : Str → Option Value} {cl : Str → Addr} (T : Fx K mg cl) : Binds K T.d_law ["_law_script"] [] := T.F_law.bindsN fun _ _ _ _ _ _ us hl => match us, hl with | [_], _ => rfl
theorem ok_law {P : Program} {w : World} {K : PySem.W.Frag} {mg : Str → Option Value} {base : Heap} {cl : Str → Addr} (T : Fx K mg cl) : FnG P w K mg base 16 T.a_law T.d_law ["_law_script"] (spD K cl F_law) :=
  fnG_D (k := 15) (N := ["_law_script", "_law_k"]) (g := g_law) T.F_law sc_law fun F cdv A outer s H E hr hG =>
    (rs_cons (rs_for (passes_of rfl) rfl (ri_range1 rfl T.n_range (ra_cons (re_callB (cd_max2 rfl) rfl T.n_max bt_max (ra_cons re_int (ra_cons (re_callB (cd_min2 rfl) rfl T.n_min bt_min (ra_cons (re_callB cd_len rfl T.n_len bt_len (ra_cons (re_v 0) ra_nil)) (ra_cons re_int ra_nil))) ra_nil))) ra_nil)) (rg_n 1 sc_law.nd) (rs_one (rs_if (rt_not (rt_tru (re_callGT (ok__law_right T) hG (hr.mono (by omega)) (takes_of rfl rfl rfl rfl) rfl T.m__law_right T.F__law_right.kp (bd__law_right T) (rf_call (ok__law_jar T) (hr.mono (by omega)) (takes_of rfl rfl rfl rfl) rfl T.m__law_jar T.F__law_jar.kp (bd__law_jar T) (ra_cons (re_v 0) (ra_cons (re_v 1) ra_nil)))))) (rs_one (rs_ret re_bl)) rs_nil)))
    (rs_one (rs_ret re_bl)))
/-! the head -/
def fa : List He.Fa := [.free "abs", .free "all", .free "int", .free "isinstance", .free "len", .free "max", .free "min", .free "range", .free "repr", .free "sorted", .free "str", .free "tuple", .int "LONGEST" 8, .int "MOST_PLACES" 9, .int "MOST_TIES" 16, .str "SMALL" "abcdefghijklmnopqrstuvwxyz", .glo "_law_dip", .glo "_law_names", .glo "_law_pick", .glo "_law_net", .glo "is_name", .glo "check_places", .glo "is_pair", .glo "is_tie", .glo "index_in", .glo "check_ties", .glo "_law_made", .glo "_law_near", .glo "_law_lines", .glo "check_place", .glo "check_goal", .glo "longer_paths", .glo "beside_in", .glo "paths", .glo "_law_ends", .glo "_law_right", .glo "_law_jar", .glo "law", .glo "Web", .cls "Web", .mkr "Web", .noat "Web" "both", .meth "Web" "__contains__", .meth "Web" "rows"]
def fc : List Fc := [.prp "Web" "places", .prp "Web" "ties", .ins "Web", .own "Web" "Web" true]
def e__law_dip : Df := ⟨.g "_law_dip", "_law_dip", "_law_dip", defArgs S__law_dip, defBody S__law_dip, defScope S__law_dip⟩
def e__law_names : Df := ⟨.g "_law_names", "_law_names", "_law_names", defArgs S__law_names, defBody S__law_names, defScope S__law_names⟩
def e__law_pick : Df := ⟨.g "_law_pick", "_law_pick", "_law_pick", defArgs S__law_pick, defBody S__law_pick, defScope S__law_pick⟩
def e__law_net : Df := ⟨.g "_law_net", "_law_net", "_law_net", defArgs S__law_net, defBody S__law_net, defScope S__law_net⟩
def e_is_name : Df := ⟨.g "is_name", "is_name", "is_name", defArgs S_is_name, defBody S_is_name, defScope S_is_name⟩
def e_check_places : Df := ⟨.g "check_places", "check_places", "check_places", defArgs S_check_places, defBody S_check_places, defScope S_check_places⟩
def e_is_pair : Df := ⟨.g "is_pair", "is_pair", "is_pair", defArgs S_is_pair, defBody S_is_pair, defScope S_is_pair⟩
def e_is_tie : Df := ⟨.g "is_tie", "is_tie", "is_tie", defArgs S_is_tie, defBody S_is_tie, defScope S_is_tie⟩
def e_index_in : Df := ⟨.g "index_in", "index_in", "index_in", defArgs S_index_in, defBody S_index_in, defScope S_index_in⟩
def e_check_ties : Df := ⟨.g "check_ties", "check_ties", "check_ties", defArgs S_check_ties, defBody S_check_ties, defScope S_check_ties⟩
def e_Web___init__ : Df := ⟨.m "Web" "__init__", "__init__", "Web.__init__", defArgs S_Web___init__, defBody S_Web___init__, defScope S_Web___init__⟩
def e__law_made : Df := ⟨.g "_law_made", "_law_made", "_law_made", defArgs S__law_made, defBody S__law_made, defScope S__law_made⟩
def e__law_near : Df := ⟨.g "_law_near", "_law_near", "_law_near", defArgs S__law_near, defBody S__law_near, defScope S__law_near⟩
def e__law_lines : Df := ⟨.g "_law_lines", "_law_lines", "_law_lines", defArgs S__law_lines, defBody S__law_lines, defScope S__law_lines⟩
def e_Web___contains__ : Df := ⟨.m "Web" "__contains__", "__contains__", "Web.__contains__", defArgs S_Web___contains__, defBody S_Web___contains__, defScope S_Web___contains__⟩
def e_check_place : Df := ⟨.g "check_place", "check_place", "check_place", defArgs S_check_place, defBody S_check_place, defScope S_check_place⟩
def e_check_goal : Df := ⟨.g "check_goal", "check_goal", "check_goal", defArgs S_check_goal, defBody S_check_goal, defScope S_check_goal⟩
def e_longer_paths : Df := ⟨.g "longer_paths", "longer_paths", "longer_paths", defArgs S_longer_paths, defBody S_longer_paths, defScope S_longer_paths⟩
def e_Web_places : Df := ⟨.p "Web" "places", "places", "Web.places", defArgs S_Web_places, defBody S_Web_places, defScope S_Web_places⟩
def e_Web_ties : Df := ⟨.p "Web" "ties", "ties", "Web.ties", defArgs S_Web_ties, defBody S_Web_ties, defScope S_Web_ties⟩
def e_beside_in : Df := ⟨.g "beside_in", "beside_in", "beside_in", defArgs S_beside_in, defBody S_beside_in, defScope S_beside_in⟩
def e_paths : Df := ⟨.g "paths", "paths", "paths", defArgs S_paths, defBody S_paths, defScope S_paths⟩
def e_Web_rows : Df := ⟨.m "Web" "rows", "rows", "Web.rows", defArgs S_Web_rows, defBody S_Web_rows, defScope S_Web_rows⟩
def e__law_ends : Df := ⟨.g "_law_ends", "_law_ends", "_law_ends", defArgs S__law_ends, defBody S__law_ends, defScope S__law_ends⟩
def e__law_right : Df := ⟨.g "_law_right", "_law_right", "_law_right", defArgs S__law_right, defBody S__law_right, defScope S__law_right⟩
def e__law_jar : Df := ⟨.g "_law_jar", "_law_jar", "_law_jar", defArgs S__law_jar, defBody S__law_jar, defScope S__law_jar⟩
def e_law : Df := ⟨.g "law", "law", "law", defArgs S_law, defBody S_law, defScope S_law⟩
def fn : List Df := [e__law_dip, e__law_names, e__law_pick, e__law_net, e_is_name, e_check_places, e_is_pair, e_is_tie, e_index_in, e_check_ties, e_Web___init__, e__law_made, e__law_near, e__law_lines, e_Web___contains__, e_check_place, e_check_goal, e_longer_paths, e_Web_places, e_Web_ties, e_beside_in, e_paths, e_Web_rows, e__law_ends, e__law_right, e__law_jar, e_law]
abbrev R : PySem.W.OpenRow := PySem.W.OpenLaw.row PySem.Challenge.rw_hurryways_k04_whole_rows_of_a_web
abbrev hk : PySem.W.Hook := hookX 6 fa fc fn
def ob (s : PySem.W.SharedT) : AlX := obsXG 6 fa fc fn (HandSHeadRun.getT s)
theorem ob_eq (s : PySem.W.SharedT) : ob s = hk.obs s.abs := obsXG_eq (HandSHeadRun.getT_eq s)
def clK (K : PySem.W.Frag) (c : Str) : Addr := He.ga K c
theorem facts {K : PySem.W.Frag} {h : Heap} {mg : Str → Option Value} (KX : K.In h) (G : h.Ns mainGlobals mg) (c : SaysX fa fc fn K) : ∃ T : Fx K mg (clK K), T.a_law = He.ga K "law" := by
  obtain ⟨d0, f0⟩ := c.df 0 (d := e__law_dip) rfl
  obtain ⟨d1, f1⟩ := c.df 1 (d := e__law_names) rfl
  obtain ⟨d2, f2⟩ := c.df 2 (d := e__law_pick) rfl
  obtain ⟨d3, f3⟩ := c.df 3 (d := e__law_net) rfl
  obtain ⟨d4, f4⟩ := c.df 4 (d := e_is_name) rfl
  obtain ⟨d5, f5⟩ := c.df 5 (d := e_check_places) rfl
  obtain ⟨d6, f6⟩ := c.df 6 (d := e_is_pair) rfl
  obtain ⟨d7, f7⟩ := c.df 7 (d := e_is_tie) rfl
  obtain ⟨d8, f8⟩ := c.df 8 (d := e_index_in) rfl
  obtain ⟨d9, f9⟩ := c.df 9 (d := e_check_ties) rfl
  obtain ⟨d10, f10⟩ := c.df 10 (d := e_Web___init__) rfl
  obtain ⟨d11, f11⟩ := c.df 11 (d := e__law_made) rfl
  obtain ⟨d12, f12⟩ := c.df 12 (d := e__law_near) rfl
  obtain ⟨d13, f13⟩ := c.df 13 (d := e__law_lines) rfl
  obtain ⟨d14, f14⟩ := c.df 14 (d := e_Web___contains__) rfl
  obtain ⟨d15, f15⟩ := c.df 15 (d := e_check_place) rfl
  obtain ⟨d16, f16⟩ := c.df 16 (d := e_check_goal) rfl
  obtain ⟨d17, f17⟩ := c.df 17 (d := e_longer_paths) rfl
  obtain ⟨d18, f18⟩ := c.df 18 (d := e_Web_places) rfl
  obtain ⟨d19, f19⟩ := c.df 19 (d := e_Web_ties) rfl
  obtain ⟨d20, f20⟩ := c.df 20 (d := e_beside_in) rfl
  obtain ⟨d21, f21⟩ := c.df 21 (d := e_paths) rfl
  obtain ⟨d22, f22⟩ := c.df 22 (d := e_Web_rows) rfl
  obtain ⟨d23, f23⟩ := c.df 23 (d := e__law_ends) rfl
  obtain ⟨d24, f24⟩ := c.df 24 (d := e__law_right) rfl
  obtain ⟨d25, f25⟩ := c.df 25 (d := e__law_jar) rfl
  obtain ⟨d26, f26⟩ := c.df 26 (d := e_law) rfl
  have cls_Web := He.cls_ok (c.fact 39 rfl)
  exact ⟨{ n_abs := He.free_ok KX G (c.fact 0 rfl), n_all := He.free_ok KX G (c.fact 1 rfl), n_int := He.free_ok KX G (c.fact 2 rfl), n_isinstance := He.free_ok KX G (c.fact 3 rfl), n_len := He.free_ok KX G (c.fact 4 rfl), n_max := He.free_ok KX G (c.fact 5 rfl), n_min := He.free_ok KX G (c.fact 6 rfl), n_range := He.free_ok KX G (c.fact 7 rfl), n_repr := He.free_ok KX G (c.fact 8 rfl), n_sorted := He.free_ok KX G (c.fact 9 rfl), n_str := He.free_ok KX G (c.fact 10 rfl), n_tuple := He.free_ok KX G (c.fact 11 rfl), i_LONGEST := He.int_ok KX G (c.fact 12 rfl), i_MOST_PLACES := He.int_ok KX G (c.fact 13 rfl), i_MOST_TIES := He.int_ok KX G (c.fact 14 rfl), s_SMALL := He.str_ok KX G (c.fact 15 rfl), a__law_dip := _, d__law_dip := d0, F__law_dip := f0, m__law_dip := He.glo_ok KX G (c.fact 16 rfl), a__law_names := _, d__law_names := d1, F__law_names := f1, m__law_names := He.glo_ok KX G (c.fact 17 rfl), a__law_pick := _, d__law_pick := d2, F__law_pick := f2, m__law_pick := He.glo_ok KX G (c.fact 18 rfl), a__law_net := _, d__law_net := d3, F__law_net := f3, m__law_net := He.glo_ok KX G (c.fact 19 rfl), a_is_name := _, d_is_name := d4, F_is_name := f4, m_is_name := He.glo_ok KX G (c.fact 20 rfl), a_check_places := _, d_check_places := d5, F_check_places := f5, m_check_places := He.glo_ok KX G (c.fact 21 rfl), a_is_pair := _, d_is_pair := d6, F_is_pair := f6, m_is_pair := He.glo_ok KX G (c.fact 22 rfl), a_is_tie := _, d_is_tie := d7, F_is_tie := f7, m_is_tie := He.glo_ok KX G (c.fact 23 rfl), a_index_in := _, d_index_in := d8, F_index_in := f8, m_index_in := He.glo_ok KX G (c.fact 24 rfl), a_check_ties := _, d_check_ties := d9, F_check_ties := f9, m_check_ties := He.glo_ok KX G (c.fact 25 rfl), a_Web___init__ := _, d_Web___init__ := d10, F_Web___init__ := f10, a__law_made := _, d__law_made := d11, F__law_made := f11, m__law_made := He.glo_ok KX G (c.fact 26 rfl), a__law_near := _, d__law_near := d12, F__law_near := f12, m__law_near := He.glo_ok KX G (c.fact 27 rfl), a__law_lines := _, d__law_lines := d13, F__law_lines := f13, m__law_lines := He.glo_ok KX G (c.fact 28 rfl), a_Web___contains__ := _, d_Web___contains__ := d14, F_Web___contains__ := f14, a_check_place := _, d_check_place := d15, F_check_place := f15, m_check_place := He.glo_ok KX G (c.fact 29 rfl), a_check_goal := _, d_check_goal := d16, F_check_goal := f16, m_check_goal := He.glo_ok KX G (c.fact 30 rfl), a_longer_paths := _, d_longer_paths := d17, F_longer_paths := f17, m_longer_paths := He.glo_ok KX G (c.fact 31 rfl), a_Web_places := _, d_Web_places := d18, F_Web_places := f18, a_Web_ties := _, d_Web_ties := d19, F_Web_ties := f19, a_beside_in := _, d_beside_in := d20, F_beside_in := f20, m_beside_in := He.glo_ok KX G (c.fact 32 rfl), a_paths := _, d_paths := d21, F_paths := f21, m_paths := He.glo_ok KX G (c.fact 33 rfl), a_Web_rows := _, d_Web_rows := d22, F_Web_rows := f22, a__law_ends := _, d__law_ends := d23, F__law_ends := f23, m__law_ends := He.glo_ok KX G (c.fact 34 rfl), a__law_right := _, d__law_right := d24, F__law_right := f24, m__law_right := He.glo_ok KX G (c.fact 35 rfl), a__law_jar := _, d__law_jar := d25, F__law_jar := f25, m__law_jar := He.glo_ok KX G (c.fact 36 rfl), a_law := _, d_law := d26, F_law := f26, m_law := He.glo_ok KX G (c.fact 37 rfl), c_Web := He.glo_ok KX G (c.fact 38 rfl), cls_Web := cls_Web, mk_Web := He.mkr_ok (c.fact 40 rfl), at_Web_both := He.noat_ok (c.fact 41 rfl), me_Web___contains__ := He.meth_ok (c.fact 42 rfl), me_Web_rows := He.meth_ok (c.fact 43 rfl), p_Web_places := _, pr_Web_places := Fc.prp_ok (c.more 0 rfl), p_Web_ties := _, pr_Web_ties := Fc.prp_ok (c.more 1 rfl), clsx := ⟨(List.forall_mem_cons.mpr ⟨(Fc.ins_ok (c.more 2 rfl) cls_Web).1, (fun _ h => nomatch h)⟩), (List.forall_mem_cons.mpr ⟨(Fc.ins_ok (c.more 2 rfl) cls_Web).2.1, (fun _ h => nomatch h)⟩), (List.forall_mem_cons.mpr ⟨(Fc.ins_ok (c.more 2 rfl) cls_Web).2.2, (fun _ h => nomatch h)⟩), (List.forall_mem_cons.mpr ⟨(List.forall_mem_cons.mpr ⟨(of_decide_eq_true (c.more 3 rfl)), (fun _ h => nomatch h)⟩), (fun _ h => nomatch h)⟩)⟩ }, rfl⟩
end K04

namespace K04
open PySem L2 DL PySem.Spec PyProof.Rows
/-! the draws -/
def JarD (d : D) : Prop := ∃ a b c : Int, d = .lst [.int a, .int b, .int c]
theorem dip_ok {m : Int} (hm : 0 < m) (h2 : m < 1073741824) {d : D} (hd : JarD d) : ∃ v d', F__law_dip [.jar 0, .dat (.int m)] [d] = .ok (.int v) [d'] ∧ JarD d' ∧ 0 ≤ v ∧ v < m := by
  obtain ⟨a, b, c, rfl⟩ := hd
  have e1 : (0 : Int) < 2147483399 := by decide
  have e2 : (0 : Int) < 2048 := by decide
  have e3 : (2048 : Int) < 1073741824 := by decide
  by_cases ha : 0 < a
  · refine ⟨a % m, .lst [.int (a / m), .int b, .int (c + 1)], ?_, ⟨_, _, _, rfl⟩, Int.emod_nonneg _ (by omega), Int.emod_lt_of_pos _ hm⟩
    simp [F__law_dip, g__law_dip, v_mulI, v_modI, v_divI, hm, h2, ha]
  · refine ⟨(b * 40692 + (c + 1) * 52021 + 31) % 2147483399 / 2048 % m, .lst [.int a, .int ((b * 40692 + (c + 1) * 52021 + 31) % 2147483399), .int (c + 1)], ?_, ⟨_, _, _, rfl⟩, Int.emod_nonneg _ (by omega), Int.emod_lt_of_pos _ hm⟩
    simp [F__law_dip, g__law_dip, v_mulI, v_modI, v_divI, hm, h2, ha, e1, e2, e3]
theorem pick_ok {l : List D} (hl : l ≠ []) (h2 : (l.length : Int) < 1073741824) {d : D} (hd : JarD d) : ∃ x d', F__law_pick [.jar 0, .dat (.lst l)] [d] = .ok x [d'] ∧ JarD d' ∧ x ∈ l := by
  have hp : 0 < l.length := List.length_pos_iff.mpr hl
  obtain ⟨v, d', h1, h3, h4, h5⟩ := dip_ok (m := l.length) (by omega) h2 hd
  obtain ⟨k, rfl⟩ : ∃ k : Nat, v = k := ⟨v.toNat, by omega⟩
  have hk : k < l.length := by omega
  have e : atI l (k : Int) = some l[k] := at_nat (List.getElem?_eq_getElem hk)
  refine ⟨l[k], d', ?_, h3, List.getElem_mem hk⟩
  simp [F__law_pick, g__law_pick, lenD, h1, e]
def pool : List Str := ["a", "b", "ab", "hub", "tie", "places", "zz", "q", "m", "longname", "x", "y"]
theorem pool_nd : pool.Nodup := by decide +kernel
theorem names_ok {m : Nat} (hm : m ≤ 12) {d : D} (hd : JarD d) : ∃ (ws : List Str) (d' : D), F__law_names [.jar 0, .dat (.int m)] [d] = .ok (.lst (ws.map D.str)) [d'] ∧ JarD d' ∧ ws.length = m ∧ ws.Nodup ∧ ∀ w ∈ ws, w ∈ pool := by
  obtain ⟨v, d', h1, h3, h4, h5⟩ := dip_ok (m := 12) (by decide) (by decide) hd
  obtain ⟨k, rfl⟩ : ∃ k : Nat, v = k := ⟨v.toNat, by omega⟩
  have hk : k < 12 := by omega
  have pm : (pool.drop k ++ pool.take k).Perm pool := List.perm_append_comm.trans (by rw [List.take_append_drop])
  have ln : (pool.drop k ++ pool.take k).length = 12 := pm.length_eq
  refine ⟨(pool.drop k ++ pool.take k).take m, d', ?_, h3, ?_, ?_, ?_⟩
  · have e : [D.str "a", .str "b", .str "ab", .str "hub", .str "tie", .str "places", .str "zz", .str "q", .str "m", .str "longname", .str "x", .str "y"] = pool.map D.str := rfl
    have hs : (pool.map D.str).length = 12 := rfl
    have a1 : addD (.lst ((pool.map D.str).drop k)) (.lst ((pool.map D.str).take k)) = some (.lst ((pool.map D.str).drop k ++ (pool.map D.str).take k)) := v_addL (by rw [List.length_drop, List.length_take, hs]; omega)
    simp only [F__law_names, g__law_names, v_fn, List.length_cons, List.length_nil]
    simp [v_lstO, h1]
    rw [e, cut_from, cut_to, a1]
    simp [cut_to]
  · rw [List.length_take, ln]; omega
  · exact ((pm.nodup_iff).mpr pool_nd).sublist (List.take_sublist _ _)
  · exact fun w hw => pm.mem_iff.mp (List.mem_of_mem_take hw)
theorem pool_ok : ∀ w ∈ pool, PyData.strOk w = true := by decide +kernel
def netE (lo hi mx : Nat) (ws : List Str) (ps : List (Str × Str)) (fd : List (Str × Str)) (x y z t : S) (d : D) : DL.Env :=
  ⟨[.jar 0, .dat (.int lo), .dat (.int hi), .dat (.int mx), .dat (.lst (ws.map D.str)), .dat (.lst (ps.map tieD)), .own (.lst (fd.map tieD)), x, .un, y, z, t], [d]⟩
theorem net1 {lo hi mx : Nat} {ws : List Str} (hw : ws.length ≤ 12) {y z t : S} {d : D} : ∃ x', forL (gN 7) b1__law_net (rng 0 ws.length) (netE lo hi mx ws [] [] .un y z t d) = .ok .nx (netE lo hi mx ws (allPairs ws) [] x' y z t d) := by
  obtain ⟨e', h1, acc, k, x', h2, h3, h4, h5⟩ := forL_ok (g := gN 7) (body := b1__law_net) (ds := rng 0 ws.length)
    (fun ds e => ∃ (acc : List (Str × Str)) (k : Nat) (x : S), k ≤ ws.length ∧ ds = rng k (ws.length - k) ∧ acc ++ allPairs (ws.drop k) = allPairs ws ∧ e = netE lo hi mx ws acc [] x y z t d)
    (fun dd ds e ⟨acc, k, x, hk, hd, ha, he⟩ => by
      have hlt : k < ws.length := by
        rcases Nat.lt_or_ge k ws.length with h | h
        · exact h
        · rw [show ws.length - k = 0 by omega] at hd
          cases hd
      rw [show ws.length - k = (ws.length - (k + 1)) + 1 by omega, rng_cons] at hd
      cases hd
      subst he
      have hdr := List.drop_eq_getElem_cons hlt
      rw [hdr, allPairs] at ha
      have la := allPairs_len (l := ws)
      have lq : ws.length * ws.length ≤ 12 * 12 := Nat.mul_le_mul hw hw
      have lt : acc.length + (ws.drop (k + 1)).length ≤ 144 := by
        have := congrArg List.length ha
        rw [List.length_append, List.length_append, List.length_map] at this
        omega
      refine ⟨netE lo hi mx ws acc [] (.dat (.int k)) y z t d, netE lo hi mx ws (acc ++ (ws.drop (k + 1)).map fun o => (ws[k], o)) [] (.dat (.int k)) y z t d, rfl, .inl ?_, _, k + 1, _, hlt, by rw [show ((k + 1 : Nat) : Int) = (k : Int) + 1 by omega], by rw [List.append_assoc]; exact ha, rfl⟩
      have hat : atI (ws.map D.str) (k : Int) = some (.str ws[k]) := at_nat (by rw [List.getElem?_map, List.getElem?_eq_getElem hlt]; rfl)
      have hc : cLc [8] (cIter (cSl (cVar 4) (cPart (cOp addD (cVar 7) (cC (.int 1)))) cNoPart)) (gN 8) tYs (cTup (cCons (cOp ixD (cVar 4) (cVar 7)) (cCons (cVar 8) cNil))) (netE lo hi mx ws acc [] (.dat (.int k)) y z t d) =
          .ok (.val (.lst ((((ws.drop (k + 1)).map D.str).filter fun _ => true).map fun o => .tup [.str ws[k], o]))) (netE lo hi mx ws acc [] (.dat (.int k)) y z t d) := by
        refine v_lc1 (fun _ => true) (fun o => .tup [.str ws[k], o]) ?_ ?_ ?_ fun o ho => ⟨rfl, fun _ => ?_⟩
        · have e1 : (k : Int) + 1 = ((k + 1 : Nat) : Int) := by omega
          simp [netE]
          rw [e1, cut_from]
        · rfl
        · rw [List.length_map, sizeLine_eq]; omega
        · simp [netE, hat]
      have e2 : ∀ l : List D, l.filter (fun _ => true) = l := fun l => by simp
      rw [e2] at hc
      unfold b1__law_net
      rw [v_asg]
      have e3 : cVar 5 (netE lo hi mx ws acc [] (.dat (.int k)) y z t d) = .ok (.val (.lst (acc.map tieD))) (netE lo hi mx ws acc [] (.dat (.int k)) y z t d) := rfl
      rw [v_op, e3, v_bnd, hc, v_bnd, v_rdV, v_rdV, v_opt2, v_addL (by rw [List.length_map, List.length_map, List.length_map]; omega)]
      simp [netE, tieD, Function.comp_def])
    ⟨[], 0, .un, Nat.zero_le _, by simp, by simp, rfl⟩
  have hk : k = ws.length := by
    rcases Nat.lt_or_ge k ws.length with h | h
    · rw [show ws.length - k = (ws.length - (k + 1)) + 1 by omega, rng_cons] at h3
      cases h3
    · omega
  subst hk
  rw [List.drop_length, allPairs, List.append_nil] at h4
  subst h4
  exact ⟨x', h5 ▸ h1⟩
theorem net2 {lo hi mx : Nat} {ws : List Str} {ps : List (Str × Str)} (hl : Lk ws ps) (hp : ps.length ≤ 144) {T : Nat} (hT : T ≤ ps.length) {x y z t : S} {d : D} (hd : JarD d) :
    ∃ (fd rest : List (Str × Str)) (z' t' : S) (d' : D), forL (gN 10) b2__law_net (rng 0 T) (netE lo hi mx ws ps [] x y z t d) = .ok .nx (netE lo hi mx ws rest fd x y z' t' d') ∧ JarD d' ∧ Lk ws fd ∧ fd.length = T := by
  obtain ⟨e', h1, fd, rest, z', t', d', h2, h3, h4, h5, h6, h7⟩ := forL_ok (g := gN 10) (body := b2__law_net) (ds := rng 0 T)
    (fun ds e => ∃ (fd rest : List (Str × Str)) (z t : S) (d : D), JarD d ∧ Lk ws (fd ++ rest) ∧ fd.length + rest.length = ps.length ∧ fd.length ≤ T ∧ ds = rng fd.length (T - fd.length) ∧ e = netE lo hi mx ws rest fd x y z t d)
    (fun dd ds e ⟨fd, rest, z, t, d, hd, hk, hn, hf, hds, he⟩ => by
      have hlt : fd.length < T := by
        rcases Nat.lt_or_ge fd.length T with h | h
        · exact h
        · rw [show T - fd.length = 0 by omega] at hds
          cases hds
      rw [show T - fd.length = (T - (fd.length + 1)) + 1 by omega, rng_cons] at hds
      cases hds
      subst he
      have hr : 0 < rest.length := by omega
      obtain ⟨v, d1, q1, q2, q3, q4⟩ := dip_ok (m := rest.length) (by omega) (by omega) hd
      obtain ⟨k, rfl⟩ : ∃ k : Nat, v = k := ⟨v.toNat, by omega⟩
      have hkl : k < rest.length := by omega
      obtain ⟨u, d2, r1, r2, r3, r4⟩ := dip_ok (m := 2) (by decide) (by decide) q2
      have hat : atI (rest.map tieD) (k : Int) = some (tieD rest[k]) := at_nat (by rw [List.getElem?_map, List.getElem?_eq_getElem hkl]; rfl)
      have pm : rest.Perm (rest[k] :: (rest.take k ++ rest.drop (k + 1))) := by
        have e := List.take_append_drop k rest
        rw [List.drop_eq_getElem_cons hkl] at e
        conv => lhs; rw [← e]
        exact List.perm_middle
      have lk : Lk ws (rest[k] :: (fd ++ (rest.take k ++ rest.drop (k + 1)))) := hk.perm ((pm.append_left fd).trans List.perm_middle)
      have ln : (rest.take k ++ rest.drop (k + 1)).length + 1 = rest.length := by have := pm.length_eq; simp only [List.length_cons] at this; omega
      have e1 : (k : Int) + 1 = ((k + 1 : Nat) : Int) := by omega
      have asm : ∀ w : Str × Str, Lk ws (w :: (fd ++ (rest.take k ++ rest.drop (k + 1)))) → Lk ws ((fd ++ [w]) ++ (rest.take k ++ rest.drop (k + 1))) := fun w h => h.perm (by rw [List.append_assoc]; exact List.perm_middle.symm)
      have key : ∃ w : Str × Str, Lk ws (w :: (fd ++ (rest.take k ++ rest.drop (k + 1)))) ∧ b2__law_net (netE lo hi mx ws rest fd x y (.dat (.int fd.length)) t d) = .ok .nx (netE lo hi mx ws (rest.take k ++ rest.drop (k + 1)) (fd ++ [w]) x y (.dat (.int fd.length)) (.dat (.int k)) d2) := by
        have a1 : addD (.lst ((rest.map tieD).take k)) (.lst ((rest.map tieD).drop (k + 1))) = some (.lst ((rest.map tieD).take k ++ (rest.map tieD).drop (k + 1))) := v_addL (by rw [List.length_take, List.length_drop, List.length_map]; omega)
        have lf : (fd.map tieD).length < 16777216 := by rw [List.length_map]; omega
        by_cases hu : u = 0
        · refine ⟨rest[k], lk, ?_⟩
          subst hu
          simp [b2__law_net, netE, q1, r1, hat, v_appL lf]
          rw [e1, cut_from, cut_to, a1]
          simp
        · refine ⟨rest[k].swap, lk.swap, ?_⟩
          have hs : (tieD rest[k]) = .tup [.str rest[k].1, .str rest[k].2] := rfl
          simp [b2__law_net, netE, q1, r1, hat, hu, hs, v_appL lf]
          rw [e1, cut_from, cut_to, a1]
          simp [tieD]
      obtain ⟨w, w1, w2⟩ := key
      exact ⟨_, _, rfl, .inl w2, fd ++ [w], rest.take k ++ rest.drop (k + 1), _, _, d2, r2, asm w w1, by rw [List.length_append]; simp only [List.length_cons, List.length_nil]; omega, by rw [List.length_append]; simp only [List.length_cons, List.length_nil]; omega,
        by rw [List.length_append]; simp only [List.length_cons, List.length_nil, Nat.zero_add]; rw [show ((fd.length + 1 : Nat) : Int) = (fd.length : Int) + 1 by omega], rfl⟩)
    ⟨[], ps, z, t, d, hd, hl, by simp, by simp, by simp, rfl⟩
  have hf : fd.length = T := by
    rcases Nat.lt_or_ge fd.length T with h | h
    · rw [show T - fd.length = (T - (fd.length + 1)) + 1 by omega, rng_cons] at h6
      cases h6
    · omega
  exact ⟨fd, rest, z', t', d', h7 ▸ h1, h2, h3.sub (List.sublist_append_left _ _), hf⟩
/-- a drawn web -/
structure Net (lo hi mx : Nat) (ws : List Str) (ls : List (Str × Str)) : Prop where
  nd : ws.Nodup
  pool : ∀ w ∈ ws, w ∈ pool
  lo : lo ≤ ws.length
  hi : ws.length ≤ hi
  lk : Lk ws ls
  mx : ls.length ≤ mx
def netD (ws : List Str) (ls : List (Str × Str)) : D := .tup [.tup (ws.map D.str), .tup (ls.map tieD)]
theorem net_run {lo hi mx k : Nat} {ws : List Str} {fd rest : List (Str × Str)} {d d1 d2 d3 d4 d5 : D} {x' z' t' : S} {many tt u : Int} {m : Nat}
    (a1 : F__law_dip [.jar 0, .dat (.int ((hi : Int) - lo + 1))] [d] = .ok (.int k) [d1]) (b1' : F__law_names [.jar 0, .dat (.int ((lo : Int) + k))] [d1] = .ok (.lst (ws.map D.str)) [d2])
    (c1 : forL (gN 7) b1__law_net (rng 0 ws.length) (netE lo hi mx ws [] [] .un .un .un .un d2) = .ok .nx (netE lo hi mx ws (allPairs ws) [] x' .un .un .un d2))
    (e1 : F__law_pick [.jar 0, .dat (.lst [.int 2, .int 3, .int (allPairs ws).length])] [d2] = .ok (.int m) [d3]) (f1 : F__law_dip [.jar 0, .dat (.int m)] [d3] = .ok (.int u) [d4])
    (hmany : many = if (allPairs ws).length + 1 - u < (mx : Int) then (allPairs ws).length + 1 - u else (mx : Int)) (htt : tt = if ((allPairs ws).length : Int) < many then ((allPairs ws).length : Int) else many)
    (g1 : forL (gN 10) b2__law_net (rng 0 tt.toNat) (netE lo hi mx ws (allPairs ws) [] x' (.dat (.int many)) .un .un d4) = .ok .nx (netE lo hi mx ws rest fd x' (.dat (.int many)) z' t' d5))
    (r1 : rngI1 [.val (.int ws.length)] = some (rng 0 ws.length)) (r2 : rngI1 [.val (.int tt)] = some (rng 0 tt.toNat)) :
    F__law_net [.jar 0, .dat (.int lo), .dat (.int hi), .dat (.int mx)] [d] = .ok (netD ws fd) [d5] := by
  have st1 : ∀ k : DL.Env → Out Fl, (forL (gN 7) b1__law_net (rng 0 ws.length) ⟨[.jar 0, .dat (.int lo), .dat (.int hi), .dat (.int mx), .dat (.lst (ws.map D.str)), .dat (.lst []), .own (.lst []), .un, .un, .un, .un, .un], [d2]⟩).bndF k =
      k (netE lo hi mx ws (allPairs ws) [] x' .un .un .un d2) := fun k => by
    have := c1
    unfold netE at this
    simp only [List.map_nil] at this
    rw [this]
    rfl
  have st2 : ∀ k : DL.Env → Out Fl, (forL (gN 10) b2__law_net (rng 0 tt.toNat) ⟨[.jar 0, .dat (.int lo), .dat (.int hi), .dat (.int mx), .dat (.lst (ws.map D.str)), .dat (.lst ((allPairs ws).map tieD)), .own (.lst []), x', .un, .dat (.int many), .un, .un], [d4]⟩).bndF k =
      k (netE lo hi mx ws rest fd x' (.dat (.int many)) z' t' d5) := fun k => by
    have := g1
    unfold netE at this
    simp only [List.map_nil] at this
    rw [this]
    rfl
  unfold F__law_net g__law_net
  simp -implicitDefEqProofs [a1, b1', r1, st1]
  simp -implicitDefEqProofs [netE, e1, f1]
  rw [← hmany, ← htt, r2]
  simp -implicitDefEqProofs [st2]
  simp -implicitDefEqProofs [netE, netD]
theorem net_ok {lo hi mx : Nat} (h2 : 2 ≤ lo) (hh : lo ≤ hi) (h12 : hi ≤ 12) {d : D} (hd : JarD d) :
    ∃ (ws : List Str) (ls : List (Str × Str)) (d' : D), F__law_net [.jar 0, .dat (.int lo), .dat (.int hi), .dat (.int mx)] [d] = .ok (netD ws ls) [d'] ∧ JarD d' ∧ Net lo hi mx ws ls := by
  obtain ⟨v, d1, a1, a2, a3, a4⟩ := dip_ok (m := (hi : Int) - lo + 1) (by omega) (by omega) hd
  obtain ⟨k, rfl⟩ : ∃ k : Nat, v = k := ⟨v.toNat, by omega⟩
  obtain ⟨ws, d2, b1, b2, b3, b4, b5⟩ := names_ok (m := lo + k) (by omega) a2
  have b1' : F__law_names [.jar 0, .dat (.int ((lo : Int) + k))] [d1] = .ok (.lst (ws.map D.str)) [d2] := by rw [show ((lo : Int) + k) = ((lo + k : Nat) : Int) by omega]; exact b1
  have lq : ws.length * ws.length ≤ 12 * 12 := Nat.mul_le_mul (by omega) (by omega)
  have la := allPairs_len (l := ws)
  have lp := allPairs_pos (l := ws) (by omega)
  obtain ⟨x', c1⟩ := net1 (lo := lo) (hi := hi) (mx := mx) (ws := ws) (by omega) (y := .un) (z := .un) (t := .un) (d := d2)
  obtain ⟨mv, d3, e1, e2, e3⟩ := pick_ok (l := [.int 2, .int 3, .int (allPairs ws).length]) (by simp) (by simp) b2
  obtain ⟨m, hm, hm2, rfl⟩ : ∃ m : Nat, 0 < m ∧ (m : Int) < 1073741824 ∧ mv = .int m := by
    rcases List.mem_cons.mp e3 with rfl | e3
    · exact ⟨2, by omega, by omega, rfl⟩
    rcases List.mem_cons.mp e3 with rfl | e3
    · exact ⟨3, by omega, by omega, rfl⟩
    · rw [List.mem_singleton.mp e3]; exact ⟨_, lp, by omega, rfl⟩
  obtain ⟨u, d4, f1, f2, f3, f4⟩ := dip_ok (m := m) (by omega) hm2 e2
  obtain ⟨many, hmany⟩ : ∃ n : Int, n = if (allPairs ws).length + 1 - u < (mx : Int) then (allPairs ws).length + 1 - u else (mx : Int) := ⟨_, rfl⟩
  obtain ⟨tt, htt⟩ : ∃ n : Int, n = if ((allPairs ws).length : Int) < many then ((allPairs ws).length : Int) else many := ⟨_, rfl⟩
  have hm1 : many ≤ mx := by rw [hmany]; split <;> omega
  have hm3 : -1073741824 ≤ many := by rw [hmany]; split <;> omega
  have ht1 : tt ≤ (allPairs ws).length := by rw [htt]; split <;> omega
  have ht2 : tt ≤ mx := by rw [htt]; split <;> omega
  have ht3 : -1073741824 ≤ tt := by rw [htt]; split <;> omega
  obtain ⟨fd, rest, z', t', d5, g1, g2, g3, g4⟩ := net2 (lo := lo) (hi := hi) (mx := mx) (allPairs_lk b4) (by omega) (T := tt.toNat) (by omega) (x := x') (y := .dat (.int many)) (z := .un) (t := .un) f2
  refine ⟨ws, fd, d5, ?_, g2, b4, b5, by omega, by omega, g3, by omega⟩
  have r1 : rngI1 [.val (.int ws.length)] = some (rng 0 ws.length) := v_rng (by omega) (by omega)
  have r2 : rngI1 [.val (.int tt)] = some (rng 0 tt.toNat) := v_rng (by omega) (by omega)
  exact net_run a1 b1' c1 e1 f1 hmany htt g1 r1 r2
end K04

namespace K04
open PySem L2 DL PySem.Spec PyProof.Rows
/-! webs are made -/
theorem name_ok : ∀ w ∈ pool, F_is_name [.dat (.str w)] [] = .ok (.bl true) [] :=
  List.forall_mem_cons.mpr ⟨by kernel_rfl, List.forall_mem_cons.mpr ⟨by kernel_rfl, List.forall_mem_cons.mpr ⟨by kernel_rfl, List.forall_mem_cons.mpr ⟨by kernel_rfl, List.forall_mem_cons.mpr ⟨by kernel_rfl, List.forall_mem_cons.mpr ⟨by kernel_rfl, List.forall_mem_cons.mpr ⟨by kernel_rfl, List.forall_mem_cons.mpr ⟨by kernel_rfl, List.forall_mem_cons.mpr ⟨by kernel_rfl, List.forall_mem_cons.mpr ⟨by kernel_rfl, List.forall_mem_cons.mpr ⟨by kernel_rfl, List.forall_mem_cons.mpr ⟨by kernel_rfl, fun _ h => nomatch h⟩⟩⟩⟩⟩⟩⟩⟩⟩⟩⟩⟩
theorem sh_str {w : Str} (h : w ∈ pool) {k : Nat} : Sh k (.str w) := .str (pool_ok w h)
theorem sh_strs {ws : List Str} (h : ∀ w ∈ ws, w ∈ pool) {k : Nat} : Sh (k + 1) (.tup (ws.map D.str)) := sh_row fun s hs => pool_ok s (h s hs)
theorem places_ok {ws : List Str} (hn : ws.Nodup) (hp : ∀ w ∈ ws, w ∈ pool) (h2 : 2 ≤ ws.length) (h9 : ws.length ≤ 9) : F_check_places [.dat (.tup (ws.map D.str))] [] = .ok .non [] := by
  obtain ⟨e', h1, hI⟩ := forL_ok (g := gN 1) (body := b1_check_places) (ds := rng 0 ws.length) (e := ⟨[.dat (.tup (ws.map D.str)), .un], []⟩)
    (fun ds e => ∃ (k : Nat) (x : S), k ≤ ws.length ∧ ds = rng k (ws.length - k) ∧ e = ⟨[.dat (.tup (ws.map D.str)), x], []⟩)
    (fun dd ds e ⟨k, x, hk, hd, he⟩ => by
      have hlt : k < ws.length := by
        rcases Nat.lt_or_ge k ws.length with h | h
        · exact h
        · rw [show ws.length - k = 0 by omega] at hd
          cases hd
      rw [show ws.length - k = (ws.length - (k + 1)) + 1 by omega, rng_cons] at hd
      cases hd
      subst he
      refine ⟨⟨[.dat (.tup (ws.map D.str)), .dat (.int k)], []⟩, ⟨[.dat (.tup (ws.map D.str)), .dat (.int k)], []⟩, rfl, .inl ?_, k + 1, .dat (.int k), hlt, by rw [show ((k + 1 : Nat) : Int) = (k : Int) + 1 by omega], rfl⟩
      have hat : atI (ws.map D.str) (k : Int) = some (.str ws[k]) := at_nat (by rw [List.getElem?_map, List.getElem?_eq_getElem hlt]; rfl)
      have hw : ws[k] ∈ pool := hp _ (List.getElem_mem hlt)
      have hnin : ws[k] ∉ ws.take k := by
        have e := List.take_append_drop k ws
        rw [List.drop_eq_getElem_cons hlt] at e
        rw [← e] at hn
        obtain ⟨_, _, n3⟩ := List.nodup_append.mp hn
        exact fun z => n3 _ z _ List.mem_cons_self rfl
      have hin : inD (.str ws[k]) (.tup ((ws.take k).map D.str)) = some (.bl false) := by
        rw [inD_tup (k := 1) (sh_str hw) (sh_strs fun w hw => hp w (List.mem_of_mem_take hw)) (by omega), memB_str]
        simp [hnin]
      have k9 : ¬ (k : Int) = 9 := by omega
      have hn1 := name_ok _ hw
      simp -implicitDefEqProofs [b1_check_places, hat, hn1, k9]
      rw [cut_to, ← List.map_take, hin]
      simp -implicitDefEqProofs)
    ⟨0, .un, Nat.zero_le _, by simp, rfl⟩
  have r1 : rngI1 [.val (.int ws.length)] = some (rng 0 ws.length) := v_rng (by omega) (by omega)
  have l2 : ¬ (ws.length : Int) < 2 := by omega
  simp -implicitDefEqProofs [F_check_places, g_check_places, l2, r1, h1]
  obtain ⟨k, x, _, _, rfl⟩ := hI
  rfl
theorem sh_tie {p : Str × Str} (h1 : p.1 ∈ pool) (h2 : p.2 ∈ pool) {k : Nat} : Sh (k + 1) (tieD p) := .tup fun d hd => by
  rcases List.mem_cons.mp
                                                                                                              hd with rfl | hd
  · exact sh_str h1
  · rw [List.mem_singleton.mp hd]; exact sh_str h2
theorem tie_ok {ws : List Str} {p : Str × Str} (hp : ∀ w ∈ ws, w ∈ pool) (h1 : p.1 ∈ ws) (h2 : p.2 ∈ ws) (h3 : p.1 ≠ p.2) : F_is_tie [.dat (tieD p), .dat (.tup (ws.map D.str))] [] = .ok (.bl true) [] := by
  have a1 := name_ok _ (hp _ h1)
  have a2 := name_ok _ (hp _ h2)
  have n1 : neD (.str p.1) (.str p.2) = some (.bl true) := by
    rw [v_neS (pool_ok _ (hp _ h1)) (pool_ok _ (hp _ h2))]
    simp [h3]
  have i1 : inD (.str p.1) (.tup (ws.map D.str)) = some (.bl true) := by
    rw [inD_tup (k := 1) (sh_str (hp _ h1)) (sh_strs hp) (by omega), memB_str]; simp [h1]
  have i2 : inD (.str p.2) (.tup (ws.map D.str)) = some (.bl true) := by
    rw [inD_tup (k := 1) (sh_str (hp _ h2)) (sh_strs hp) (by omega), memB_str]; simp [h2]
  have hp1 : F_is_pair [.dat (.tup [.str p.1, .str p.2])] [] = .ok (.bl true) [] := by
    simp -implicitDefEqProofs [F_is_pair, g_is_pair]
  simp -implicitDefEqProofs [F_is_tie, g_is_tie, tieD, hp1, a1, a2, n1, i1, i2]
theorem eqB_tie {p q : Str × Str} : eqB (tieD p) (tieD q) = decide (p = q) := by
  have := eqB_row [p.1, p.2] [q.1, q.2]
  have e : eqB (tieD p) (tieD q) = decide ([p.1, p.2] = [q.1, q.2]) := this
  rw [e]
  by_cases h : p = q
  · subst h; simp
  · have : ¬ (p.1 = q.1 ∧ p.2 = q.2) := fun z => h (Prod.ext z.1 z.2)
    simp [h, this]
theorem index_none {ls : List (Str × Str)} {p : Str × Str} (hl : ls.length ≤ 100) (hp : ∀ q ∈ ls, q.1 ∈ pool ∧ q.2 ∈ pool) (h1 : p.1 ∈ pool) (h2 : p.2 ∈ pool) (hn : ∀ q ∈ ls, q ≠ p ∧ q ≠ p.swap) :
    F_index_in [.dat (.tup (ls.map tieD)), .dat (.str p.1), .dat (.str p.2)] [] = .ok .non [] := by
  obtain ⟨e', q1, hI⟩ := forL_ok (g := gN 3) (body := b1_index_in) (ds := rng 0 ls.length) (e := ⟨[.dat (.tup (ls.map tieD)), .dat (.str p.1), .dat (.str p.2), .un], []⟩)
    (fun ds e => ∃ (k : Nat) (x : S), k ≤ ls.length ∧ ds = rng k (ls.length - k) ∧ e = ⟨[.dat (.tup (ls.map tieD)), .dat (.str p.1), .dat (.str p.2), x], []⟩)
    (fun dd ds e ⟨k, x, hk, hd, he⟩ => by
      have hlt : k < ls.length := by
        rcases Nat.lt_or_ge k ls.length with h | h
        · exact h
        · rw [show ls.length - k = 0 by omega] at hd
          cases hd
      rw [show ls.length - k = (ls.length - (k + 1)) + 1 by omega, rng_cons] at hd
      cases hd
      subst he
      refine ⟨⟨[.dat (.tup (ls.map tieD)), .dat (.str p.1), .dat (.str p.2), .dat (.int k)], []⟩, ⟨[.dat (.tup (ls.map tieD)), .dat (.str p.1), .dat (.str p.2), .dat (.int k)], []⟩, rfl, .inl ?_, k + 1, .dat (.int k), hlt, by rw [show ((k + 1 : Nat) : Int) = (k : Int) + 1 by omega], rfl⟩
      have hat : atI (ls.map tieD) (k : Int) = some (tieD ls[k]) := at_nat (by rw [List.getElem?_map, List.getElem?_eq_getElem hlt]; rfl)
      have hm := List.getElem_mem hlt
      obtain ⟨b1, b2⟩ := hp _ hm
      obtain ⟨c1, c2⟩ := hn _ hm
      have hin : inD (tieD ls[k]) (.tup [.tup [.str p.1, .str p.2], .tup [.str p.2, .str p.1]]) = some (.bl false) := by
        have e : D.tup [.tup [.str p.1, .str p.2], .tup [.str p.2, .str p.1]] = .tup [tieD p, tieD p.swap] := rfl
        rw [e, inD_tup (k := 2) (sh_tie b1 b2) (.tup fun d hd => by
          rcases List.mem_cons.mp
                                                                                                              hd with rfl | hd
          · exact sh_tie h1 h2
          · rw [List.mem_singleton.mp hd]; exact sh_tie h2 h1) (by omega), memB_cons, memB_cons, memB_nil, eqB_tie, eqB_tie]
        have d1 : ¬ p = ls[k] := fun z => c1 z.symm
        have d2 : ¬ p.swap = ls[k] := fun z => c2 z.symm
        simp [d1, d2]
      simp -implicitDefEqProofs [b1_index_in, hat, hin])
    ⟨0, .un, Nat.zero_le _, by simp, rfl⟩
  have r1 : rngI1 [.val (.int ls.length)] = some (rng 0 ls.length) := v_rng (by omega) (by omega)
  simp -implicitDefEqProofs [F_index_in, g_index_in, r1, q1]
  obtain ⟨k, x, _, _, rfl⟩ := hI
  rfl
theorem ties_ok {ws : List Str} {ls : List (Str × Str)} (hp : ∀ w ∈ ws, w ∈ pool) (lk : Lk ws ls) (hl : ls.length ≤ 16) : F_check_ties [.dat (.tup (ls.map tieD)), .dat (.tup (ws.map D.str))] [] = .ok .non [] := by
  obtain ⟨e', q1, hI⟩ := forL_ok (g := gN 2) (body := b1_check_ties) (ds := rng 0 ls.length) (e := ⟨[.dat (.tup (ls.map tieD)), .dat (.tup (ws.map D.str)), .un], []⟩)
    (fun ds e => ∃ (k : Nat) (x : S), k ≤ ls.length ∧ ds = rng k (ls.length - k) ∧ e = ⟨[.dat (.tup (ls.map tieD)), .dat (.tup (ws.map D.str)), x], []⟩)
    (fun dd ds e ⟨k, x, hk, hd, he⟩ => by
      have hlt : k < ls.length := by
        rcases Nat.lt_or_ge k ls.length with h | h
        · exact h
        · rw [show ls.length - k = 0 by omega] at hd
          cases hd
      rw [show ls.length - k = (ls.length - (k + 1)) + 1 by omega, rng_cons] at hd
      cases hd
      subst he
      refine ⟨⟨[.dat (.tup (ls.map tieD)), .dat (.tup (ws.map D.str)), .dat (.int k)], []⟩, ⟨[.dat (.tup (ls.map tieD)), .dat (.tup (ws.map D.str)), .dat (.int k)], []⟩, rfl, .inl ?_, k + 1, .dat (.int k), hlt, by rw [show ((k + 1 : Nat) : Int) = (k : Int) + 1 by omega], rfl⟩
      have hat : atI (ls.map tieD) (k : Int) = some (tieD ls[k]) := at_nat (by rw [List.getElem?_map, List.getElem?_eq_getElem hlt]; rfl)
      have hm := List.getElem_mem hlt
      obtain ⟨b1, b2, b3⟩ := lk.on _ hm
      have t1 := tie_ok hp b1 b2 b3
      have k16 : ¬ (k : Int) = 16 := by omega
      have dd : ∀ q ∈ ls.take k, q ≠ ls[k] ∧ q ≠ ls[k].swap := by
        have e := List.take_append_drop k ls
        rw [List.drop_eq_getElem_cons hlt] at e
        have d := lk.dif
        rw [← e] at d
        obtain ⟨_, _, n3⟩ := List.pairwise_append.mp d
        intro q hq
        exact dif_symm (n3 q hq _ List.mem_cons_self)
      have ix := index_none (ls := ls.take k) (p := ls[k]) (by rw [List.length_take]; omega) (fun q hq => by
        obtain ⟨c1, c2, _⟩ := lk.on q (List.mem_of_mem_take hq)
        exact ⟨hp _ c1, hp _ c2⟩) (hp _ b1) (hp _ b2) dd
      rw [List.map_take] at ix
      have ta : tieD ls[k] = .tup [.str ls[k].1, .str ls[k].2] := rfl
      simp -implicitDefEqProofs [b1_check_ties, hat, t1, k16, cut_to]
      rw [ta]
      simp -implicitDefEqProofs [hat, ta, ix, D.isNon])
    ⟨0, .un, Nat.zero_le _, by simp, rfl⟩
  have r1 : rngI1 [.val (.int ls.length)] = some (rng 0 ls.length) := v_rng (by omega) (by omega)
  simp -implicitDefEqProofs [F_check_ties, g_check_ties, r1, q1]
  obtain ⟨k, x, _, _, rfl⟩ := hI
  rfl
def webD (ws : List Str) (ls : List (Str × Str)) : D := .obj "Web" ["both"] [netD ws ls]
theorem made_ok {ws : List Str} {ls : List (Str × Str)} (hn : ws.Nodup) (hp : ∀ w ∈ ws, w ∈ pool) (h2 : 2 ≤ ws.length) (h9 : ws.length ≤ 9) (lk : Lk ws ls) (hl : ls.length ≤ 16) :
    F__law_made [.dat (netD ws ls)] [] = .ok (webD ws ls) [] := by
  have a1 := places_ok hn hp h2 h9
  have a2 := ties_ok hp lk hl
  have i1 : F_Web___init__ [.jar 0, .dat (.tup (ws.map D.str)), .dat (.tup (ls.map tieD))] [.obj "Web" [] []] = .ok .non [webD ws ls] := by
    simp -implicitDefEqProofs [F_Web___init__, g_Web___init__, a1, a2, putN, webD, netD]
  simp -implicitDefEqProofs [F__law_made, g__law_made, netD, i1]
  simp [webD, netD]
end K04

namespace K04
open PySem L2 DL PySem.Spec PyProof.Rows
theorem ties_of {ws : List Str} {ls : List (Str × Str)} : F_Web_ties [.dat (webD ws ls)] [] = .ok (.tup (ls.map tieD)) [] := by
  simp -implicitDefEqProofs [F_Web_ties, g_Web_ties, webD, netD, fldD, lookD]
theorem places_of {ws : List Str} {ls : List (Str × Str)} : F_Web_places [.dat (webD ws ls)] [] = .ok (.tup (ws.map D.str)) [] := by
  simp -implicitDefEqProofs [F_Web_places, g_Web_places, webD, netD, fldD, lookD]
theorem has_ok {ws : List Str} {ls : List (Str × Str)} {x : Str} (hp : ∀ w ∈ ws, w ∈ pool) (hx : x ∈ ws) : F_Web___contains__ [.dat (webD ws ls), .dat (.str x)] [] = .ok (.bl true) [] := by
  have a1 := name_ok _ (hp _ hx)
  have i1 : inD (.str x) (.tup (ws.map D.str)) = some (.bl true) := by
    rw [inD_tup (k := 1) (sh_str (hp _ hx)) (sh_strs hp) (by omega), memB_str]; simp [hx]
  simp -implicitDefEqProofs [F_Web___contains__, g_Web___contains__, webD, netD, fldD, lookD, a1, i1]
theorem place_ok {ws : List Str} {ls : List (Str × Str)} {x : Str} (hp : ∀ w ∈ ws, w ∈ pool) (hx : x ∈ ws) : F_check_place [.dat (webD ws ls), .dat (.str x)] [] = .ok .non [] := by
  have n1 : notInOwn "Web" F_Web___contains__ (.str x) (webD ws ls) = some (.bl false) := by
    have q : askOwn "Web" F_Web___contains__ (webD ws ls) (.str x) = some true := by
      unfold askOwn
      rw [if_pos (by simp [webD]), has_ok hp hx]
    unfold notInOwn
    rw [q]
    rfl
  simp -implicitDefEqProofs [F_check_place, g_check_place, n1]
theorem goal_ok {ws : List Str} {ls : List (Str × Str)} {x y : Str} (hp : ∀ w ∈ ws, w ∈ pool) (hx : x ∈ ws) (hy : y ∈ ws) (hxy : x ≠ y) : F_check_goal [.dat (webD ws ls), .dat (.str x), .dat (.str y)] [] = .ok .non [] := by
  have a1 := place_ok (ls := ls) hp hx
  have a2 := place_ok (ls := ls) hp hy
  have n1 : eqD (.str x) (.str y) = some (.bl false) := by rw [v_eqS (pool_ok _ (hp _ hx)) (pool_ok _ (hp _ hy))]; simp [hxy]
  simp -implicitDefEqProofs [F_check_goal, g_check_goal, a1, a2, n1]
section
variable {ws : List Str} {ls : List (Str × Str)} {x : Str}
theorem part1 (hp : ∀ w ∈ ws, w ∈ pool) (lk : Lk ws ls) (hx : x ∈ ws) {p : Str × Str} (h : p ∈ ls) : eqD (.str p.1) (.str x) = some (.bl (isAt1 x (tieD p))) := by
  rw [v_eqS (pool_ok _ (hp _ (lk.on p h).1)) (pool_ok _ (hp _ hx))]
  rfl
theorem part2 (hp : ∀ w ∈ ws, w ∈ pool) (lk : Lk ws ls) (hx : x ∈ ws) {p : Str × Str} (h : p ∈ ls) : eqD (.str p.2) (.str x) = some (.bl (isAt2 x (tieD p))) := by
  rw [v_eqS (pool_ok _ (hp _ (lk.on p h).2.1)) (pool_ok _ (hp _ hx))]
  rfl
theorem near_ok (hp : ∀ w ∈ ws, w ∈ pool) (lk : Lk ws ls) (hl : ls.length ≤ 100) (hx : x ∈ ws) : F__law_near [.dat (netD ws ls), .dat (.str x)] [] = .ok (.lst ((NB ls x).map D.str)) [] := by
  have c1 : cLc [2] (cIter (cOp ixD (cVar 0) (cC (.int 1)))) (gN 2) (cTest (cOp eqD (cOp ixD (cVar 2) (cC (.int 0))) (cVar 1))) (cOp ixD (cVar 2) (cC (.int 1))) ⟨[.dat (netD ws ls), .dat (.str x), .un], []⟩ =
      .ok (.val (.lst (((ls.map tieD).filter (isAt1 x)).map end2))) ⟨[.dat (netD ws ls), .dat (.str x), .un], []⟩ := by
    refine v_lc1 (isAt1 x) end2 (by simp [netD]) rfl (by rw [List.length_map, sizeLine_eq]; omega) fun d hd => ?_
    obtain ⟨p, hpm, rfl⟩ := List.mem_map.mp hd
    have e1 := part1 hp lk hx hpm
    have et : tieD p = .tup [.str p.1, .str p.2] := rfl
    refine ⟨?_, fun _ => ?_⟩
    · rw [et] at e1 ⊢
      simp [e1]
    · rw [et]
      simp [end2]
  have c2 : cLc [2] (cIter (cOp ixD (cVar 0) (cC (.int 1)))) (gN 2) (cTest (cOp eqD (cOp ixD (cVar 2) (cC (.int 1))) (cVar 1))) (cOp ixD (cVar 2) (cC (.int 0))) ⟨[.dat (netD ws ls), .dat (.str x), .un], []⟩ =
      .ok (.val (.lst (((ls.map tieD).filter (isAt2 x)).map end1))) ⟨[.dat (netD ws ls), .dat (.str x), .un], []⟩ := by
    refine v_lc1 (isAt2 x) end1 (by simp [netD]) rfl (by rw [List.length_map, sizeLine_eq]; omega) fun d hd => ?_
    obtain ⟨p, hpm, rfl⟩ := List.mem_map.mp hd
    have e1 := part2 hp lk hx hpm
    have et : tieD p = .tup [.str p.1, .str p.2] := rfl
    refine ⟨?_, fun _ => ?_⟩
    · rw [et] at e1 ⊢
      simp [e1]
    · rw [et]
      simp [end1]
  rw [at1_map] at c1
  rw [at2_map] at c2
  have a1 := v_addL (a := ((ls.filter fun p => decide (p.1 = x)).map (·.2)).map D.str) (b := ((ls.filter fun p => decide (p.2 = x)).map (·.1)).map D.str) (by
    simp only [List.length_map]
    have := List.length_filter_le (fun p : Str × Str => decide (p.1 = x)) ls
    have := List.length_filter_le (fun p : Str × Str => decide (p.2 = x)) ls
    omega)
  rw [← List.map_append] at a1
  have s1 : sortedD [.lst ((nbr ls x).map D.str)] = some (.lst ((NB ls x).map D.str)) := sorted_strs _
  unfold nbr at s1
  simp -implicitDefEqProofs only [F__law_near, g__law_near, v_fn, List.length_cons, List.length_nil, v_env0, v_ret, v_cb, v_cons, v_op, List.map_cons, List.map_nil, v_dAt, List.cons_append, List.nil_append, List.replicate, Nat.reduceAdd, Nat.reduceSub, if_true, c1, c2, v_bnd, v_rdV, v_opt2, a1, v_opt, v_nil, v_rds, v_rds0, v_rds2, Option.bind_some, s1, v_frzV, v_retF, v_outR]
theorem beside_ok (hp : ∀ w ∈ ws, w ∈ pool) (lk : Lk ws ls) (hl : ls.length ≤ 100) (hx : x ∈ ws) : F_beside_in [.dat (webD ws ls), .dat (.str x)] [] = .ok (.tup ((NB ls x).map D.str)) [] := by
  have t1 := ties_of (ws := ws) (ls := ls)
  have c1 : cLc [3] (cIter (cProp "Web" F_Web_ties (cVar 0))) (gN 3) (cTest (cOp eqD (cOp ixD (cVar 3) (cC (.int 0))) (cVar 1))) (cOp ixD (cVar 3) (cC (.int 1))) ⟨[.dat (webD ws ls), .dat (.str x), .un, .un], []⟩ =
      .ok (.val (.lst (((ls.map tieD).filter (isAt1 x)).map end2))) ⟨[.dat (webD ws ls), .dat (.str x), .un, .un], []⟩ := by
    refine v_lc1 (isAt1 x) end2 (by simp [t1, show isObjC "Web" (webD ws ls) = true by simp [webD]]) rfl (by rw [List.length_map, sizeLine_eq]; omega) fun d hd => ?_
    obtain ⟨p, hpm, rfl⟩ := List.mem_map.mp hd
    have e1 := part1 hp lk hx hpm
    have et : tieD p = .tup [.str p.1, .str p.2] := rfl
    refine ⟨?_, fun _ => ?_⟩
    · rw [et] at e1 ⊢
      simp [e1]
    · rw [et]
      simp [end2]
  have c2 : cLc [3] (cIter (cProp "Web" F_Web_ties (cVar 0))) (gN 3) (cTest (cOp eqD (cOp ixD (cVar 3) (cC (.int 1))) (cVar 1))) (cOp ixD (cVar 3) (cC (.int 0))) ⟨[.dat (webD ws ls), .dat (.str x), .un, .un], []⟩ =
      .ok (.val (.lst (((ls.map tieD).filter (isAt2 x)).map end1))) ⟨[.dat (webD ws ls), .dat (.str x), .un, .un], []⟩ := by
    refine v_lc1 (isAt2 x) end1 (by simp [t1, show isObjC "Web" (webD ws ls) = true by simp [webD]]) rfl (by rw [List.length_map, sizeLine_eq]; omega) fun d hd => ?_
    obtain ⟨p, hpm, rfl⟩ := List.mem_map.mp hd
    have e1 := part2 hp lk hx hpm
    have et : tieD p = .tup [.str p.1, .str p.2] := rfl
    refine ⟨?_, fun _ => ?_⟩
    · rw [et] at e1 ⊢
      simp [e1]
    · rw [et]
      simp [end1]
  rw [at1_map] at c1
  rw [at2_map] at c2
  have a1 := v_addL (a := ((ls.filter fun p => decide (p.1 = x)).map (·.2)).map D.str) (b := ((ls.filter fun p => decide (p.2 = x)).map (·.1)).map D.str) (by
    simp only [List.length_map]
    have := List.length_filter_le (fun p : Str × Str => decide (p.1 = x)) ls
    have := List.length_filter_le (fun p : Str × Str => decide (p.2 = x)) ls
    omega)
  rw [← List.map_append] at a1
  replace a1 : addD (.lst (((ls.filter fun p => decide (p.1 = x)).map (·.2)).map D.str)) (.lst (((ls.filter fun p => decide (p.2 = x)).map (·.1)).map D.str)) = some (.lst ((nbr ls x).map D.str)) := a1
  have s1 : sortedD [.lst ((nbr ls x).map D.str)] = some (.lst ((NB ls x).map D.str)) := sorted_strs _
  simp -implicitDefEqProofs only [F_beside_in, g_beside_in, v_fn, List.length_cons, List.length_nil, v_env0, v_seq, v_asg, v_op, List.map_cons, List.map_nil, v_dAt, List.cons_append, List.nil_append, List.replicate, Nat.reduceAdd, Nat.reduceSub, if_true, c1, c2, v_bnd, v_rdV, v_opt2, a1, v_opt, v_frzV, v_asgF, v_set, v_nx]
  simp -implicitDefEqProofs [s1]
end
end K04

namespace K04
open PySem L2 DL PySem.Spec PyProof.Rows
section
variable {ws : List Str} {ls : List (Str × Str)} {g : Str}
def bsD (ws : List Str) (ls : List (Str × Str)) : D := .dct (ws.map fun w => .inr w) (ws.map fun w => .tup ((NB ls w).map D.str))
theorem fct7 {m : Nat} (h : m ≤ 7) : fct m ≤ 13700 := Nat.le_trans (fct_mono h) (by decide)
theorem nd_snoc {l : List Str} {p : Str} (h : l.Nodup) (hp : p ∉ l) : (l ++ [p]).Nodup := List.nodup_append.mpr ⟨h, by simp, fun a ha c hc z => by
  rw [List.mem_singleton.mp hc] at z
  exact hp (z ▸ ha)⟩
theorem in_snoc {l : List Str} {p : Str} (h : ∀ y ∈ l, y ∈ ws) (hp : p ∈ ws) : ∀ y ∈ l ++ [p], y ∈ ws := fun y hy => by
  rcases List.mem_append.mp
                                                                                                              hy with hy | hy
  · exact h y hy
  · rw [List.mem_singleton.mp hy]; exact hp
theorem longer_ok (hp : ∀ w ∈ ws, w ∈ pool) (lk : Lk ws ls) (h9 : ws.length ≤ 9) (hg : g ∈ ws) : ∀ {k : Nat} {pre : List Str} {x : Str}, (pre ++ [x]).Nodup → (∀ y ∈ pre ++ [x], y ∈ ws) → g ∉ pre ++ [x] → ws.length ≤ k + pre.length + 1 →
    F_longer_paths k [.dat (bsD ws ls), .dat (rowD (pre ++ [x])), .dat (.str g)] [] = .ok (.lst ((ext (NB ls) g k pre x).map rowD)) []
  | 0, pre, x, h1, h2, h3, h4 => by
    have := nd_len (ws := ws) (nd_snoc h1 h3) (in_snoc h2 hg)
    simp only [List.length_append, List.length_cons, List.length_nil] at this
    omega
  | k + 1, pre, x, h1, h2, h3, h4 => by
    have hx : x ∈ ws := h2 x (by simp)
    have hlen : pre.length ≤ 9 := by
      have := nd_len (ws := ws) h1 h2
      simp only [List.length_append, List.length_cons, List.length_nil] at this
      omega
    have hB : (ext (NB ls) g (k + 1) pre x).length ≤ 13700 := Nat.le_trans (ext_len fun y => NB_nodup lk y) (Nat.le_trans (nds_le (fun a c h => NB_in lk h) (fun y => NB_nodup lk y) hg h1 h2 h3) (fct7 (by omega)))
    have ok1 : ∀ y ∈ pre ++ [x], PyData.strOk y = true := fun y hy => pool_ok _ (hp _ (h2 y hy))
    obtain ⟨e', q1, done, rest, x4, hdr, hds, he⟩ := forL_ok (g := gN 4) (body := b1_longer_paths (F_longer_paths k)) (ds := (NB ls x).map D.str) (e := ⟨[.dat (bsD ws ls), .dat (rowD (pre ++ [x])), .dat (.str g), .own (.lst []), .un], []⟩)
      (fun ds e => ∃ (done rest : List Str) (x4 : S), done ++ rest = NB ls x ∧ ds = rest.map D.str ∧ e = ⟨[.dat (bsD ws ls), .dat (rowD (pre ++ [x])), .dat (.str g), .own (.lst ((done.flatMap fun p => kids g pre x p (ext (NB ls) g k (pre ++ [x]) p)).map rowD)), x4], []⟩)
      (fun dd ds e ⟨done, rest, x4, hdr, hds, he⟩ => by
        cases rest with
        | nil => cases hds
        | cons p rest =>
          cases hds
          subst he
          have hpn : p ∈ NB ls x := by rw [← hdr]; simp
          have hpw : p ∈ ws := NB_in lk hpn
          have ld : (done.flatMap fun p => kids g pre x p (ext (NB ls) g k (pre ++ [x]) p)).length + (kids g pre x p (ext (NB ls) g k (pre ++ [x]) p)).length ≤ 13700 := by
            refine Nat.le_trans ?_ hB
            show _ ≤ ((NB ls x).flatMap fun p => kids g pre x p (ext (NB ls) g k (pre ++ [x]) p)).length
            rw [← hdr, List.flatMap_append, List.flatMap_cons, List.length_append, List.length_append]
            omega
          refine ⟨⟨[.dat (bsD ws ls), .dat (rowD (pre ++ [x])), .dat (.str g), .own (.lst ((done.flatMap fun p => kids g pre x p (ext (NB ls) g k (pre ++ [x]) p)).map rowD)), .dat (.str p)], []⟩,
            ⟨[.dat (bsD ws ls), .dat (rowD (pre ++ [x])), .dat (.str g), .own (.lst (((done ++ [p]).flatMap fun p => kids g pre x p (ext (NB ls) g k (pre ++ [x]) p)).map rowD)), .dat (.str p)], []⟩, rfl, .inl ?_, done ++ [p], rest, .dat (.str p), by rw [List.append_assoc]; exact hdr, rfl, rfl⟩
          have e1 : eqD (.str p) (.str g) = some (.bl (decide (p = g))) := v_eqS (pool_ok _ (hp _ hpw)) (pool_ok _ (hp _ hg))
          have a1 := row_app (l := pre ++ [x]) (s := g) (by rw [List.length_append]; simp only [List.length_cons, List.length_nil]; omega)
          have a2 := row_app (l := pre ++ [x]) (s := p) (by rw [List.length_append]; simp only [List.length_cons, List.length_nil]; omega)
          have n1 := notIn_row (pool_ok _ (hp _ hpw)) ok1
          rw [List.flatMap_append, List.flatMap_cons, List.flatMap_nil, List.append_nil]
          have ld1 : (done.flatMap fun p => kids g pre x p (ext (NB ls) g k (pre ++ [x]) p)).length ≤ 13700 := by omega
          generalize hacc : (done.flatMap fun p => kids g pre x p (ext (NB ls) g k (pre ++ [x]) p)) = acc at ld ld1
          by_cases hpg : p = g
          · have ek : kids g pre x p (ext (NB ls) g k (pre ++ [x]) p) = [pre ++ [x] ++ [g]] := by unfold kids; rw [if_pos hpg]
            rw [ek]
            rw [decide_eq_true hpg] at e1
            have ap : ∀ {i : Nat} {d : D} {e : DL.Env}, appL i d e (some (.lst (acc.map rowD))) = outE (e.put i (.lst (acc.map rowD ++ [d]))) fun e3 => .ok (.val .non) e3 := v_appL (by rw [List.length_map]; omega)
            simp -implicitDefEqProofs only [b1_longer_paths, v_sIf, v_tst, v_op, DL.v_var, List.getElem?_cons_zero, List.getElem?_cons_succ, v_varD, v_bnd, v_rdV, v_opt2, e1, v_opt, v_tstO, if_true, v_sExpr, v_app, v_rdW, v_rdOo, v_isLst, v_tup, v_cons, v_nil, v_frzs, v_frzV, v_frz2, v_frzs0, v_frzC, v_tupO1, a1, v_appO, ap, v_put, v_putOo, v_outE, v_set, List.set_cons_succ, List.set_cons_zero, List.map_append, List.map_cons, List.map_nil]
          · by_cases hin : p ∈ pre ++ [x]
            · have ek : kids g pre x p (ext (NB ls) g k (pre ++ [x]) p) = [] := by unfold kids; rw [if_neg hpg, if_pos hin]
              rw [ek, List.append_nil]
              rw [decide_eq_true hin] at n1
              rw [decide_eq_false hpg] at e1
              simp -implicitDefEqProofs only [b1_longer_paths, v_sIf, v_tst, v_op, DL.v_var, List.getElem?_cons_zero, List.getElem?_cons_succ, v_varD, v_bnd, v_rdV, v_opt2, e1, v_opt, v_tstO, Bool.false_eq_true, if_false, n1, Bool.not_true, v_sNx]
            · have ek : kids g pre x p (ext (NB ls) g k (pre ++ [x]) p) = ext (NB ls) g k (pre ++ [x]) p := by unfold kids; rw [if_neg hpg, if_neg hin]
              rw [ek] at ld ⊢
              have ih := longer_ok hp lk h9 hg (k := k) (pre := pre ++ [x]) (x := p) (nd_snoc h1 hin) (in_snoc h2 hpw) (fun z => by
                rcases List.mem_append.mp z with z | z
                · exact h3 z
                · exact hpg (List.mem_singleton.mp z).symm) (by rw [List.length_append]; simp only [List.length_cons, List.length_nil]; omega)
              rw [decide_eq_false hin] at n1
              rw [decide_eq_false hpg] at e1
              have fa : ∀ {e : DL.Env}, fAddO (some (.lst (acc.map rowD))) (some (.lst ((ext (NB ls) g k (pre ++ [x]) p).map rowD))) e = .ok (.lst (acc.map rowD ++ (ext (NB ls) g k (pre ++ [x]) p).map rowD)) e := v_fAddO (by rw [List.length_map, List.length_map]; omega)
              simp -implicitDefEqProofs only [b1_longer_paths, v_sIf, v_tst, v_op, DL.v_var, List.getElem?_cons_zero, List.getElem?_cons_succ, v_varD, v_bnd, v_rdV, v_opt2, e1, v_opt, v_tstO, Bool.false_eq_true, if_false, n1, Bool.not_false, if_true, v_own, v_fAdd, v_varO, v_call, v_cons, v_nil, v_tup, v_frzs, v_frzV, v_frz2, v_frzs0, v_frzC, v_tupO1, a2, v_callF, List.map_cons, List.map_nil, ih, v_callO, v_rdW, v_rdOo, fa, v_set, List.set_cons_succ, List.set_cons_zero, List.map_append])
      ⟨[], NB ls x, .un, rfl, rfl, rfl⟩
    cases rest with
    | cons p r => cases hds
    | nil =>
      rw [List.append_nil] at hdr
      subst hdr
      subst he
      have hix : ixD (bsD ws ls) (.str x) = some (.tup ((NB ls x).map D.str)) := ix_dct hx
      have hrl := row_last (l := pre) (s := x)
      simp -implicitDefEqProofs [F_longer_paths, g_longer_paths, hix, hrl, q1]
      rfl
end
end K04

namespace K04
open PySem L2 DL PySem.Spec PyProof.Rows
section
variable {ws : List Str} {ls : List (Str × Str)} {g b : Str}
def bsV (ls : List (Str × Str)) : D → D
  | .str w => .tup ((NB ls w).map D.str)
  | d => d
def kyV : D → Key
  | .str w => .inr w
  | _ => .inl 0
theorem paths_ok (hp : ∀ w ∈ ws, w ∈ pool) (hn : ws.Nodup) (lk : Lk ws ls) (hl : ls.length ≤ 100) (h9 : ws.length ≤ 9) (hg : g ∈ ws) (hb : b ∈ ws) (hbg : b ≠ g) :
    F_paths [.dat (webD ws ls), .dat (.str b), .dat (.str g)] [] = .ok (.lst ((ext (NB ls) g 12 [] b).map rowD)) [] := by
  have c1 : cDc [3] (cIter (cProp "Web" F_Web_places (cVar 0))) (gN 3) tYs (cVar 3) (cCall F_beside_in (cCons (cVar 0) (cCons (cVar 3) cNil))) ⟨[.dat (webD ws ls), .dat (.str b), .dat (.str g), .un], []⟩ =
      .ok (.val (.dct ((ws.map D.str).map kyV) ((ws.map D.str).map (bsV ls)))) ⟨[.dat (webD ws ls), .dat (.str b), .dat (.str g), .un], []⟩ := by
    have p1 := places_of (ws := ws) (ls := ls)
    refine v_dc1 kyV (bsV ls) (by simp [p1, show isObjC "Web" (webD ws ls) = true by simp [webD]]) rfl (by rw [List.length_map, sizeLine_eq]; omega) ?_ fun d hd => ?_
    · rw [List.map_map]
      exact List.pairwise_map.mpr (hn.imp fun {a c} h z => h (Sum.inr.inj z))
    · obtain ⟨w, hw, rfl⟩ := List.mem_map.mp hd
      have b1 := beside_ok hp lk hl hw
      refine ⟨by simp, rfl, ?_⟩
      simp [b1]
      rfl
  have e1 : (ws.map D.str).map kyV = ws.map fun w => .inr w := by rw [List.map_map]; rfl
  have e2 : (ws.map D.str).map (bsV ls) = ws.map fun w => .tup ((NB ls w).map D.str) := by rw [List.map_map]; rfl
  rw [e1, e2] at c1
  have l1 := longer_ok hp lk h9 hg (k := 12) (pre := []) (x := b) (by simp) (fun y hy => by rw [List.mem_singleton.mp hy]; exact hb) (by simp; exact hbg.symm) (by simp only [List.length_nil]; omega)
  have l2 : F_longer_paths 12 [.dat (.dct (ws.map fun w => .inr w) (ws.map fun w => .tup ((NB ls w).map D.str))), .dat (.tup [.str b]), .dat (.str g)] [] = .ok (.lst ((ext (NB ls) g 12 [] b).map rowD)) [] := l1
  simp -implicitDefEqProofs only [F_paths, g_paths, v_fn, List.length_cons, List.length_nil, v_env0, v_ret, v_call, v_cons, List.map_cons, List.map_nil, v_dAt, List.cons_append, List.nil_append, List.replicate, Nat.reduceAdd, Nat.reduceSub, if_true, c1, v_bnd, v_nil, DL.v_var, List.getElem?_cons_zero, List.getElem?_cons_succ, v_varD, v_tup, v_frzs, v_frzV, v_frz2, v_frzs0, v_frzC, v_tupO1, v_callF, l2, v_callO, v_retF, v_outR]
theorem rows_ok (hp : ∀ w ∈ ws, w ∈ pool) (hn : ws.Nodup) (lk : Lk ws ls) (hl : ls.length ≤ 100) (h9 : ws.length ≤ 9) (hg : g ∈ ws) (hb : b ∈ ws) (hbg : b ≠ g) :
    F_Web_rows [.dat (webD ws ls), .dat (.str b), .dat (.str g)] [] = .ok (.tup ((ext (NB ls) g 12 [] b).map rowD)) [] := by
  have g1 := goal_ok (ls := ls) hp hb hg hbg
  have p1 := paths_ok hp hn lk hl h9 hg hb hbg
  simp -implicitDefEqProofs [F_Web_rows, g_Web_rows, g1, p1]
/-! the law's own rows -/
def EX (ls : List (Str × Str)) (g : Str) (q : List Str × Str) : List (List Str) := ext (NB ls) g (12 - q.1.length) q.1 q.2
def WT (ls : List (Str × Str)) (g : Str) (q : List Str × Str) : Nat := nds (NB ls) g (12 - q.1.length) q.1 q.2
def rowQ (q : List Str × Str) : D := rowD (q.1 ++ [q.2])
structure Vd (ws : List Str) (g : Str) (q : List Str × Str) : Prop where
  nd : (q.1 ++ [q.2]).Nodup
  in_ : ∀ y ∈ q.1 ++ [q.2], y ∈ ws
  ng : g ∉ q.1 ++ [q.2]
theorem Vd.len {q : List Str × Str} (h : Vd ws g q) (hg : g ∈ ws) : q.1.length + 2 ≤ ws.length := by
  have := nd_len (ws := ws) (nd_snoc h.nd h.ng) (in_snoc h.in_ hg)
  simp only [List.length_append, List.length_cons, List.length_nil] at this
  omega
theorem wt_pos {q : List Str × Str} : 1 ≤ WT ls g q := by
  unfold WT
  cases 12 - q.1.length with
  | zero => exact Nat.le_refl _
  | succ n => exact Nat.le_add_right _ _
theorem wt_len : ∀ {S : List (List Str × Str)}, S.length ≤ (S.map (WT ls g)).sum
  | [] => Nat.le_refl _
  | q :: S => by
    have := wt_len (S := S)
    have := wt_pos (ls := ls) (g := g) (q := q)
    rw [List.map_cons, List.sum_cons, List.length_cons]
    omega
def linE (ws : List Str) (ls : List (Str × Str)) (b g : Str) (fd : List (List Str)) (S : List (List Str × Str)) (x y : DL.S) : DL.Env :=
  ⟨[.dat (netD ws ls), .dat (.str b), .dat (.str g), .own (.lst (fd.map rowD)), .own (.lst (S.map rowQ)), x, y], []⟩
theorem inner (hp : ∀ w ∈ ws, w ∈ pool) (lk : Lk ws ls) (h9 : ws.length ≤ 9) (hg : g ∈ ws) {q : List Str × Str} (hq : Vd ws g q) {fd : List (List Str)} {S : List (List Str × Str)} (hS : ∀ r ∈ S, Vd ws g r) {y : DL.S}
    (hB : (fd ++ S.flatMap (EX ls g) ++ EX ls g q).length ≤ 13700) (hW : (S.map (WT ls g)).sum + WT ls g q ≤ 13700) :
    ∃ (fd' : List (List Str)) (S' : List (List Str × Str)) (y' : DL.S), forL (gN 6) b1__law_lines ((NB ls q.2).map D.str) (linE ws ls b g fd S (.dat (rowQ q)) y) = .ok .nx (linE ws ls b g fd' S' (.dat (rowQ q)) y') ∧ (∀ r ∈ S', Vd ws g r) ∧
      (fd' ++ S'.flatMap (EX ls g)).Perm (fd ++ S.flatMap (EX ls g) ++ EX ls g q) ∧ (S'.map (WT ls g)).sum + 1 = (S.map (WT ls g)).sum + WT ls g q := by
  have hql := hq.len hg
  obtain ⟨n, hn⟩ : ∃ n, 12 - q.1.length = n + 1 := ⟨12 - q.1.length - 1, by omega⟩
  have hn2 : 12 - (q.1 ++ [q.2]).length = n := by simp only [List.length_append, List.length_cons, List.length_nil]; omega
  have eX : EX ls g q = (NB ls q.2).flatMap fun p => kids g q.1 q.2 p (EX ls g (q.1 ++ [q.2], p)) := by
    unfold EX
    rw [hn]
    simp only [hn2]
    rfl
  have eW : WT ls g q = 1 + ((NB ls q.2).map fun p => if p = g ∨ p ∈ q.1 ++ [q.2] then 0 else WT ls g (q.1 ++ [q.2], p)).sum := by
    unfold WT
    rw [hn]
    simp only [hn2]
    rfl
  have ok1 : ∀ y ∈ q.1 ++ [q.2], PyData.strOk y = true := fun y hy => pool_ok _ (hp _ (hq.in_ y hy))
  obtain ⟨e', q1, done, rest, fd', S', y', hdr, hds, hv, hpm, hw, he⟩ := forL_ok (g := gN 6) (body := b1__law_lines) (ds := (NB ls q.2).map D.str) (e := linE ws ls b g fd S (.dat (rowQ q)) y)
    (fun ds e => ∃ (done rest : List Str) (fd' : List (List Str)) (S' : List (List Str × Str)) (y' : DL.S), done ++ rest = NB ls q.2 ∧ ds = rest.map D.str ∧ (∀ r ∈ S', Vd ws g r) ∧
      (fd' ++ S'.flatMap (EX ls g) ++ rest.flatMap fun p => kids g q.1 q.2 p (EX ls g (q.1 ++ [q.2], p))).Perm (fd ++ S.flatMap (EX ls g) ++ EX ls g q) ∧
      (S'.map (WT ls g)).sum + 1 + (rest.map fun p => if p = g ∨ p ∈ q.1 ++ [q.2] then 0 else WT ls g (q.1 ++ [q.2], p)).sum = (S.map (WT ls g)).sum + WT ls g q ∧ e = linE ws ls b g fd' S' (.dat (rowQ q)) y')
    (fun dd ds e ⟨done, rest, fd', S', y', hdr, hds, hv, hpm, hw, he⟩ => by
      cases rest with
      | nil => cases hds
      | cons p rest =>
        cases hds
        subst he
        have hpn : p ∈ NB ls q.2 := by rw [← hdr]; simp
        have hpw : p ∈ ws := NB_in lk hpn
        have e1 : eqD (.str p) (.str g) = some (.bl (decide (p = g))) := v_eqS (pool_ok _ (hp _ hpw)) (pool_ok _ (hp _ hg))
        have a1 := row_app (l := q.1 ++ [q.2]) (s := g) (by rw [List.length_append]; simp only [List.length_cons, List.length_nil]; omega)
        have a2 := row_app (l := q.1 ++ [q.2]) (s := p) (by rw [List.length_append]; simp only [List.length_cons, List.length_nil]; omega)
        have n1 := notIn_row (pool_ok _ (hp _ hpw)) ok1
        have lf : fd'.length ≤ 13700 := by
          have := hpm.length_eq
          simp only [List.length_append] at this hB
          omega
        have lS : S'.length ≤ 13700 := by
          have := wt_len (ls := ls) (g := g) (S := S')
          omega
        rw [List.flatMap_cons] at hpm
        rw [List.map_cons, List.sum_cons] at hw
        by_cases hpg : p = g
        · have ek : kids g q.1 q.2 p (EX ls g (q.1 ++ [q.2], p)) = [q.1 ++ [q.2] ++ [g]] := by unfold kids; rw [if_pos hpg]
          rw [ek] at hpm
          rw [if_pos (.inl hpg)] at hw
          rw [decide_eq_true hpg] at e1
          have ap : ∀ {i : Nat} {d : D} {e : DL.Env}, appL i d e (some (.lst (fd'.map rowD))) = outE (e.put i (.lst (fd'.map rowD ++ [d]))) fun e3 => .ok (.val .non) e3 := v_appL (by rw [List.length_map]; omega)
          refine ⟨linE ws ls b g fd' S' (.dat (rowQ q)) (.dat (.str p)), linE ws ls b g (fd' ++ [q.1 ++ [q.2] ++ [g]]) S' (.dat (rowQ q)) (.dat (.str p)), rfl, .inl ?_, done ++ [p], rest, fd' ++ [q.1 ++ [q.2] ++ [g]], S', .dat (.str p), by rw [List.append_assoc]; exact hdr, rfl, hv, List.Perm.trans ?_ hpm, by omega, rfl⟩
          · unfold linE rowQ
            simp -implicitDefEqProofs only [b1__law_lines, v_sIf, v_tst, v_op, DL.v_var, List.getElem?_cons_zero, List.getElem?_cons_succ, v_varD, v_bnd, v_rdV, v_opt2, e1, v_opt, v_tstO, if_true, v_sExpr, v_app, v_rdW, v_rdOo, v_isLst, v_tup, v_cons, v_nil, v_frzs, v_frzV, v_frz2, v_frzs0, v_frzC, v_tupO1, a1, v_appO, ap, v_put, v_putOo, v_outE, v_set, List.set_cons_succ, List.set_cons_zero, List.map_append, List.map_cons, List.map_nil]
          · simp only [List.append_assoc]
            refine List.Perm.append_left
                                                                                                              _ ?_
            rw [← List.append_assoc]
            exact (List.perm_append_comm.append_right _).trans (by rw [List.append_assoc])
        · by_cases hin : p ∈ q.1 ++ [q.2]
          · have ek : kids g q.1 q.2 p (EX ls g (q.1 ++ [q.2], p)) = [] := by unfold kids; rw [if_neg hpg, if_pos hin]
            rw [ek, List.nil_append] at hpm
            rw [if_pos (.inr hin)] at hw
            rw [decide_eq_true hin] at n1
            rw [decide_eq_false hpg] at e1
            refine ⟨linE ws ls b g fd' S' (.dat (rowQ q)) (.dat (.str p)), linE ws ls b g fd' S' (.dat (rowQ q)) (.dat (.str p)), rfl, .inl ?_, done ++ [p], rest, fd', S', .dat (.str p), by rw [List.append_assoc]; exact hdr, rfl, hv, hpm, by omega, rfl⟩
            unfold linE rowQ
            simp -implicitDefEqProofs only [b1__law_lines, v_sIf, v_tst, v_op, DL.v_var, List.getElem?_cons_zero, List.getElem?_cons_succ, v_varD, v_bnd, v_rdV, v_opt2, e1, v_opt, v_tstO, Bool.false_eq_true, if_false, n1, Bool.not_true, v_sNx]
          · have ek : kids g q.1 q.2 p (EX ls g (q.1 ++ [q.2], p)) = EX ls g (q.1 ++ [q.2], p) := by unfold kids; rw [if_neg hpg, if_neg hin]
            rw [ek] at hpm
            rw [if_neg fun z => z.elim hpg hin] at hw
            rw [decide_eq_false hin] at n1
            rw [decide_eq_false hpg] at e1
            have ap : ∀ {i : Nat} {d : D} {e : DL.Env}, appL i d e (some (.lst (S'.map rowQ))) = outE (e.put i (.lst (S'.map rowQ ++ [d]))) fun e3 => .ok (.val .non) e3 := v_appL (by rw [List.length_map]; omega)
            have a2' : addD (rowD (q.1 ++ [q.2])) (.tup [.str p]) = some (rowQ (q.1 ++ [q.2], p)) := a2
            refine ⟨linE ws ls b g fd' S' (.dat (rowQ q)) (.dat (.str p)), linE ws ls b g fd' (S' ++ [(q.1 ++ [q.2], p)]) (.dat (rowQ q)) (.dat (.str p)), rfl, .inl ?_, done ++ [p], rest, fd', S' ++ [(q.1 ++ [q.2], p)], .dat (.str p), by rw [List.append_assoc]; exact hdr, rfl, fun r hr => ?_, ?_, ?_, rfl⟩
            · have er : rowQ q = rowD (q.1 ++ [q.2]) := rfl
              unfold linE
              simp -implicitDefEqProofs only [b1__law_lines, er, v_sIf, v_tst, v_op, DL.v_var, List.getElem?_cons_zero, List.getElem?_cons_succ, v_varD, v_bnd, v_rdV, v_opt2, e1, v_opt, v_tstO, Bool.false_eq_true, if_false, n1, Bool.not_false, if_true, v_sExpr, v_app, v_rdW, v_rdOo, v_isLst, v_tup, v_cons, v_nil, v_frzs, v_frzV, v_frz2, v_frzs0, v_frzC, v_tupO1, a2', v_appO, ap, v_put, v_putOo, v_outE, v_set, List.set_cons_succ, List.set_cons_zero, List.map_append, List.map_cons, List.map_nil]
            · rcases List.mem_append.mp
                                                                                                              hr with hr | hr
              · exact hv r hr
              · rw [List.mem_singleton.mp
                                                                                                              hr]
                exact ⟨nd_snoc hq.nd hin, in_snoc hq.in_ hpw, fun z => by
                  rcases List.mem_append.mp z with z | z
                  · exact hq.ng z
                  · exact hpg (List.mem_singleton.mp z).symm⟩
            · rw [List.flatMap_append, List.flatMap_cons, List.flatMap_nil, List.append_nil]
              simp only [List.append_assoc] at hpm ⊢
              exact hpm
            · rw [List.map_append, List.sum_append, List.map_cons, List.map_nil, List.sum_cons, List.sum_nil]
              omega)
    ⟨[], NB ls q.2, fd, S, y, rfl, rfl, hS, by rw [eX], by rw [eW]; omega, rfl⟩
  cases rest with
  | cons p r => cases hds
  | nil =>
    rw [List.flatMap_nil, List.append_nil] at hpm
    rw [List.map_nil, List.sum_nil] at hw
    exact ⟨fd', S', y', he ▸ q1, hv, hpm, hw⟩
end
end K04

namespace K04
open PySem L2 DL PySem.Spec PyProof.Rows
theorem pool_txt : ∀ w ∈ pool, Txt 10 (.str w) := by
  have h1 : ∀ w ∈ pool, (reprText w).length ≤ 10 := by decide +kernel
  have h2 : ∀ w ∈ pool, PyData.strOk (reprText w) = true := by decide +kernel
  exact fun w hw => ⟨rfl, h1 w hw, h2 w hw⟩
section
variable {ws : List Str} {ls : List (Str × Str)} {g b : Str}
theorem outer (hp : ∀ w ∈ ws, w ∈ pool) (lk : Lk ws ls) (hl : ls.length ≤ 100) (h9 : ws.length ≤ 9) (hg : g ∈ ws) : ∀ {n : Nat} {fd : List (List Str)} {S : List (List Str × Str)} {x y : DL.S}, (∀ r ∈ S, Vd ws g r) →
    (fd ++ S.flatMap (EX ls g)).length ≤ 13700 → (S.map (WT ls g)).sum ≤ 13700 → (S.map (WT ls g)).sum < n →
    ∃ (fd' : List (List Str)) (x' y' : DL.S), whL c2__law_lines b3__law_lines n (linE ws ls b g fd S x y) = .ok .nx (linE ws ls b g fd' [] x' y') ∧ fd'.Perm (fd ++ S.flatMap (EX ls g))
  | 0, _, _, _, _, _, _, _, h => absurd h (Nat.not_lt_zero _)
  | n + 1, fd, S, x, y, hS, hB, hW, hn => by
    have sh1 : Sh 2 (.lst (S.map rowQ)) := .lst fun d hd => by
      obtain ⟨q, hq, rfl⟩
                                                                                                              := List.mem_map.mp hd
      exact sh_row fun s hs => pool_ok _ (hp _ ((hS q hq).in_ s hs))
    have sh2 : Sh 2 (.lst []) := .lst fun d hd => by cases hd
    have c0 : c2__law_lines (linE ws ls b g fd S x y) = .ok (!S.isEmpty) (linE ws ls b g fd S x y) := by
      have ne : neD (.lst (S.map rowQ)) (.lst []) = some (.bl (!S.isEmpty)) := by
        rw [neD_of sh1 sh2 (by omega), eqB_lst]
        cases S with
        | nil => simp [D.pyL, PyData.eqvAll]
        | cons q S => simp [D.pyL, PyData.eqvAll]
      simp -implicitDefEqProofs [c2__law_lines, linE, ne]
    rcases List.eq_nil_or_concat S with rfl | ⟨S0, q, rfl⟩
    · refine ⟨fd, x, y, ?_, by simp⟩
      rw [whL, c0]
      rfl
    · rw [List.concat_eq_append] at *
      have hq : Vd ws g q := hS q (by simp)
      rw [List.flatMap_append, List.flatMap_cons, List.flatMap_nil, List.append_nil, ← List.append_assoc] at hB
      rw [List.map_append, List.sum_append, List.map_cons, List.map_nil, List.sum_cons, List.sum_nil, Nat.add_zero] at hW hn
      have hqw : q.2 ∈ ws := hq.in_ q.2 (by simp)
      have ql := hq.len hg
      obtain ⟨fd', S', y', q1, q2, q3, q4⟩ := inner (ws := ws) (ls := ls) (b := b) hp lk h9 hg hq (fun r hr => hS r (List.mem_append_left _ hr)) (y := y) hB hW
      have nr := near_ok hp lk hl hqw
      have hrl := row_last (l := q.1) (s := q.2)
      have st : b3__law_lines (linE ws ls b g fd (S0 ++ [q]) x y) = .ok .nx (linE ws ls b g fd' S' (.dat (rowQ q)) y') := by
        have em : (S0 ++ [q]).map rowQ = S0.map rowQ ++ [rowQ q] := by simp
        have q1' := q1
        unfold linE at q1' ⊢
        have er : ixD (rowQ q) (.int (-1)) = some (.str q.2) := hrl
        rw [em]
        simp -implicitDefEqProofs [b3__law_lines, er, nr, q1']
      obtain ⟨fd2, x2, y2, r1, r2⟩ := outer hp lk hl h9 hg (n := n) (fd := fd') (S := S') (x := .dat (rowQ q)) (y := y') q2 (by rw [q3.length_eq]; exact hB) (by omega) (by omega)
      refine ⟨fd2, x2, y2, ?_, ?_⟩
      · rw [whL, c0]
        have em : (!(S0 ++ [q]).isEmpty) = true := by simp
        rw [em, v_bnd, if_pos rfl, st, v_bnd]
        exact r1
      · rw [List.flatMap_append, List.flatMap_cons, List.flatMap_nil, List.append_nil, ← List.append_assoc]
        exact r2.trans q3
theorem ext_bound (hp : ∀ w ∈ ws, w ∈ pool) (lk : Lk ws ls) (h9 : ws.length ≤ 9) (hg : g ∈ ws) (hb : b ∈ ws) (hbg : b ≠ g) : (ext (NB ls) g 12 [] b).length ≤ 13700 ∧ nds (NB ls) g 12 [] b ≤ 13700 := by
  have h := nds_le (nb := NB ls) (g := g) (n := 12) (pre := []) (x := b) (fun a c h => NB_in lk h) (fun y => NB_nodup lk y) hg (by simp) (fun y hy => by rw [List.mem_singleton.mp hy]; exact hb) (by simp; exact hbg.symm)
  have h2 := Nat.le_trans h (fct7 (by simp only [List.length_nil]; omega))
  exact ⟨Nat.le_trans (ext_len fun y => NB_nodup lk y) h2, h2⟩
theorem lines_ok (hp : ∀ w ∈ ws, w ∈ pool) (lk : Lk ws ls) (hl : ls.length ≤ 100) (h9 : ws.length ≤ 9) (hg : g ∈ ws) (hb : b ∈ ws) (hbg : b ≠ g) :
    F__law_lines [.dat (netD ws ls), .dat (.str b), .dat (.str g)] [] = .ok (.lst ((ext (NB ls) g 12 [] b).map rowD)) [] := by
  obtain ⟨b1, b2⟩ := ext_bound hp lk h9 hg hb hbg
  have v0 : Vd ws g ([], b) := ⟨by simp, fun y hy => by rw [List.mem_singleton.mp hy]; exact hb, by simp; exact hbg.symm⟩
  have e1 : EX ls g ([], b) = ext (NB ls) g 12 [] b := rfl
  have e2 : WT ls g ([], b) = nds (NB ls) g 12 [] b := rfl
  obtain ⟨fd, x', y', q1, q2⟩ := outer (ws := ws) (ls := ls) (b := b) hp lk hl h9 hg (n := 20000) (fd := []) (S := [([], b)]) (x := .un) (y := .un) (fun r hr => by rw [List.mem_singleton.mp hr]; exact v0)
    (by rw [List.flatMap_cons, List.flatMap_nil, List.append_nil, List.nil_append, e1]; exact b1) (by rw [List.map_cons, List.map_nil, List.sum_cons, List.sum_nil, e2]; omega) (by rw [List.map_cons, List.map_nil, List.sum_cons, List.sum_nil, e2]; omega)
  rw [List.flatMap_cons, List.flatMap_nil, List.append_nil, List.nil_append, e1] at q2
  have hr : ∀ r ∈ fd, r ≠ [] := fun r hr => by
    obtain ⟨t, _, rfl, _⟩ := mem_ext.mp (q2.mem_iff.mp hr)
    simp
  have s1 := sorted_rows hr
  rw [sortD_rows (ext_lt fun y => NB_lt lk y) q2] at s1
  have q1' : whL c2__law_lines b3__law_lines 20000 ⟨[.dat (netD ws ls), .dat (.str b), .dat (.str g), .own (.lst []), .own (.lst [.tup [.str b]]), .un, .un], []⟩ = .ok .nx (linE ws ls b g fd [] x' y') := q1
  unfold linE at q1'
  generalize ext (NB ls) g 12 [] b = E at s1
  have sl1 : 1 ≤ sizeLine := by rw [sizeLine_eq]; omega
  simp -implicitDefEqProofs [F__law_lines, g__law_lines, q1', s1, sl1]
end
end K04

namespace K04
open PySem L2 DL PySem.Spec PyProof.Rows
section
variable {ws : List Str} {ls : List (Str × Str)}
theorem ends_ok (hp : ∀ w ∈ ws, w ∈ pool) (hn : ws.Nodup) (h2 : 2 ≤ ws.length) (h9 : ws.length ≤ 9) {d : D} (hd : JarD d) :
    ∃ (x y : Str) (d' : D), F__law_ends [.jar 0, .dat (netD ws ls)] [d] = .ok (.tup [.str x, .str y]) [d'] ∧ JarD d' ∧ x ∈ ws ∧ y ∈ ws ∧ x ≠ y := by
  obtain ⟨v, d1, a1, a2, a3, a4⟩ := dip_ok (m := ws.length) (by omega) (by omega) hd
  obtain ⟨k, rfl⟩ : ∃ k : Nat, v = k := ⟨v.toNat, by omega⟩
  have hk : k < ws.length := by omega
  have hat : atI (ws.map D.str) (k : Int) = some (.str ws[k]) := at_nat (by rw [List.getElem?_map, List.getElem?_eq_getElem hk]; rfl)
  have hx := List.getElem_mem hk
  generalize ws[k] = x at hat hx
  have c1 : cLc [4] (cIter (cOp ixD (cVar 1) (cC (.int 0)))) (gN 4) (cTest (cOp neD (cVar 4) (cOp ixD (cOp ixD (cVar 1) (cC (.int 0))) (cVar 2)))) (cVar 4) ⟨[.jar 0, .dat (netD ws ls), .dat (.int k), .un, .un], [d1]⟩ =
      .ok (.val (.lst (((ws.map D.str).filter (isNot x)).map id))) ⟨[.jar 0, .dat (netD ws ls), .dat (.int k), .un, .un], [d1]⟩ := by
    refine v_lc1 (isNot x) id (by simp [netD]) rfl (by rw [List.length_map, sizeLine_eq]; omega) fun d hd => ?_
    obtain ⟨w, hw, rfl⟩ := List.mem_map.mp hd
    have e1 : neD (.str w) (.str x) = some (.bl (isNot x (.str w))) := v_neS (pool_ok _ (hp _ hw)) (pool_ok _ (hp _ hx))
    refine ⟨?_, fun _ => ?_⟩
    · simp [netD, hat, e1]
    · simp
  rw [List.map_id, not_map] at c1
  have hne : (ws.filter fun s => !decide (s = x)) ≠ [] := by
    intro z
    have hall : ∀ s ∈ ws, s = x := fun s hs => by
      have := List.filter_eq_nil_iff.mp z s hs
      simpa using this
    have := nd_len (l := ws) (ws := [x]) hn fun s hs => by rw [hall s hs]; simp
    simp only [List.length_cons, List.length_nil] at this
    omega
  obtain ⟨yd, d2, b1, b2, b3⟩ := pick_ok (l := (ws.filter fun s => !decide (s = x)).map D.str) (by simpa using hne) (by
    have := List.length_filter_le (fun s => !decide (s = x)) ws
    rw [List.length_map]
    omega) a2
  obtain ⟨y, hy, rfl⟩ := List.mem_map.mp b3
  obtain ⟨y1, y2⟩ := List.mem_filter.mp hy
  refine ⟨x, y, d2, ?_, b2, hx, y1, fun z => ?_⟩
  · generalize (ws.filter fun s => !decide (s = x)).map D.str = L at c1 b1
    unfold netD at c1 ⊢
    simp -implicitDefEqProofs [F__law_ends, g__law_ends, a1, c1, hat, b1]
  · subst z; simp at y2
theorem jar_ok {ns : List Int} {k : Nat} (hk : k ≤ 63) (hl : ns.length ≤ 63) : ∃ d, F__law_jar [.dat (.scr ns), .dat (.int k)] [] = .ok d [] ∧ JarD d := by
  obtain ⟨mx, hmx⟩ : ∃ mx : Int, mx = 7369 * ((k : Int) + 5) * ((k : Int) + 2) + 29 * (ns.length : Int) := ⟨_, rfl⟩
  obtain ⟨e', q1, m, x3, he⟩ := forL_ok (g := gN 3) (body := b1__law_jar) (ds := (cutL ns none (some 4)).map D.int) (e := ⟨[.dat (.scr ns), .dat (.int k), .dat (.int mx), .un, .un, .un], []⟩)
    (fun ds e => ∃ (m : Int) (x3 : DL.S), (∀ d ∈ ds, ∃ i : Int, d = .int i) ∧ e = ⟨[.dat (.scr ns), .dat (.int k), .dat (.int m), x3, .un, .un], []⟩)
    (fun dd ds e ⟨m, x3, hds, he⟩ => by
      obtain ⟨i, rfl⟩ := hds dd List.mem_cons_self
      subst he
      refine ⟨_, _, rfl, .inl ?_, (m * 733 + i) % 1000000009, .dat (.int i), fun d hd => hds d (List.mem_cons_of_mem _ hd), rfl⟩
      have e1 : (0 : Int) < 1000000009 := by decide
      simp -implicitDefEqProofs [b1__law_jar, v_mulI, v_modI, e1])
    ⟨mx, .un, fun d hd => by obtain ⟨i, _, rfl⟩ := List.mem_map.mp hd; exact ⟨i, rfl⟩, rfl⟩
  obtain ⟨he, rfl⟩ := he
  have m1 : mulD (.int 7369) (.int ((k : Int) + 5)) = some (.int (7369 * ((k : Int) + 5))) := v_mulL (by decide) (by decide)
  have m2 : mulD (.int (7369 * ((k : Int) + 5))) (.int ((k : Int) + 2)) = some (.int (7369 * ((k : Int) + 5) * ((k : Int) + 2))) := v_mulI (by omega) (by omega)
  have m3 : mulD (.int 29) (.int (ns.length : Int)) = some (.int (29 * (ns.length : Int))) := v_mulL (by decide) (by decide)
  have m4 : mulD (.int 105019) (.int ((k : Int) + 1)) = some (.int (105019 * ((k : Int) + 1))) := v_mulL (by decide) (by decide)
  have p1 : powD (.int 10) (.int 18) = some (.int 1000000000000000000) := by rfl
  obtain ⟨own, ho⟩ : ∃ own : Int, cIf (cTest (cOp ltD (cVar 1) (cCB lenD (cCons (cVar 0) cNil)))) (cOp ixD (cVar 0) (cVar 1)) (cC (.int 0)) ⟨[.dat (.scr ns), .dat (.int k), .dat (.int m), x3, .un, .un], []⟩ = .ok (.val (.int own)) ⟨[.dat (.scr ns), .dat (.int k), .dat (.int m), x3, .un, .un], []⟩ := by
    by_cases h : k < ns.length
    · have hat : ixD (.scr ns) (.int k) = some (.int ns[k]) := by
        show (atI ns (k : Int)).map D.int = _
        have : atI ns (k : Int) = some ns[k] := by
          unfold L2.atI L2.ixN
          rw [if_pos (by omega),
                                                                                                              if_pos (by omega)]
          simp [h]
        rw [this]
        rfl
      exact ⟨ns[k], by simp [hat, h]⟩
    · exact ⟨0, by simp [h]⟩
  obtain ⟨dg, hd⟩ : ∃ dg : Int, cIf (cOr (cTest (cOp ltD (cVar 4) (cC (.int 0)))) (cTest (cOp geD (cVar 4) (cOp powD (cC (.int 10)) (cC (.int 18)))))) (cCB absD (cCons (cVar 4) cNil)) (cC (.int 0)) ⟨[.dat (.scr ns), .dat (.int k), .dat (.int m), x3, .dat (.int own), .un], []⟩ = .ok (.val (.int dg)) ⟨[.dat (.scr ns), .dat (.int k), .dat (.int m), x3, .dat (.int own), .un], []⟩ := by
    by_cases h1 : own < 0
    · exact ⟨-own, by simp [h1, absD]⟩
    · by_cases h2 : 1000000000000000000 ≤ own
      · exact ⟨own, by simp [h1, h2, p1, absD]⟩
      · exact ⟨0, by simp [h1, h2, p1]⟩
  refine ⟨.lst [.int dg, .int ((m * 8117 + own * 64013 + 105019 * ((k : Int) + 1)) % 2147483563), .int 0], ?_, ⟨_, _, _, rfl⟩⟩
  have e1 : (0 : Int) < 2147483563 := by decide
  have s3 : 3 ≤ sizeLine := by rw [sizeLine_eq]; omega
  unfold F__law_jar g__law_jar
  simp -implicitDefEqProofs only [v_new, v_nSeq, List.length_cons, List.length_nil, v_env0, List.map_cons, List.map_nil, v_dAt, List.cons_append, List.nil_append, List.replicate, Nat.reduceAdd, Nat.reduceSub, if_true, v_asg, v_op, v_c, v_bnd, v_rdV, v_opt2, DL.v_var, List.getElem?_cons_zero, List.getElem?_cons_succ, v_varD, v_addI, v_opt, m1, m2, m3, v_cb, v_cons, v_nil, v_rds, v_rds0, v_rds2, Option.bind_some, v_lenS, v_frzV, v_asgF, v_set, List.set_cons_succ, List.set_cons_zero]
  rw [← hmx]
  simp -implicitDefEqProofs only [v_for, v_iter, v_sl, DL.v_var, List.getElem?_cons_zero, List.getElem?_cons_succ, v_varD, v_bnd, v_noPart, v_part, v_c, v_partO, v_rdV, Option.bind_some, v_slS, v_opt, v_frzV, v_iterO, v_itL, v_optB, q1]
  simp -implicitDefEqProofs only [ho, hd, v_bnd, v_frzV, v_asgF, v_set, List.set_cons_succ, List.set_cons_zero]
  simp -implicitDefEqProofs [v_mulI, m4, v_modI, e1, s3]
end
end K04

namespace K04
open PySem L2 DL PySem.Spec PyProof.Rows
section
variable {ws : List Str} {ls : List (Str × Str)} {b g : Str}
abbrev ER (ls : List (Str × Str)) (b g : Str) : List (List Str) := ext (NB ls) g 12 [] b
def rsD (E : List (List Str)) : D := .tup (E.map rowD)
structure Wb (ws : List Str) (ls : List (Str × Str)) : Prop where
  nd : ws.Nodup
  pool : ∀ w ∈ ws, w ∈ pool
  lk : Lk ws ls
  h2 : 2 ≤ ws.length
  h9 : ws.length ≤ 9
  hl : ls.length ≤ 16
theorem Wb.row (W : Wb ws ls) (hb : b ∈ ws) (hbg : b ≠ g) : ∀ r ∈ ER ls b g, r.length ≤ 9 ∧ ∀ s ∈ r, s ∈ ws := fun r hr => by
  have sp := (ext_sp (ws := ws) (fun x y h => NB_in W.lk h) hb hbg (n := 12) (by have := W.h9; omega)).mp hr
  have hi := sp_in (fun x y h => NB_in W.lk h) hb sp
  obtain ⟨_, _, nd, _⟩ := id sp
  exact ⟨Nat.le_trans (nd_len nd hi) W.h9, hi⟩
theorem Wb.sh (W : Wb ws ls) (hb : b ∈ ws) (hbg : b ≠ g) : Sh 2 (rsD (ER ls b g)) := sh_rowsT fun r hr s hs => pool_ok _ (W.pool _ ((W.row hb hbg r hr).2 s hs))
theorem Wb.txt (W : Wb ws ls) (hb : b ∈ ws) (hg : g ∈ ws) (hbg : b ≠ g) : Txt 1548103 (rsD (ER ls b g)) :=
  txt_rows (fun r hr => ⟨(W.row hb hbg r hr).1, fun s hs => pool_txt _ (W.pool _ ((W.row hb hbg r hr).2 s hs))⟩) (ext_bound W.pool W.lk W.h9 hg hb hbg).1
theorem Wb.rep (W : Wb ws ls) (hb : b ∈ ws) (hg : g ∈ ws) (hbg : b ≠ g) : ∃ s : Str, reprD [rsD (ER ls b g)] = some (.str s) ∧ PyData.strOk s = true :=
  ⟨_, repr_of rfl (W.sh hb hbg) (by omega) (W.txt hb hg hbg) (by omega), (W.txt hb hg hbg).ok⟩
theorem Wb.rep2 (W : Wb ws ls) (hb : b ∈ ws) (hg : g ∈ ws) (hbg : b ≠ g) : ∃ s : Str, reprD [.lst [rsD (ER ls b g), rsD (ER ls b g)]] = some (.str s) ∧ PyData.strOk s = true := by
  have t : Txt 4000000 (.lst [rsD (ER ls b g), rsD (ER ls b g)]) := (Txt.lst (n := 1548103) fun d hd => by
    have : d = rsD (ER ls b g) := by
      rcases List.mem_cons.mp hd with h | h
      · exact h
      · exact List.mem_singleton.mp h
    rw [this]
    exact W.txt hb hg hbg).mono (by simp only [List.length_cons, List.length_nil]; omega)
  have h : Sh 3 (.lst [rsD (ER ls b g), rsD (ER ls b g)]) := .lst fun d hd => by
    have : d = rsD (ER ls b g) := by
      rcases List.mem_cons.mp hd with h | h
      · exact h
      · exact List.mem_singleton.mp h
    rw [this]
    exact W.sh hb hbg
  exact ⟨_, repr_of rfl h (by omega) t (by omega), t.ok⟩
theorem Wb.rows (W : Wb ws ls) (hb : b ∈ ws) (hg : g ∈ ws) (hbg : b ≠ g) : F_Web_rows [.dat (webD ws ls), .dat (.str b), .dat (.str g)] [] = .ok (rsD (ER ls b g)) [] := rows_ok W.pool W.nd W.lk (by have := W.hl; omega) W.h9 hg hb hbg
theorem Wb.lines (W : Wb ws ls) (hb : b ∈ ws) (hg : g ∈ ws) (hbg : b ≠ g) : F__law_lines [.dat (netD ws ls), .dat (.str b), .dat (.str g)] [] = .ok (.lst ((ER ls b g).map rowD)) [] := lines_ok W.pool W.lk (by have := W.hl; omega) W.h9 hg hb hbg
theorem Wb.turn (W : Wb ws ls) (hb : b ∈ ws) (hg : g ∈ ws) (hbg : b ≠ g) : sortedD [.lst (((ER ls g b).map List.reverse).map rowD)] = some (.lst ((ER ls b g).map rowD)) := by
  have p := ext_turn (nb := NB ls) (ws := ws) (fun x y h => NB_in W.lk h) (fun x y h => mem_NB.mpr (adj_symm (mem_NB.mp h))) (fun x => NB_lt W.lk x) hb hg hbg (n := 12) (by have := W.h9; omega)
  have hne : ∀ r ∈ (ER ls g b).map List.reverse, r ≠ [] := fun r hr => by
    obtain ⟨t, _, rfl, _⟩ := mem_ext.mp (p.mem_iff.mp hr)
    simp
  rw [sorted_rows hne, sortD_rows (ext_lt fun y => NB_lt W.lk y) p]
def rtE (ws : List Str) (ls : List (Str × Str)) (pl : D) (s3 w5 s6 s7 s8 s10 : S) (d : D) : DL.Env := ⟨[.jar 0, .dat (netD ws ls), .dat pl, s3, .un, w5, s6, s7, s8, .un, s10], [d]⟩
theorem turn2 (W : Wb ws ls) (hb : b ∈ ws) (hg : g ∈ ws) (hbg : b ≠ g) {pl d : D} {s3 s8 s10 : S} :
    b2__law_right (rtE ws ls pl s3 (.dat (webD ws ls)) (.dat (.str b)) (.dat (.str g)) s8 s10 d) = .ok .nx (rtE ws ls pl s3 (.dat (webD ws ls)) (.dat (.str b)) (.dat (.str g)) (.dat (rsD (ER ls b g))) s10 d) := by
  have l1 := W.lines hb hg hbg
  have r1 := W.rows hb hg hbg
  have r2 := W.rows hg hb hbg.symm
  obtain ⟨s, p1, p2⟩ := W.rep2 hb hg hbg
  have n1 : neD (.str s) (.str s) = some (.bl false) := neD_self (k := 0) (.str p2) (by omega)
  have n2 : neD (rsD (ER ls b g)) (rsD (ER ls b g)) = some (.bl false) := neD_self (W.sh hb hbg) (by omega)
  have st := W.turn hb hg hbg
  have hE : (ER ls g b).length ≤ 13700 := (ext_bound W.pool W.lk W.h9 hb hg hbg.symm).1
  have o1 : (isObjC "Web" (webD ws ls) && !hasN "rows" (webD ws ls)) = true := by
    have : isObjC "Web" (webD ws ls) = true := by simp [webD]
    have h2 : hasN "rows" (webD ws ls) = false := by show (["both"] : List Str).contains "rows" = false; decide +kernel
    rw [this, h2]
    rfl
  have pm : ∀ a c d : D, prm [0, 2, 1] [a, c, d] = [a, d, c] := fun _ _ _ => rfl
  have tp : ∀ E : List (List Str), tupleD [.lst (E.map rowD)] = some (rsD E) := fun _ => rfl
  have c1 : cLc [9] (cIter (cMeth "Web" "rows" F_Web_rows (cVar 5) (cCons (cVar 7) (cCons (cVar 6) cNil)))) (gN 9) tYs (cRevT (cVar 9)) (rtE ws ls pl s3 (.dat (webD ws ls)) (.dat (.str b)) (.dat (.str g)) (.dat (rsD (ER ls b g))) s10 d) =
      .ok (.val (.lst ((((ER ls g b).map rowD).filter fun _ => true).map fun r => (revD r).getD r))) (rtE ws ls pl s3 (.dat (webD ws ls)) (.dat (.str b)) (.dat (.str g)) (.dat (rsD (ER ls b g))) s10 d) := by
    refine v_lc1 (fun _ => true) (fun r => (revD r).getD r) ?_ rfl (by rw [List.length_map, sizeLine_eq]; omega) fun r hr => ⟨rfl, fun _ => ?_⟩
    · simp -implicitDefEqProofs only [rtE, v_iter, v_meth, DL.v_var, List.getElem?_cons_zero, List.getElem?_cons_succ, v_varD, v_bnd, v_frzV, v_methO, o1, if_true, v_cons, v_nil, v_frzs, v_frz2, v_frzs0, v_frzC, v_methF, List.map_cons, List.map_nil, r2, v_callO, v_iterO]
      rfl
    · obtain ⟨l, _, rfl⟩ := List.mem_map.mp hr
      simp [rtE, rowD]
  have e2 : (((ER ls g b).map rowD).filter fun _ => true).map (fun r => (revD r).getD r) = ((ER ls g b).map List.reverse).map rowD := by
    rw [List.filter_eq_self.mpr fun _ _ => rfl, List.map_map, List.map_map]
    refine List.map_congr_left fun r _ => ?_
    simp [rowD]
  rw [e2] at c1
  unfold rtE at c1 ⊢
  simp -implicitDefEqProofs only [b2__law_right, v_seq, v_asg, v_cb, v_cons, v_nil, v_call, DL.v_var, List.getElem?_cons_zero, List.getElem?_cons_succ, v_varD, v_bnd, v_frzs, v_frzV, v_frz2, v_frzs0, v_frzC, v_callF, List.map_cons, List.map_nil, l1, v_callO, v_rds, v_rds0, v_rds2, v_rdV, Option.bind_some, tp, v_opt, v_asgF, v_set, List.set_cons_succ, List.set_cons_zero, v_nx,
    v_sIf, v_tst, v_op, v_lst, v_meth, v_methO, o1, if_true, v_methF, r1, v_methK, v_methKO, v_methK1, v_methK2, List.length_cons, List.length_nil, List.cons_append, List.nil_append, pm, and_self, v_lstO2, p1, v_opt2, n1, v_tstO, Bool.false_eq_true, if_false, v_sNx, c1, st, n2, Nat.reduceAdd]
theorem turn3 (W : Wb ws ls) {pl d : D} {s3 s6 s7 s8 s10 : S} (hd : JarD d) :
    ∃ (s6' s7' : S) (d' : D), b3__law_right (rtE ws ls pl s3 (.dat (webD ws ls)) s6 s7 s8 s10 d) = .ok .nx (rtE ws ls pl s3 (.dat (webD ws ls)) s6' s7' s8 s10 d') ∧ JarD d' := by
  obtain ⟨b, g, d', a1, a2, hb, hg, hbg⟩ := ends_ok (ls := ls) W.pool W.nd W.h2 W.h9 hd
  have l1 := W.lines hb hg hbg
  have r1 := W.rows hb hg hbg
  obtain ⟨s, p1, p2⟩ := W.rep hb hg hbg
  have n1 : neD (.str s) (.str s) = some (.bl false) := neD_self (k := 0) (.str p2) (by omega)
  have o1 : (isObjC "Web" (webD ws ls) && !hasN "rows" (webD ws ls)) = true := by
    have : isObjC "Web" (webD ws ls) = true := by simp [webD]
    have h2 : hasN "rows" (webD ws ls) = false := by show (["both"] : List Str).contains "rows" = false; decide +kernel
    rw [this, h2]
    rfl
  have tp : ∀ E : List (List Str), tupleD [.lst (E.map rowD)] = some (rsD E) := fun _ => rfl
  refine ⟨.dat (.str b), .dat (.str g), d', ?_, a2⟩
  unfold rtE
  simp -implicitDefEqProofs only [b3__law_right, v_seq, v_asgT, v_callJ, v_cons, DL.v_var, List.getElem?_cons_zero, List.getElem?_cons_succ, v_varJ, v_varD, v_bnd, v_nil, v_callX, v_rdW, v_rdOj, v_callY, v_frzs, v_frzV, v_frz2, v_frzs0, v_frzC, v_callW, v_callV, List.map_cons, List.map_nil, a1, v_callJo, v_put, v_putOj, v_outE, List.set_cons_zero, v_gT, v_gTs, v_gN, v_gTs0, Option.bind_some, v_set, List.set_cons_succ, v_nx]
  simp -implicitDefEqProofs only [v_sIf, v_tst, v_op, v_cb, v_cons, v_nil, v_call, DL.v_var, List.getElem?_cons_zero, List.getElem?_cons_succ, v_varD, v_bnd, v_frzs, v_frzV, v_frz2, v_frzs0, v_frzC, v_callF, List.map_cons, List.map_nil, l1, v_callO, v_rds, v_rds0, v_rds2, v_rdV, Option.bind_some, tp, v_opt, v_meth, v_methO, o1, if_true, v_methF, r1, p1, v_opt2, n1, v_tstO, Bool.false_eq_true, if_false, v_sNx]
end
end K04

namespace K04
open PySem L2 DL PySem.Spec PyProof.Rows
section
variable {ws : List Str} {ls : List (Str × Str)}
theorem loop1 (W : Wb ws ls) {d : D} : ∃ (PL : List (Str × Str)) (s3 : S), forL (gN 3) b1__law_right (ws.map D.str) (rtE ws ls (.lst []) .un .un .un .un .un .un d) = .ok .nx (rtE ws ls (.lst (PL.map tieD)) s3 .un .un .un .un .un d) ∧
    (∀ p ∈ PL, p.1 ∈ ws ∧ p.2 ∈ ws ∧ p.1 ≠ p.2) ∧ PL.length ≤ 81 := by
  have h9 := W.h9
  obtain ⟨e', q1, PL, rest, s3, hds, hr, hP, hL, he⟩ := forL_ok (g := gN 3) (body := b1__law_right) (ds := ws.map D.str) (e := rtE ws ls (.lst []) .un .un .un .un .un .un d)
    (fun ds e => ∃ (PL : List (Str × Str)) (rest : List Str) (s3 : S), ds = rest.map D.str ∧ (∀ x ∈ rest, x ∈ ws) ∧ (∀ p ∈ PL, p.1 ∈ ws ∧ p.2 ∈ ws ∧ p.1 ≠ p.2) ∧ PL.length + 9 * rest.length ≤ 81 ∧ e = rtE ws ls (.lst (PL.map tieD)) s3 .un .un .un .un .un d)
    (fun dd ds e ⟨PL, rest, s3, hds, hr, hP, hL, he⟩ => by
      cases rest with
      | nil => cases hds
      | cons x rest =>
        cases hds
        subst he
        have hx := hr x List.mem_cons_self
        have hf := List.length_filter_le (fun s => !decide (s = x)) ws
        rw [List.length_cons] at hL
        have c1 : cLc [4] (cIter (cOp ixD (cVar 1) (cC (.int 0)))) (gN 4) (cTest (cOp neD (cVar 4) (cVar 3))) (cTup (cCons (cVar 3) (cCons (cVar 4) cNil))) (rtE ws ls (.lst (PL.map tieD)) (.dat (.str x)) .un .un .un .un .un d) =
            .ok (.val (.lst (((ws.map D.str).filter (isNot x)).map fun o => .tup [.str x, o]))) (rtE ws ls (.lst (PL.map tieD)) (.dat (.str x)) .un .un .un .un .un d) := by
          refine v_lc1 (isNot x) (fun o => .tup [.str x, o]) (by simp [rtE, netD]) rfl (by rw [List.length_map, sizeLine_eq]; omega) fun o ho => ?_
          obtain ⟨w, hw, rfl⟩ := List.mem_map.mp ho
          have e1 : neD (.str w) (.str x) = some (.bl (isNot x (.str w))) := v_neS (pool_ok _ (W.pool _ hw)) (pool_ok _ (W.pool _ hx))
          refine ⟨?_, fun _ => ?_⟩
          · simp [rtE, e1]
          · simp [rtE]
        have e2 : ((ws.map D.str).filter (isNot x)).map (fun o => D.tup [.str x, o]) = ((ws.filter fun s => !decide (s = x)).map fun o => (x, o)).map tieD := by
          rw [not_map, List.map_map, List.map_map]
          rfl
        rw [e2] at c1
        have a1 := v_addL (a := PL.map tieD) (b := ((ws.filter fun s => !decide (s = x)).map fun o => (x, o)).map tieD) (by rw [List.length_map, List.length_map, List.length_map]; omega)
        rw [← List.map_append] at a1
        refine ⟨rtE ws ls (.lst (PL.map tieD)) (.dat (.str x)) .un .un .un .un .un d, rtE ws ls (.lst ((PL ++ (ws.filter fun s => !decide (s = x)).map fun o => (x, o)).map tieD)) (.dat (.str x)) .un .un .un .un .un d, rfl, .inl ?_, _, rest, .dat (.str x), rfl, fun y hy => hr y (List.mem_cons_of_mem _ hy), fun p hp => ?_, ?_, rfl⟩
        · unfold rtE at c1 ⊢
          simp -implicitDefEqProofs only [b1__law_right, v_asg, v_op, DL.v_var, List.getElem?_cons_zero, List.getElem?_cons_succ, v_varD, v_bnd, c1, v_rdV, v_opt2, a1, v_opt, v_frzV, v_asgF, v_set, List.set_cons_succ, List.set_cons_zero]
        · rcases List.mem_append.mp
                                                                                                              hp with hp | hp
          · exact hP p hp
          · obtain ⟨o, ho, rfl⟩ := List.mem_map.mp hp
            obtain ⟨o1, o2⟩ := List.mem_filter.mp ho
            exact ⟨hx, o1, fun z => by have z : x = o := z; subst z; simp at o2⟩
        · rw [List.length_append, List.length_map]
          omega)
    ⟨[], ws, .un, rfl, fun _ h => h, (fun p h => nomatch h), by simp only [List.length_nil]; omega, rfl⟩
  cases rest with
  | cons x r => cases hds
  | nil => exact ⟨PL, s3, he ▸ q1, hP, by simpa using hL⟩
theorem loop2 (W : Wb ws ls) {PL : List (Str × Str)} (hP : ∀ p ∈ PL, p.1 ∈ ws ∧ p.2 ∈ ws ∧ p.1 ≠ p.2) {pl d : D} {s3 : S} : ∃ s6 s7 s8 : S, forL (gT [gN 6, gN 7]) b2__law_right (PL.map tieD) (rtE ws ls pl s3 (.dat (webD ws ls)) .un .un .un .un d) = .ok .nx (rtE ws ls pl s3 (.dat (webD ws ls)) s6 s7 s8 .un d) := by
  obtain ⟨e', q1, rest, s6, s7, s8, hds, hr, he⟩ := forL_ok (g := gT [gN 6, gN 7]) (body := b2__law_right) (ds := PL.map tieD) (e := rtE ws ls pl s3 (.dat (webD ws ls)) .un .un .un .un d)
    (fun ds e => ∃ (rest : List (Str × Str)) (s6 s7 s8 : S), ds = rest.map tieD ∧ (∀ p ∈ rest, p.1 ∈ ws ∧ p.2 ∈ ws ∧ p.1 ≠ p.2) ∧ e = rtE ws ls pl s3 (.dat (webD ws ls)) s6 s7 s8 .un d)
    (fun dd ds e ⟨rest, s6, s7, s8, hds, hr, he⟩ => by
      cases rest with
      | nil => cases hds
      | cons p rest =>
        cases hds
        subst he
        obtain ⟨h1, h2, h3⟩ := hr p List.mem_cons_self
        have t := turn2 W h1 h2 h3 (pl := pl) (d := d) (s3 := s3) (s8 := s8) (s10 := .un)
        refine ⟨rtE ws ls pl s3 (.dat (webD ws ls)) (.dat (.str p.1)) (.dat (.str p.2)) s8 .un d, _, rfl, .inl t, rest, _, _, _, rfl, fun q hq => hr q (List.mem_cons_of_mem _ hq), rfl⟩)
    ⟨PL, .un, .un, .un, rfl, hP, rfl⟩
  cases rest with
  | cons x r => cases hds
  | nil => exact ⟨s6, s7, s8, he ▸ q1⟩
theorem loop3 (W : Wb ws ls) {n : Nat} {pl d : D} (hd : JarD d) {s3 s6 s7 s8 : S} : ∃ (s6' s7' s10 : S) (d' : D), forL (gN 10) b3__law_right (rng 0 n) (rtE ws ls pl s3 (.dat (webD ws ls)) s6 s7 s8 .un d) = .ok .nx (rtE ws ls pl s3 (.dat (webD ws ls)) s6' s7' s8 s10 d') ∧ JarD d' := by
  obtain ⟨e', q1, s6, s7, s10, d', hd', he⟩ := forL_ok (g := gN 10) (body := b3__law_right) (ds := rng 0 n) (e := rtE ws ls pl s3 (.dat (webD ws ls)) s6 s7 s8 .un d)
    (fun ds e => ∃ (s6 s7 s10 : S) (d : D), JarD d ∧ e = rtE ws ls pl s3 (.dat (webD ws ls)) s6 s7 s8 s10 d)
    (fun dd ds e ⟨s6, s7, s10, d, hd, he⟩ => by
      subst he
      obtain ⟨a, c, d2, t1, t2⟩ := turn3 W (pl := pl) (s3 := s3) (s6 := s6) (s7 := s7) (s8 := s8) (s10 := .dat dd) hd
      exact ⟨rtE ws ls pl s3 (.dat (webD ws ls)) s6 s7 s8 (.dat dd) d, _, rfl, .inl t1, a, c, .dat dd, d2, t2, rfl⟩)
    ⟨s6, s7, .un, d, hd, rfl⟩
  exact ⟨s6, s7, s10, d', he ▸ q1, hd'⟩
end
theorem wb_of {lo hi mx : Nat} {ws : List Str} {ls : List (Str × Str)} (N : Net lo hi mx ws ls) (h2 : 2 ≤ lo) (h9 : hi ≤ 9) (h16 : mx ≤ 16) : Wb ws ls := ⟨N.nd, N.pool, N.lk, Nat.le_trans h2 N.lo, Nat.le_trans N.hi h9, Nat.le_trans N.mx h16⟩
theorem right_ok {d : D} (hd : JarD d) : ∃ d', F__law_right [.jar 0] [d] = .ok (.bl true) [d'] := by
  obtain ⟨ws, ls, d1, a1, a2, a3⟩ := net_ok (lo := 2) (hi := 6) (mx := 12) (by omega) (by omega) (by omega) hd
  have W := wb_of a3 (by omega) (by omega) (by omega)
  obtain ⟨PL, s3, b1, b2, b3⟩ := loop1 W (d := d1)
  obtain ⟨s6, s7, s8, c1⟩ := loop2 W b2 (pl := .lst (PL.map tieD)) (d := d1) (s3 := s3)
  obtain ⟨ws2, ls2, d2, e1, e2, e3⟩ := net_ok (lo := 7) (hi := 9) (mx := 14) (by omega) (by omega) (by omega) a2
  have W2 := wb_of e3 (by omega) (by omega) (by omega)
  obtain ⟨s6', s7', s10, d3, f1, f2⟩ := loop3 W2 (n := 3) (pl := .lst (PL.map tieD)) (s3 := s3) (s6 := s6) (s7 := s7) (s8 := s8) e2
  have m1 := made_ok W.nd W.pool W.h2 W.h9 W.lk W.hl
  have m2 := made_ok W2.nd W2.pool W2.h2 W2.h9 W2.lk W2.hl
  have x1 : ixD (netD ws ls) (.int 0) = some (.tup (ws.map D.str)) := by simp [netD]
  have a1' : F__law_net [.jar 0, .dat (.int 2), .dat (.int 6), .dat (.int 12)] [d] = .ok (netD ws ls) [d1] := a1
  have e1' : F__law_net [.jar 0, .dat (.int 7), .dat (.int 9), .dat (.int 14)] [d1] = .ok (netD ws2 ls2) [d2] := e1
  have r3 : rngI1 [.val (.int 3)] = some (rng 0 3) := rfl
  refine ⟨d3, ?_⟩
  unfold rtE at b1 c1 f1
  simp -implicitDefEqProofs only [F__law_right, g__law_right, v_fn, List.length_cons, List.length_nil, v_env0, List.map_cons, List.map_nil, v_cAt, v_dAt, List.cons_append, List.nil_append, List.replicate, Nat.reduceAdd, Nat.reduceSub, if_true, v_seq, v_asg, v_callJ, v_cons, DL.v_var, List.getElem?_cons_zero, List.getElem?_cons_succ, v_varJ, v_varD, v_c, v_bnd, v_nil, v_callX, v_rdW, v_rdOj, v_callY, v_frzs, v_frzV, v_frz2, v_frzs0, v_frzC, v_callW, v_callV, a1', v_callJo, v_put, v_putOj, v_outE, List.set_cons_zero, v_asgF, v_set, List.set_cons_succ, v_nx,
    v_lst, v_lstO0, v_for, v_iter, v_op, v_rdV, v_opt2, x1, v_opt, v_iterO, v_itT, v_itL, v_optB, b1, v_call, v_callF, m1, v_callO, c1, e1', m2, v_range1, r3, f1, v_ret, v_retF, v_outR]
theorem holds : ∀ ns : List Int, ns.length ≤ 63 → F_law [.dat (.scr ns)] [] = .ok (.bl true) [] := by
  intro ns hl
  obtain ⟨m, hm⟩ : ∃ m : Int, m = if (if (5 : Int) < ns.length then (5 : Int) else ns.length) > 2 then (if (5 : Int) < ns.length then (5 : Int) else ns.length) else 2 := ⟨_, rfl⟩
  have h5 : m ≤ 5 := by rw [hm]; split <;> split <;> omega
  have h0 : 0 ≤ m := by rw [hm]; split <;> split <;> omega
  obtain ⟨n, rfl⟩ : ∃ n : Nat, m = n := ⟨m.toNat, by omega⟩
  obtain ⟨e', q1, k, x, _, _, he⟩ := forL_ok (g := gN 1) (body := b1_law) (ds := rng 0 n) (e := ⟨[.dat (.scr ns), .un], []⟩)
    (fun ds e => ∃ (k : Nat) (x : S), k ≤ n ∧ ds = rng k (n - k) ∧ e = ⟨[.dat (.scr ns), x], []⟩)
    (fun dd ds e ⟨k, x, hk, hd, he⟩ => by
      have hlt : k < n := by
        rcases Nat.lt_or_ge k n with h | h
        · exact h
        · rw [show n - k = 0 by omega] at hd
          cases hd
      rw [show n - k = (n - (k + 1)) + 1 by omega, rng_cons] at hd
      cases hd
      subst he
      obtain ⟨d, j1, j2⟩ := jar_ok (ns := ns) (k := k) (by omega) hl
      obtain ⟨d', r1⟩ := right_ok j2
      refine ⟨⟨[.dat (.scr ns), .dat (.int k)], []⟩, ⟨[.dat (.scr ns), .dat (.int k)], []⟩, rfl, .inl ?_, k + 1, .dat (.int k), hlt, by rw [show ((k + 1 : Nat) : Int) = (k : Int) + 1 by omega], rfl⟩
      simp -implicitDefEqProofs only [b1_law, v_sIf, DL.v_not, v_tru, v_callT, v_nCall, v_cons, DL.v_var, List.getElem?_cons_zero, List.getElem?_cons_succ, v_varD, v_bnd, v_nil, v_frzs, v_frzV, v_frz2, v_frzs0, v_frzC, v_nCallO, List.map_cons, List.map_nil, j1, v_callN, r1, v_callTo, v_rdV, Option.bind_some, v_truB, v_optB, Bool.not_true, Bool.false_eq_true, if_false, v_sNx])
    ⟨0, .un, Nat.zero_le _, by simp, rfl⟩
  subst he
  have r1 : rngI1 [.val (.int (n : Int))] = some (rng 0 n) := v_rng (by omega) (by omega)
  simp -implicitDefEqProofs only [F_law, g_law, v_fn, List.length_cons, List.length_nil, v_env0, List.map_cons, List.map_nil, v_dAt, List.cons_append, List.nil_append, List.replicate, Nat.reduceAdd, Nat.reduceSub, if_true, v_seq, v_for, v_range1, v_cons, v_cb, v_c, v_bnd, DL.v_var, List.getElem?_cons_zero, List.getElem?_cons_succ, v_varD, v_nil, v_rds, v_rds0, v_rds2, v_rdV, Option.bind_some, v_lenS, v_opt, v_min, v_max]
  rw [← hm, r1]
  simp -implicitDefEqProofs only [v_optB, v_bnd, q1, v_nx, v_ret, v_c, v_frzV, v_retF, v_outR]
end K04

namespace K04
open PySem L2 DL PySem.Spec PyProof.Rows

def loose0 : List Str := ["_wall", "WrongValue", "InvalidText", "InvalidTie", "SamePlace", "InvalidPlaces", "InvalidTies", "WrongName", "UnknownPlace", "MOST_PLACES", "MOST_TIES", "SMALL", "LONGEST", "HEAD", "TIE", "is_name", "is_pair", "check_places", "is_tie", "check_ties", "index_in", "Web", "web_told", "web_of", "check_place", "check_goal", "beside_in", "paths", "longer_paths", "_law_jar"]
def loose1 : List Str := ["_law_dip", "_law_pick", "_law_names", "_law_net", "_law_near", "_law_lines", "_law_ends", "_law_made", "_law_right"]
def loose : List Str := loose0 ++ loose1
theorem run (w : World) : HandSHeadRun.RunEq R (PySem.W.view R.prog [42]) hk ob 20000 loose w := by
  intro os
  kernel_rfl
end K04

open PySem PyProof.Rows PySem.W PySem.Calls
theorem PySem.Challenge.cw_hurryways_k04_whole_rows_of_a_web_holds : PySem.Challenge.rw_hurryways_k04_whole_rows_of_a_web.Holds := by
  w_on; o_law
  refine HandSHeadRun.head_any (r := OpenLaw.row PySem.Challenge.rw_hurryways_k04_whole_rows_of_a_web) (q := view (OpenLaw.row PySem.Challenge.rw_hurryways_k04_whole_rows_of_a_web).prog [42]) (H := K04.hk) (ob := K04.ob) (M := 20000) (loose := K04.loose)
    (d := HandSHeadRun.topDef (OpenLaw.row PySem.Challenge.rw_hurryways_k04_whole_rows_of_a_web).prog 42) (kwd := []) K04.ob_eq (by kernel_rfl) (fun s => by kernel_rfl) K04.run (by kernel_rfl) (by kernel_rfl) (by kernel_rfl) (by rfl)
    (by first | assumption | decide +kernel) (by decide +kernel) ⟨rfl, rfl, rfl, rfl, rfl, by decide +kernel⟩ ?hw ?hc
  case hw => w_witness2
  case hc =>
    refine DL.walk_D (l := PySem.Challenge.rw_hurryways_k04_whole_rows_of_a_web) (n := 63) (k := 16) (x := "_law_script") (Φ := K04.F_law) rfl (by decide) (by kernel_rfl) ⟨rfl, by decide, by decide⟩ ?F K04.holds
    intro w mg fa h Y G hmg0
    obtain ⟨K, KX, c⟩ := Y
    have hmg : mg ("law" : PySem.Str)
                                                                                                              = some (.ref fa) := by
      have e : (HandSHeadRun.topDef (OpenLaw.row PySem.Challenge.rw_hurryways_k04_whole_rows_of_a_web).prog 42).name = ("law" : PySem.Str) := by kernel_rfl
      rw [← e]
      exact hmg0
    obtain ⟨T, hT⟩ := K04.facts KX G c
    have ea : fa = T.a_law := by
      have z := hmg.symm.trans T.m_law
      cases z
      rfl
    subst ea
    exact ⟨K, T.d_law, K04.clK K, KX, fun s v => L2.FunD.bindsA (ps := ["_law_script"]) T.F_law (fun _ _ _ _ _ _ us hl => match us, hl with | [_], _ => rfl) s [v] rfl, fun base _ _ => (K04.ok_law T)⟩

