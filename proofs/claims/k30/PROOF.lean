import PyProof.Rows.All
import Wide.All
import OpenK.AllK
import Wide.FinOn
import HandS.ForMost
import HandS.ForExc
import HandS.CallSlots
import HandS.Deep
import HandS.HeadHook2
import HandS.Property
import HandS.Zip
import HandS.TupAny
import HandS.TupMul
import HandS.IsInst
import HandS.Text
import HandS.Conv
import HandS.Defaults
import KE.SortData
import HandS.DictComp
import HandS.Head0
import HandS.Head1
import HandS.Head2
import HandS.HeadEnd
import KE.SortKeyHeap
import KE.KSortKey
import HandS.SortKw
import HandS.Strs
import PySem.Challenge.RW_hurryways_k30_whole_slack_of_ties
set_option Elab.async false
set_option linter.all false
set_option maxRecDepth 100000
set_option maxHeartbeats 0
namespace DL
open PySem L2 PySem.Spec PyProof.Rows

/-! ### data -/
inductive D where
  | non | bl (b : Bool) | int (i : Int) | str (s : Str)
  | tup (l : List D) | lst (l : List D)
  | dct (ks : List Key) (l : List D) | dcT (ks : List (List Key)) (l : List D)
  | obj (c : Str) (ns : List Str) (l : List D)
  | scr (l : List Int)

section
variable (K : PySem.W.Frag) (cl : Str → Addr) (G : Hp)
mutual
inductive Rep : D → V → Prop
  | non : Rep .non .non
  | bl {b : Bool} : Rep (.bl b) (.bl b)
  | int {i : Int} : Rep (.int i) (.int i)
  | str {s : Str} : Rep (.str s) (.str s)
  | tup {l : List D} {a : Addr} {vs : List V} : SqT K G a vs → RepL l vs → Rep (.tup l) (.ref a)
  | lst {l : List D} {a : Addr} {vs : List V} : G a = some (.lst vs) → RepL l vs → Rep (.lst l) (.ref a)
  | scr {l : List Int} {a : Addr} : SqL K G a (l.map V.int) → Rep (.scr l) (.ref a)
  | dct {ks : List Key} {l : List D} {a : Addr} {vs : List V} : Rd G a (.dK (ks.zip vs)) → ks.length = vs.length → RepL l vs → Rep (.dct ks l) (.ref a)
  | dcT {ks : List (List Key)} {l : List D} {a : Addr} {vs : List V} : Rd G a (.dT (ks.zip vs)) → ks.length = vs.length → RepL l vs → Rep (.dcT ks l) (.ref a)
  | obj {c : Str} {ns : List Str} {l : List D} {a dx : Addr} {vs : List V} : G a = some (.ins (cl c) dx (ns.zip vs)) → ns.length = vs.length → RepL l vs → Rep (.obj c ns l) (.ref a)
inductive RepL : List D → List V → Prop
  | nil : RepL [] []
  | cons {d : D} {v : V} {ds : List D} {vs : List V} : Rep d v → RepL ds vs → RepL (d :: ds) (v :: vs)
end
end

theorem Rd.same {H H' : Hp} {a : Addr} {u : HO} (e : Same H H') (h : Rd H a u) : Rd H' a u := by
  rcases h with h | ⟨o, h⟩
  · exact .inl (e _ _ h)
  · exact .inr ⟨o, e _ _ h⟩
theorem SqT.same {K : PySem.W.Frag} {H H' : Hp} {a : Addr} {xs : List V} (e : Same H H') (h : SqT K H a xs) : SqT K H' a xs := by
  rcases h with (h
                                                                                                              | ⟨o, h⟩) | h
  · exact .inl (.inl (e _ _ h))
  · exact .inl (.inr
                                                                                                              ⟨o, e _ _ h⟩)
  · exact .inr h

section
variable {K : PySem.W.Frag} {cl : Str → Addr} {G G' H : Hp}
mutual
theorem Rep.mono (e : Same G G') : ∀ {d : D} {v : V}, Rep K cl G d v → Rep K cl G' d v
  | _, _, .non => .non
  | _, _, .bl => .bl
  | _, _, .int => .int
  | _, _, .str => .str
  | _, _, .tup h r => .tup (SqT.same e h) (RepL.mono e r)
  | _, _, .lst h r => .lst (e _ _ h) (RepL.mono e r)
  | _, _, .scr h => .scr (Same.seq e h)
  | _, _, .dct h l r => .dct (Rd.same e h) l (RepL.mono e r)
  | _, _, .dcT h l r => .dcT (Rd.same e h) l (RepL.mono e r)
  | _, _, .obj h l r => .obj (e _ _ h) l (RepL.mono e r)
theorem RepL.mono (e : Same G G') : ∀ {d : List D} {v : List V}, RepL K cl G d v → RepL K cl G' d v
  | _, _, .nil => .nil
  | _, _, .cons h r => .cons (Rep.mono e h) (RepL.mono e r)
end

theorem RepL.length : ∀ {ds : List D} {vs : List V}, RepL K cl G ds vs → ds.length = vs.length
  | _, _, .nil => rfl
  | _, _, .cons _ r => congrArg (· + 1) (RepL.length r)
theorem RepL.get : ∀ {ds : List D} {vs : List V} {i : Nat} {v : V}, RepL K cl G ds vs → vs[i]? = some v → ∃ d, ds[i]? = some d ∧ Rep K cl G d v
  | _, _, _, _, .nil, e =>
                                                                                                              by simp at e
  | _, _, 0, _, .cons r _, e =>
                                                                                                              by simp at e; subst e; exact ⟨_, rfl, r⟩
  | _, _, i + 1, v, .cons _ t, e => by
    obtain ⟨d, h1, h2⟩ := RepL.get (i := i) (v := v) t (by simpa using e)
    exact ⟨d, by simpa using h1, h2⟩
theorem RepL.getD : ∀ {ds : List D} {vs : List V} {i : Nat} {d : D}, RepL K cl G ds vs → ds[i]? = some d → ∃ v, vs[i]? = some v ∧ Rep K cl G d v
  | _, _, _, _, .nil, e =>
                                                                                                              by simp at e
  | _, _, 0, _, .cons r _, e =>
                                                                                                              by simp at e; subst e; exact ⟨_, rfl, r⟩
  | _, _, i + 1, d, .cons _ t, e => by
    obtain ⟨v, h1, h2⟩ := RepL.getD (i := i) (d := d) t (by simpa using e)
    exact ⟨v, by simpa using h1, h2⟩
theorem RepL.append : ∀ {ds es : List D} {vs us : List V}, RepL K cl G ds vs → RepL K cl G es us → RepL K cl G (ds ++ es) (vs ++ us)
  | _, _, _, _, .nil, s => s
  | _, _, _, _, .cons r t, s => .cons r (RepL.append t s)
theorem RepL.take : ∀ {ds : List D} {vs : List V} (n : Nat), RepL K cl G ds vs → RepL K cl G (ds.take n) (vs.take n)
  | _, _, 0, _ => .nil
  | _, _, _ + 1, .nil => .nil
  | _, _, n + 1, .cons r t => .cons r (RepL.take n t)
theorem RepL.drop : ∀ {ds : List D} {vs : List V} (n : Nat), RepL K cl G ds vs → RepL K cl G (ds.drop n) (vs.drop n)
  | _, _, 0, r => r
  | _, _, _ + 1, .nil => .nil
  | _, _, n + 1, .cons _ t => RepL.drop n t
theorem RepL.reverse {ds : List D} {vs : List V} (h : RepL K cl G ds vs) : RepL K cl G ds.reverse vs.reverse := by
  match ds, vs, h with
  | _, _, .nil => exact .nil
  | _, _, .cons r t => simp only [List.reverse_cons]; exact (RepL.reverse t).append (.cons r .nil)
theorem RepL.set {d : D} {v : V} (r : Rep K cl G d v) : ∀ {ds : List D} {vs : List V} (i : Nat), RepL K cl G ds vs → RepL K cl G (ds.set i d) (vs.set i v)
  | _, _, _, .nil => .nil
  | _, _, 0, .cons _ t =>
                                                                                                              .cons r t
  | _, _, i + 1, .cons q t => .cons q (RepL.set r i t)
theorem RepL.dropLast : ∀ {ds : List D} {vs : List V}, RepL K cl G ds vs → RepL K cl G ds.dropLast vs.dropLast
  | _, _, .nil => .nil
  | _, _, .cons _ .nil => .nil
  | _, _, .cons r (.cons q t) => .cons r (RepL.dropLast (.cons q t))
theorem RepL.ints : ∀ {ns : List Int} {vs : List V}, RepL K cl G (ns.map D.int) vs → vs = ns.map V.int
  | [], _, .nil => rfl
  | _ :: _, _, .cons .int t => by rw [RepL.ints t]; rfl
theorem RepL.strs : ∀ {ns : List Str} {vs : List V}, RepL K cl G (ns.map D.str) vs → vs = ns.map V.str
  | [], _, .nil => rfl
  | _ :: _, _, .cons .str t => by rw [RepL.strs t]; rfl
theorem RepL.bls : ∀ {ns : List Bool} {vs : List V}, RepL K cl G (ns.map D.bl) vs → vs = ns.map V.bl
  | [], _, .nil => rfl
  | _ :: _, _, .cons .bl t => by rw [RepL.bls t]; rfl
theorem RepL.of_ints : ∀ (ns : List Int), RepL K cl G (ns.map D.int) (ns.map V.int)
  | [] => .nil
  | _ :: r => .cons .int (RepL.of_ints r)
theorem RepL.of_strs : ∀ (ns : List Str), RepL K cl G (ns.map D.str) (ns.map V.str)
  | [] => .nil
  | _ :: r => .cons .str (RepL.of_strs r)
theorem RepL.of_bls : ∀ (ns : List Bool), RepL K cl G (ns.map D.bl) (ns.map V.bl)
  | [] => .nil
  | _ :: r => .cons .bl (RepL.of_bls r)
end

/-! ### plain data, for == and repr -/
mutual
def D.py : D → PyData
  | .non => .none
  | .bl b => .bool b
  | .int i => .int i
  | .str s => .str s
  | .tup l => .tuple (D.pyL l)
  | .lst l => .list (D.pyL l)
  | _ => .dict []
def D.pyL : List D → List PyData
  | [] => []
  | d :: r => d.py :: D.pyL r
end
mutual
/-- no objects, no dicts -/
def D.pl : D → Bool
  | .non | .bl _ | .int _ | .str _ => true
  | .tup l | .lst l => D.plL l
  | _ => false
def D.plL : List D → Bool
  | [] => true
  | d :: r => d.pl && D.plL r
end
section
variable {K : PySem.W.Frag} {cl : Str → Addr} {G : Hp}
mutual
theorem Rep.dp : ∀ {d : D} {v : V}, Rep K cl G d v → d.pl = true → Dp K G v d.py
  | _, _, .non, _ => .non
  | _, _, .bl, _ => .bl _
  | _, _, .int, _ => .int _
  | _, _, .str, _ => .str _
  | _, _, .tup h r, p => .tup h (RepL.dp r (by simpa [D.pl] using p))
  | _, _, .lst h r, p => .lst (SqL.of h) (RepL.dp r (by simpa [D.pl] using p))
  | _, _, .scr _, p => by simp [D.pl] at p
  | _, _, .dct _ _ _, p => by simp [D.pl] at p
  | _, _, .dcT _ _ _, p => by simp [D.pl] at p
  | _, _, .obj _ _ _, p => by simp [D.pl] at p
theorem RepL.dp : ∀ {d : List D} {v : List V}, RepL K cl G d v → D.plL d = true → DpAll K G v (D.pyL d)
  | _, _, .nil, _ => .nil
  | d :: ds, _, .cons h r, p => by
    have p' : d.pl = true ∧ D.plL ds = true := by simpa [D.plL] using p
    exact .cons (Rep.dp h p'.1) (RepL.dp r p'.2)
end
end

/-! ### the state -/
inductive S where
  | un | dat (d : D) | own (d : D) | jar (k : Nat)
structure Env where
  s : List S
  j : List D
structure Exc where
  c : Str
  ns : List Str
  l : List D
inductive Out (α : Type) where
  | ok (a : α) (e : Env) | exn (x : Exc) (e : Env) | bad
abbrev M (α : Type) := Env → Out α
def Out.bnd {α β : Type} (o : Out α) (k : α → Env → Out β) : Out β := match o with
  | .ok a e => k a e
  | .exn x e => .exn x e
  | .bad => .bad
/-- a value: data, or the whole of what slot i owns (or was lent) -/
inductive R where
  | val (d : D) | whole (i : Nat)
def Env.rd (e : Env) : R → Option D
  | .val d => some d
  | .whole i => match e.s[i]? with
    | some (.own d) => some d
    | some (.jar k) => e.j[k]?
    | _ => none
def Env.setS (e : Env) (i : Nat) (x : S) : Env := ⟨e.s.set i x, e.j⟩

structure Fra where
  H0 : Hp
  G0 : Hp
  js : List Addr

section
variable (K : PySem.W.Frag) (cl : Str → Addr) (F : Fra)
/-- what stands at a in H, its items in G -/
def Own (H G : Hp) (a : Addr) : D → Prop
  | .lst l => ∃ vs, H a = some (.lst vs) ∧ RepL K cl G l vs
  | .dct ks l => ∃ vs, H a = some (.dK (ks.zip vs)) ∧ ks.length = vs.length ∧ RepL K cl G l vs
  | .dcT ks l => ∃ vs, H a = some (.dT (ks.zip vs)) ∧ ks.length = vs.length ∧ RepL K cl G l vs
  | .obj c ns l => ∃ dx vs, H a = some (.ins (cl c) dx (ns.zip vs)) ∧ ns.length = vs.length ∧ RepL K cl G l vs
  | _ => False
def SlotOk (H G : Hp) (σ : L2.St) (i : Nat) : S → Prop
  | .un => True
  | .dat d => ∃ v, σ[i]? = some (some v) ∧ Rep K cl G d v
  | .own d => ∃ a, σ[i]? = some (some (.ref a)) ∧ G a = none ∧ F.H0 a = none ∧ Own K cl H G a d
  | .jar k => ∃ a, F.js[k]? = some a ∧ σ[i]? = some (some (.ref a))
structure Jars (js : List Addr) (H G : Hp) (j : List D) : Prop where
  len : j.length = js.length
  nd : js.Nodup
  at_ : ∀ (k : Nat) a d, js[k]? = some a → j[k]? = some d → G a = none ∧ Own K cl H G a d
/-- the frame's part of the state -/
structure Ret (H G : Hp) (j : List D) : Prop where
  gh : Same G H
  g0 : Same F.G0 G
  jars : Jars K cl F.js H G j
  fr : ∀ a o, F.H0 a = some o → a ∉ F.js → H a = some o
  fg : ∀ a o, F.H0 a = some o → F.G0 a = none → G a = none
structure Stt (e : Env) (σ : L2.St) (H G : Hp) : Prop where
  ret : Ret K cl F H G e.j
  jh : ∀ a ∈ F.js, F.H0 a ≠ none
  len : σ.length = e.s.length
  slot : ∀ (i : Nat) (x : S), e.s[i]? = some x → SlotOk K cl F H G σ i x
  inj : ∀ (i j : Nat) (d d' : D) (a : Addr), e.s[i]? = some (.own d) → e.s[j]? = some (.own d') → σ[i]? = some (some (.ref a)) → σ[j]? = some (some (.ref a)) → i = j
/-- what no slot owns -/
def Loose (e : Env) (σ : L2.St) (a : Addr) : Prop := a ∉ F.js ∧ ∀ (i : Nat) (d : D), e.s[i]? = some (.own d) → σ[i]? ≠ some (some (.ref a))
/-- from one state to a later one within an expression -/
structure Kp (σ : L2.St) (e : Env) (H G : Hp) (e' : Env) (H' G' : Hp) : Prop where
  gg : Same G G'
  kp : ∀ a o, H a = some o → Loose F e σ a → H' a = some o ∧ (G a = none → G' a = none)
  ow : ∀ (i : Nat) (d : D), e'.s[i]? = some (.own d) → ∃ d', e.s[i]? = some (.own d')
def RR (σ : L2.St) (G : Hp) : R → V → Prop
  | .val d, v => Rep K cl G d v
  | .whole i, v => σ[i]? = some (some v)
/-- seen from above: the object in H, its items in G -/
def Top (H G : Hp) (d : D) (v : V) : Prop := Rep K cl G d v ∨ ∃ a, v = .ref a ∧ G a = none ∧ Own K cl H G a d
/-- new objects are laid -/
inductive Step : Hp → Hp → Hp → Hp → Prop
  | refl {H G : Hp} : Step H G H G
  | lay {H G H' G' : Hp} {p : Addr} {o : HO} : Step H G H' G' → H' p = none → Step H G (upd H' p o) (upd G' p o)
  | grow {H G H' G' H'' : Hp} : Step H G H' G' → Same H' H'' → Step H G H'' G'
end

section
variable {K : PySem.W.Frag} {cl : Str → Addr} {F : Fra} {e e' : Env} {σ : L2.St} {H G H' G' : Hp}
theorem same_upd {p : Addr} {o : HO} (h : H p = none) : Same H (upd H p o) := fun b u q => by rw [upd_ne (ne_of_none q h)]; exact q
theorem Own.mono {a : Addr} {d : D} (h : Own K cl H G a d) (e : ∀ o, H a = some o → H' a = some o) (g : Same G G') : Own K cl H' G' a d := by
  cases d with
  | lst l => obtain ⟨vs, h1, h2⟩ := h; exact ⟨vs, e _ h1, h2.mono g⟩
  | dct ks l => obtain ⟨vs, h1, h3, h2⟩ := h; exact ⟨vs, e _ h1, h3, h2.mono g⟩
  | dcT ks l => obtain ⟨vs, h1, h3, h2⟩ := h; exact ⟨vs, e _ h1, h3, h2.mono g⟩
  | obj c ns l => obtain ⟨dx, vs, h1, h3, h2⟩ := h; exact ⟨dx, vs, e _ h1, h3, h2.mono g⟩
  | _ => exact h.elim
theorem Own.ex {a : Addr} {d : D} (h : Own K cl H G a d) : ∃ o, H a = some o := by
  cases d with
  | lst l => obtain ⟨vs, h1, h2⟩ := h; exact ⟨_, h1⟩
  | dct ks l => obtain ⟨vs, h1, h3, h2⟩ := h; exact ⟨_, h1⟩
  | dcT ks l => obtain ⟨vs, h1, h3, h2⟩ := h; exact ⟨_, h1⟩
  | obj c ns l => obtain ⟨dx, vs, h1, h3, h2⟩ := h; exact ⟨_, h1⟩
  | _ => exact h.elim
theorem Top.rep {d : D} {v : V} (g : Same G H) (h : Top K cl H G d v) : Rep K cl H d v := by
  rcases h with h | ⟨a, rfl, hn, h⟩
  · exact h.mono g
  · cases d with
    | lst l => obtain ⟨vs, h1, h2⟩ := h; exact .lst h1 (h2.mono g)
    | dct ks l => obtain ⟨vs, h1, h3, h2⟩ := h; exact .dct (.inl h1) h3 (h2.mono g)
    | dcT ks l => obtain ⟨vs, h1, h3, h2⟩ := h; exact .dcT (.inl h1) h3 (h2.mono g)
    | obj c ns l => obtain ⟨dx, vs, h1, h3, h2⟩ := h; exact .obj h1 h3 (h2.mono g)
    | _ => exact h.elim
theorem Top.lst {l : List D} {v : V} (g : Same G H) (h : Top K cl H G (.lst l) v) : ∃ a vs, v = .ref a ∧ H a = some (.lst vs) ∧ RepL K cl G l vs := by
  rcases h with h | ⟨a, rfl, hn, vs, h1, h2⟩
  · cases h with
    | lst h r => exact ⟨_, _, rfl, g _ _ h, r⟩
  · exact ⟨_, _, rfl, h1, h2⟩
theorem Top.tup {l : List D} {v : V} (g : Same G H) (h : Top K cl H G (.tup l) v) : ∃ a vs, v = .ref a ∧ SqT K H a vs ∧ RepL K cl G l vs := by
  rcases h with h | ⟨a, rfl, hn, h⟩
  · cases h with
    | tup h r => exact ⟨_, _, rfl, SqT.same g h, r⟩
  · exact h.elim
theorem Step.same (s : Step H G H' G') (gh : Same G H) : Same H H' ∧ Same G G' ∧ Same G' H' := by
  induction s with
  | refl => exact ⟨.refl _, .refl _, gh⟩
  | lay _ hn ih =>
    obtain ⟨a, b, c⟩ := ih
    refine ⟨a.trans (same_upd hn), b.trans (same_upd (c.free hn)), fun q u z => ?_⟩
    unfold upd at z ⊢
    split
    · rename_i h; rw [if_pos h] at z; exact z
    · rename_i h; rw [if_neg h] at z; exact c _ _ z
  | grow _ hs ih =>
    obtain ⟨a, b, c⟩ := ih
    exact ⟨a.trans hs, b, c.trans hs⟩
theorem Step.none (s : Step H G H' G') (gh : Same G H) {a : Addr} {o : HO} (h : H a = some o) (g : G a = none) : G' a = none := by
  induction s with
  | refl => exact g
  | lay s hn ih =>
    have q := (s.same gh).1 _ _ h
    rw [upd_ne (ne_of_none q hn)]; exact ih
  | grow s hs ih => exact ih
theorem Step.trans {H2 G2 : Hp} (a : Step H G H' G') (b : Step H' G' H2 G2) : Step H G H2 G2 := by
  induction b with
  | refl => exact a
  | lay _ hn ih => exact .lay ih hn
  | grow _ hs ih => exact .grow ih hs
/-- the state behind new objects -/
theorem Stt.step (st : Stt K cl F e σ H G) (s : Step H G H' G') : Stt K cl F e σ H' G' := by
  obtain ⟨⟨gh, g0, jr, fr, fg⟩, jh, len, slot, inj⟩ := st
  obtain ⟨a, b, c⟩ := s.same gh
  refine ⟨⟨c, g0.trans b, ⟨jr.len, jr.nd, fun k p d h1 h2 => ?_⟩, fun p o h hn => a _ _ (fr p o h hn), fun p o h hn => ?_⟩, jh, len, fun i x h => ?_, inj⟩
  · obtain ⟨q1, q2⟩ := jr.at_ k p d h1 h2
    obtain ⟨o, q3⟩ := q2.ex
    exact ⟨s.none gh q3 q1, q2.mono (fun o => a _ _) b⟩
  · by_cases hp : p ∈ F.js
    · obtain ⟨k, hk⟩ := List.getElem?_of_mem hp
      have hl : k < e.j.length := by rw [jr.len]; exact (List.getElem?_eq_some_iff.mp hk).1
      obtain ⟨q1, q2⟩ := jr.at_ k p _ hk (List.getElem?_eq_getElem hl)
      obtain ⟨o, q3⟩ := q2.ex
      exact s.none gh q3 q1
    · exact s.none gh (fr p o h hp) (fg p o h hn)
  · have q := slot i x h
    cases x with
    | un => trivial
    | dat d => obtain ⟨v, h1, h2⟩ := q; exact ⟨v, h1, h2.mono b⟩
    | own d =>
      obtain ⟨p, h1, h2, h3, h4⟩ := q
      obtain ⟨o, q3⟩ := h4.ex
      exact ⟨p, h1, s.none gh q3 h2, h3, h4.mono (fun o => a _ _) b⟩
    | jar k => exact q
theorem Kp.step (st : Stt K cl F e σ H G) (s : Step H G H' G') : Kp F σ e H G e H' G' := by
  obtain ⟨a, b, c⟩ := s.same st.ret.gh
  exact ⟨b, fun p o h _ => ⟨a _ _ h, fun g => s.none st.ret.gh h g⟩, fun i d h => ⟨d, h⟩⟩
theorem Kp.refl : Kp F σ e H G e H G := ⟨.refl _, fun _ _ h _ => ⟨h, fun g => g⟩, fun _ d h => ⟨d, h⟩⟩
theorem Kp.loose (k : Kp F σ e H G e' H' G') {a : Addr} (h : Loose F e σ a) : Loose F e' σ a :=
  ⟨h.1, fun i d q => by obtain ⟨d', q'⟩ := k.ow i d q; exact h.2 i d' q'⟩
theorem Kp.trans {e2 : Env} {H2 G2 : Hp} (a : Kp F σ e H G e' H' G') (b : Kp F σ e' H' G' e2 H2 G2) : Kp F σ e H G e2 H2 G2 := by
  refine ⟨a.gg.trans b.gg, fun p o h l => ?_, fun i d h => ?_⟩
  · obtain ⟨h1, h2⟩ := a.kp p o h l
    obtain ⟨h3, h4⟩ := b.kp p o h1 (a.loose l)
    exact ⟨h3, fun g => h4 (h2 g)⟩
  · obtain ⟨d', h'⟩ := b.ow i d h
    exact a.ow i d' h'
/-- the data of a value, as it is found -/
theorem Stt.top (st : Stt K cl F e σ H G) {r : R} {v : V} {d : D} (hr : RR K cl σ G r v) (hd : e.rd r = some d) : Top K cl H G d v := by
  cases r with
  | val d' => cases hd; exact .inl hr
  | whole i =>
    have hs : σ[i]? = some (some v) := hr
    have hd : (match e.s[i]? with
    | some (.own d) => some d
    | some (.jar k) => e.j[k]?
    | _ => none) = some d := hd
    cases q : e.s[i]? with
    | none => rw [q] at hd; cases hd
    | some x =>
      rw [q] at hd
      have z := st.slot i x q
      cases x with
      | own d' =>
        cases hd
        obtain ⟨a, h1, h2, h3, h4⟩ := z
        rw [hs] at h1; cases h1
        exact .inr ⟨a, rfl, h2, h4⟩
      | jar k =>
        obtain ⟨a, h1, h2⟩ := z
        rw [hs] at h2; cases h2
        obtain ⟨q1, q2⟩ := st.ret.jars.at_ k a d h1 hd
        exact .inr ⟨a, rfl, q1, q2⟩
      | _ => cases hd
/-- a value that stood, later: data stays, a whole is read anew -/
theorem RR.mono {r : R} {v : V} (h : RR K cl σ G r v) (g : Same G G') : RR K cl σ G' r v := by
  cases r with
  | val d => exact Rep.mono g h
  | whole i => exact h
end
end DL

namespace DL
open PySem L2 PySem.Spec PyProof.Rows

/-! ### freezing: what a slot owns becomes data -/
def Env.frz (e : Env) : R → Option (D × Env)
  | .val d => some (d, e)
  | .whole i => match e.s[i]? with
    | some (.own d) => some (d, e.setS i (.dat d))
    | _ => none
def Env.frzs (e : Env) : List R → Option (List D × Env)
  | [] => some ([], e)
  | r :: rs => match e.frz r with
    | some (d, e1) => match e1.frzs rs with
      | some (ds, e2) => some (d :: ds, e2)
      | none => none
    | none => none
inductive RRs (K : PySem.W.Frag) (cl : Str → Addr) (σ : L2.St) (G : Hp) : List R → List V → Prop
  | nil : RRs K cl σ G [] []
  | cons {r : R} {v : V} {rs : List R} {vs : List V} : RR K cl σ G r v → RRs K cl σ G rs vs → RRs K cl σ G (r :: rs) (v :: vs)

section
variable {K : PySem.W.Frag} {cl : Str → Addr} {F : Fra} {e e' : Env} {σ : L2.St} {H G H' G' : Hp}
theorem RRs.mono (g : Same G G') : ∀ {rs : List R} {vs : List V}, RRs K cl σ G rs vs → RRs K cl σ G' rs vs
  | _, _, .nil => .nil
  | _, _, .cons h r => .cons (h.mono g) (RRs.mono g r)
/-- one object of H becomes part of G -/
theorem same_add {a : Addr} {o : HO} (gh : Same G H) (ho : H a = some o) : Same (upd G a o) H := fun b u q => by
  unfold upd at q
  split at q
  · rename_i h; rw [h, ho]; exact q
  · exact gh _ _ q
theorem Own.rep {a : Addr} {d : D} (h : Own K cl H G a d) (hn : G a = none) : ∃ o, H a = some o ∧ Rep K cl (upd G a o) d (.ref a) := by
  have g : ∀ o, Same G (upd G a o) := fun o => same_upd hn
  cases d with
  | lst l => obtain ⟨vs, h1, h2⟩ := h; exact ⟨_, h1, .lst upd_same (h2.mono (g _))⟩
  | dct ks l => obtain ⟨vs, h1, h3, h2⟩ := h; exact ⟨_, h1, .dct (.inl upd_same) h3 (h2.mono (g _))⟩
  | dcT ks l => obtain ⟨vs, h1, h3, h2⟩ := h; exact ⟨_, h1, .dcT (.inl upd_same) h3 (h2.mono (g _))⟩
  | obj c ns l => obtain ⟨dx, vs, h1, h3, h2⟩ := h; exact ⟨_, h1, .obj upd_same h3 (h2.mono (g _))⟩
  | _ => exact h.elim
theorem setS_same {i : Nat} {x y : S} (h : e.s[i]? = some y) : (e.setS i x).s[i]? = some x := by
  have hl : i < e.s.length := (List.getElem?_eq_some_iff.mp h).1
  exact List.getElem?_set_self hl
theorem setS_ne {i j : Nat} {x : S} (h : j ≠ i) : (e.setS i x).s[j]? = e.s[j]? := List.getElem?_set_ne (Ne.symm h)
theorem frz_ok (st : Stt K cl F e σ H G) {r : R} {v : V} {d : D} (hr : RR K cl σ G r v) (hf : e.frz r = some (d, e')) : ∃ G', Stt K cl F e' σ H G' ∧ Kp F σ e H G e' H G' ∧ Rep K cl G' d v := by
  cases r with
  | val d' => cases hf; exact ⟨G, st, .refl, hr⟩
  | whole i =>
    have hs : σ[i]? = some (some v) := hr
    have hf : (match e.s[i]? with
      | some (.own d) => some (d, e.setS i (.dat d))
      | _ => none) = some (d, e') := hf
    cases q : e.s[i]? with
    | none => rw [q] at hf; cases hf
    | some x =>
      rw [q] at hf
      have z := st.slot i x q
      cases x with
      | own d' =>
        cases hf
        obtain ⟨a, h1, h2, h3, h4⟩ := z
        rw [hs] at h1; cases h1
        obtain ⟨o, ho, hrep⟩ := h4.rep h2
        obtain ⟨⟨gh, g0, jr, fr, fg⟩, jh, len, slot, inj⟩ := st
        have g1 : Same G (upd G a o) := same_upd h2
        have aj : a ∉ F.js := fun hj => jh a hj h3
        have hset : ∀ {j : Nat} {x : S}, (e.setS i (.dat d)).s[j]? = some x → (j = i ∧ x = .dat d) ∨ (j ≠ i ∧ e.s[j]? = some x) := fun {j x} h => by
          by_cases hj : j = i
          · subst hj; rw [setS_same q] at h; cases h; exact .inl ⟨rfl, rfl⟩
          · rw [setS_ne hj] at h; exact .inr ⟨hj, h⟩
        refine ⟨upd G a o, ⟨⟨same_add gh ho, g0.trans g1, ⟨jr.len, jr.nd, fun k p d' k1 k2 => ?_⟩, fr, fun p u k1 k2 => ?_⟩, jh, by rw [len]; exact (List.length_set).symm, fun j x h => ?_, fun j k d1 d2 p k1 k2 k3 k4 => ?_⟩, ⟨g1, fun p u k1 k2 => ⟨k1, fun k3 => ?_⟩, fun j d1 k1 => ?_⟩, hrep⟩
        · obtain ⟨q1, q2⟩ := jr.at_ k p d' k1 k2
          have ne : p ≠ a := fun z => aj (z ▸ List.mem_of_getElem? k1)
          exact ⟨by rw [upd_ne ne]; exact q1, q2.mono (fun _ z => z) g1⟩
        · have ne : p ≠ a := fun z => by rw [z, h3] at k1; cases k1
          rw [upd_ne ne]; exact fg p u k1 k2
        · rcases hset h with ⟨rfl, rfl⟩ | ⟨hj, h⟩
          · exact ⟨_, hs, hrep⟩
          · have z := slot j x h
            cases x with
            | un => trivial
            | dat d1 => obtain ⟨v1, z1, z2⟩ := z; exact ⟨v1, z1, z2.mono g1⟩
            | own d1 =>
              obtain ⟨p, z1, z2, z3, z4⟩ := z
              have ne : p ≠ a := fun w => hj (inj j i _ _ a h q (w ▸ z1) hs)
              exact ⟨p, z1, by rw [upd_ne ne]; exact z2, z3, z4.mono (fun _ w => w) g1⟩
            | jar k => exact z
        · rcases hset k1 with ⟨_, z⟩ | ⟨_, k1⟩
          · cases z
          · rcases hset k2 with ⟨_, z⟩ | ⟨_, k2⟩
            · cases z
            · exact inj j k d1 d2 p k1 k2 k3 k4
        · have ne : p ≠ a := fun w => k2.2 i _ q (w ▸ hs)
          rw [upd_ne ne]; exact k3
        · rcases hset k1 with ⟨_, z⟩ | ⟨_, k1⟩
          · cases z
          · exact ⟨_, k1⟩
      | _ => cases hf
theorem frzs_ok : ∀ {rs : List R} {e e' : Env} {vs : List V} {ds : List D} {G : Hp}, Stt K cl F e σ H G → RRs K cl σ G rs vs → e.frzs rs = some (ds, e') → ∃ G', Stt K cl F e' σ H G' ∧ Kp F σ e H G e' H G' ∧ RepL K cl G' ds vs
  | [], e, e', _, _, G, st, .nil, hf => by cases hf; exact ⟨G, st, .refl, .nil⟩
  | r :: rs, e, e', _, _, G, st, .cons h t, hf => by
    unfold Env.frzs at hf
    cases q : e.frz r with
    | none => rw [q] at hf; cases hf
    | some p =>
      obtain ⟨d, e1⟩ := p
      rw [q] at hf
      have hf : (match e1.frzs rs with
        | some (ds, e2) => some (d :: ds, e2)
        | none => none) = some (_, e') := hf
      cases q2 : e1.frzs rs with
      | none => rw [q2] at hf; cases hf
      | some p2 =>
        obtain ⟨ds, e2⟩ := p2
        rw [q2] at hf
        cases hf
        obtain ⟨G1, st1, k1, r1⟩ := frz_ok st h q
        obtain ⟨G2, st2, k2, r2⟩ := frzs_ok st1 (t.mono k1.gg) q2
        exact ⟨G2, st2, k1.trans k2, .cons (r1.mono k2.gg) r2⟩
end

/-! ### what is judged -/
def ExcAt (K : PySem.W.Frag) (cl : Str → Addr) (x : Exc) (cls : Value) (dd : Option Addr) (H G : Hp) : Prop :=
  cls = .ref (cl x.c) ∧ ((x.ns = [] ∧ x.l = [] ∧ dd = none) ∨ ∃ d vs, dd = some d ∧ H d = some (.xd (x.ns.zip vs)) ∧ x.ns.length = vs.length ∧ RepL K cl G x.l vs)
section
variable (K : PySem.W.Frag) (cl : Str → Addr) (F : Fra) (W : WX)
/-- what is wanted of an exception, of an end -/
def Xn (σ : L2.St) (e : Env) (x : Exc) : Prop := ∀ cls dd H' G', Stt K cl F e σ H' G' → ExcAt K cl x cls dd H' G' → W cls dd σ H'
def Post {α : Type} (σ : L2.St) (o : Out α) (k : α → Env → Prop) : Prop := match o with
  | .ok a e => k a e
  | .exn x e => Xn K cl F W σ e x
  | .bad => False
def tD (f : M R) : TE := fun σ H Q => ∃ e G, Stt K cl F e σ H G ∧ Post K cl F W σ (f e) fun r e' => ∀ v H' G', Stt K cl F e' σ H' G' → Kp F σ e H G e' H' G' → RR K cl σ G' r v → Q v H'
def tB' (f : M Bool) : TT := fun σ H Q => ∃ e G, Stt K cl F e σ H G ∧ Post K cl F W σ (f e) fun b e' => ∀ H' G', Stt K cl F e' σ H' G' → Kp F σ e H G e' H' G' → Q b H'
def tA (f : M (List R)) : TA := fun σ H Q => ∃ e G, Stt K cl F e σ H G ∧ Post K cl F W σ (f e) fun r e' => ∀ v H' G', Stt K cl F e' σ H' G' → Kp F σ e H G e' H' G' → RRs K cl σ G' r v → Q v H'
end
structure RE (X : Cx) (cl : Str → Addr) (F : Fra) (W : WX) (x : Expr) (f : M R) : Prop where
  pe : PE X x (tD X.K cl F W f)
structure RT (X : Cx) (cl : Str → Addr) (F : Fra) (W : WX) (x : Expr) (f : M Bool) : Prop where
  pt : PT X x (tB' X.K cl F W f)
structure RA (X : Cx) (cl : Str → Addr) (F : Fra) (W : WX) (xs : List Expr) (f : M (List R)) : Prop where
  pa : PA X xs (tA X.K cl F W f)
theorem PE.imp {X : Cx} {x : Expr} {t t' : TE} (h : PE X x t) (i : ∀ σ H Q, t' σ H Q → t σ H Q) : PE X x t' := ⟨fun pins s σ H Q I q => h.run pins s σ H Q I (i σ H Q q)⟩
theorem PT.imp {X : Cx} {x : Expr} {t t' : TT} (h : PT X x t) (i : ∀ σ H Q, t' σ H Q → t σ H Q) : PT X x t' := ⟨fun pins s σ H Q I q => h.run pins s σ H Q I (i σ H Q q)⟩
theorem PW.imp {X : Cx} {x : Expr} {t t' : TT} (h : PW X x t) (i : ∀ σ H Q, t' σ H Q → t σ H Q) : PW X x t' := ⟨fun wh pins s σ H Q I q => h.run wh pins s σ H Q I (i σ H Q q)⟩
theorem PA.imp {X : Cx} {x : List Expr} {t t' : TA} (h : PA X x t) (i : ∀ σ H Q, t' σ H Q → t σ H Q) : PA X x t' := ⟨fun pos pins s σ H Q I q => h.run pos pins s σ H Q I (i σ H Q q)⟩
theorem PS.imp {X : Cx} {x : Stmt} {t t' : TS} (h : PS X x t) (i : ∀ D σ H, t' D σ H → t D σ H) : PS X x t' := ⟨fun pins s σ H D I q => h.run pins s σ H D I (i D σ H q)⟩
theorem PSs.imp {X : Cx} {x : List Stmt} {t t' : TS} (h : PSs X x t) (i : ∀ D σ H, t' D σ H → t D σ H) : PSs X x t' := ⟨fun pins s σ H D I q => h.run pins s σ H D I (i D σ H q)⟩

section
variable {K : PySem.W.Frag} {cl : Str → Addr} {F : Fra} {W : WX}
theorem post_bnd {α β : Type} {σ : L2.St} {o : Out α} {k : α → Env → Out β} {q : β → Env → Prop} (h : Post K cl F W σ (o.bnd k) q) : Post K cl F W σ o fun a e => Post K cl F W σ (k a e) q := by
  cases o with
  | ok a e => exact h
  | exn x e => exact h
  | bad => exact h
theorem post_imp {α : Type} {σ : L2.St} {o : Out α} {k k' : α → Env → Prop} (h : Post K cl F W σ o k) (i : ∀ a e, k a e → k' a e) : Post K cl F W σ o k' := by
  cases o with
  | ok a e => exact i _ _ h
  | exn x e => exact h
  | bad => exact h
/-- one part, then the rest -/
theorem tD_then {β : Type} {fa : M R} {k : R → Env → Out β} {σ : L2.St} {H G : Hp} {e : Env} {q : β → Env → Prop} {Q : VK} (st : Stt K cl F e σ H G) (h : Post K cl F W σ ((fa e).bnd k) q)
    (c : ∀ r e1 v H1 G1, Stt K cl F e1 σ H1 G1 → Kp F σ e H G e1 H1 G1 → RR K cl σ G1 r v → Post K cl F W σ (k r e1) q → Q v H1) : tD K cl F W fa σ H Q :=
  ⟨e, G, st, post_imp (post_bnd h) fun r e1 z v H1 G1 s1 k1 r1 => c r e1 v H1 G1 s1 k1 r1 z⟩
theorem tB_then {β : Type} {fa : M Bool} {k : Bool → Env → Out β} {σ : L2.St} {H G : Hp} {e : Env} {q : β → Env → Prop} {Q : Bool → Hp → Prop} (st : Stt K cl F e σ H G) (h : Post K cl F W σ ((fa e).bnd k) q)
    (c : ∀ r e1 H1 G1, Stt K cl F e1 σ H1 G1 → Kp F σ e H G e1 H1 G1 → Post K cl F W σ (k r e1) q → Q r H1) : tB' K cl F W fa σ H Q :=
  ⟨e, G, st, post_imp (post_bnd h) fun r e1 z H1 G1 s1 k1 => c r e1 H1 G1 s1 k1 z⟩
theorem tA_then {β : Type} {fa : M (List R)} {k : List R → Env → Out β} {σ : L2.St} {H G : Hp} {e : Env} {q : β → Env → Prop} {Q : List V → Hp → Prop} (st : Stt K cl F e σ H G) (h : Post K cl F W σ ((fa e).bnd k) q)
    (c : ∀ r e1 v H1 G1, Stt K cl F e1 σ H1 G1 → Kp F σ e H G e1 H1 G1 → RRs K cl σ G1 r v → Post K cl F W σ (k r e1) q → Q v H1) : tA K cl F W fa σ H Q :=
  ⟨e, G, st, post_imp (post_bnd h) fun r e1 z v H1 G1 s1 k1 r1 => c r e1 v H1 G1 s1 k1 r1 z⟩
end

/-! ### slots and constants -/
def cVar (i : Nat) : M R := fun e => match e.s[i]? with
  | some (.dat d) => .ok (.val d) e
  | some (.own _) => .ok (.whole i) e
  | some (.jar _) => .ok (.whole i) e
  | _ => .bad
def cC (d : D) : M R := fun e => .ok (.val d) e
section
variable {X : Cx} {cl : Str → Addr} {F : Fra} {W : WX}
theorem re_v (i : Nat) {x : Str} {pos : Pos} (hN : X.N[i]? = some x := by rfl) (hv : Vis X.env.scope x := by first | exact Or.inl rfl | exact Or.inr (Or.inl rfl) | exact Or.inr (Or.inr rfl)) (hd : (x == ("__debug__" : Str)) = false := by decide)
    (hcd : (x == ("__classdict__" : Str)) = false := by decide) : RE X cl F W (.Name x pos) (cVar i) := by
  refine ⟨PE.imp (pe_var hN hv hd hcd) fun σ H Q ⟨e, G, st, h⟩ => ?_⟩
  unfold cVar at h
  cases q : e.s[i]? with
  | none => rw [q] at h; exact h.elim
  | some y =>
    rw [q] at h
    have z := st.slot i y q
    cases y with
    | un => exact h.elim
    | dat d =>
      obtain ⟨v, h1, h2⟩ := z
      exact ⟨v, h1, h v H G st .refl h2⟩
    | own d =>
      obtain ⟨a, h1, _⟩ := z
      exact ⟨_, h1, h _ H G st .refl h1⟩
    | jar k =>
      obtain ⟨a, _, h1⟩ := z
      exact ⟨_, h1, h _ H G st .refl h1⟩
theorem re_tC {x : Expr} {v : V} {d : D} (h : PE X x (tC v)) (r : ∀ G, Rep X.K cl G d v) : RE X cl F W x (cC d) :=
  ⟨PE.imp h fun σ H Q ⟨e, G, st, q⟩ => q v H G st .refl (r G)⟩
theorem re_int {i j pos} : RE X cl F W (.Constant (.int i) j pos) (cC (.int i)) := re_tC pe_int fun _ => .int
theorem re_bl {b j pos} : RE X cl F W (.Constant (.bool b) j pos) (cC (.bl b)) := re_tC pe_bl fun _ => .bl
theorem re_non {j pos} : RE X cl F W (.Constant .none j pos) (cC .non) := re_tC pe_non fun _ => .non
theorem re_str {x j pos} : RE X cl F W (.Constant (.str x) j pos) (cC (.str x)) := re_tC pe_str fun _ => .str
theorem re_gint {x : Str} {i : Int} {pos : Pos} (hg : Gl X x) (hm : ∃ t, X.mg x = some (.int i t)) (hd : (x == ("__debug__" : Str)) = false := by decide) : RE X cl F W (.Name x pos) (cC (.int i)) := by
  obtain ⟨t, hm⟩ := hm
  exact re_tC (pe_glob (v := .int i) hg hm ⟨t, rfl⟩ hd) fun _ => .int
theorem re_gstr {x : Str} {z : Str} {pos : Pos} (hg : Gl X x) (hm : ∃ t, X.mg x = some (.str z t)) (hd : (x == ("__debug__" : Str)) = false := by decide) : RE X cl F W (.Name x pos) (cC (.str z)) := by
  obtain ⟨t, hm⟩ := hm
  exact re_tC (pe_glob (v := .str z) hg hm ⟨t, rfl⟩ hd) fun _ => .str

/-! ### arguments, displays -/
def cNil : M (List R) := fun e => .ok [] e
def cCons (f : M R) (g : M (List R)) : M (List R) := fun e => (f e).bnd fun r e1 => (g e1).bnd fun rs e2 => .ok (r :: rs) e2
theorem ra_nil : RA X cl F W [] cNil := ⟨PA.imp pa_nil fun σ H Q ⟨e, G, st, q⟩ => q [] H G st .refl .nil⟩
theorem ra_cons {x : Expr} {xs : List Expr} {f : M R} {g : M (List R)} (h : RE X cl F W x f) (t : RA X cl F W xs g) (hs : starEach (x :: xs) X.env = (false, eval x X.env) :: starEach xs X.env := by rfl) : RA X cl F W (x :: xs) (cCons f g) := by
  refine ⟨PA.imp (pa_cons h.pe t.pa hs) fun σ H Q ⟨e, G, st, q⟩ => tD_then st q fun r e1 v H1 G1 s1 k1 r1 z => tA_then s1 z fun rs e2 vs H2 G2 s2 k2 r2 z2 => ?_⟩
  exact z2 _ H2 G2 s2 (k1.trans k2) (.cons (r1.mono k2.gg) r2)
def cTup (f : M (List R)) : M R := fun e => (f e).bnd fun rs e1 => match e1.frzs rs with
  | some (ds, e2) => if ds.length ≤ sizeLine then .ok (.val (.tup ds)) e2 else .bad
  | none => .bad
def cLst (f : M (List R)) : M R := fun e => (f e).bnd fun rs e1 => match e1.frzs rs with
  | some (ds, e2) => if ds.length ≤ sizeLine then .ok (.val (.lst ds)) e2 else .bad
  | none => .bad
theorem re_tup {xs : List Expr} {f : M (List R)} {x1 pos} (h : RA X cl F W xs f) : RE X cl F W (.Tuple xs x1 pos) (cTup f) := by
  refine ⟨PE.imp (pe_tup h.pa) fun σ H Q ⟨e, G, st, q⟩ => tA_then st q fun rs e1 vs H1 G1 s1 k1 r1 z => ?_⟩
  cases y : e1.frzs rs with
  | none => rw [y] at z; exact z.elim
  | some p =>
    obtain ⟨ds, e2⟩ := p
    rw [y] at z
    obtain ⟨G2, s2, k2, r2⟩ := frzs_ok s1 r1 y
    by_cases hz : ds.length ≤ sizeLine
    · simp only [hz, if_true] at z
      refine ⟨by rw [← r2.length]; exact hz, fun p hp => ?_⟩
      have sp : Step H1 G2 (upd H1 p (.tup vs)) (upd G2 p (.tup vs)) := .lay .refl hp
      exact z _ _ _ (s2.step sp) ((k1.trans k2).trans (Kp.step s2 sp)) (.tup (SqT.of upd_same) (r2.mono (sp.same s2.ret.gh).2.1))
    · simp only [hz, if_false] at z; exact z.elim
theorem re_lst {xs : List Expr} {f : M (List R)} {pos} (h : RA X cl F W xs f) : RE X cl F W (.List xs pos) (cLst f) := by
  refine ⟨PE.imp (pe_lst h.pa) fun σ H Q ⟨e, G, st, q⟩ => tA_then st q fun rs e1 vs H1 G1 s1 k1 r1 z => ?_⟩
  cases y : e1.frzs rs with
  | none => rw [y] at z; exact z.elim
  | some p =>
    obtain ⟨ds, e2⟩ := p
    rw [y] at z
    obtain ⟨G2, s2, k2, r2⟩ := frzs_ok s1 r1 y
    by_cases hz : ds.length ≤ sizeLine
    · simp only [hz, if_true] at z
      refine ⟨by rw [← r2.length]; exact hz, fun p hp => ?_⟩
      have sp : Step H1 G2 (upd H1 p (.lst vs)) (upd G2 p (.lst vs)) := .lay .refl hp
      exact z _ _ _ (s2.step sp) ((k1.trans k2).trans (Kp.step s2 sp)) (.lst upd_same (r2.mono (sp.same s2.ret.gh).2.1))
    · simp only [hz, if_false] at z; exact z.elim

/-! ### operations on two values -/
def OpD (X : Cx) (cl : Str → Addr) (f : Value → Value → Sem Value) (g : D → D → Option D) : Prop :=
  ∃ r, OpR X f r ∧ ∀ H G x y dx dy dz Q, Same G H → Top X.K cl H G dx x → Top X.K cl H G dy y → g dx dy = some dz → (∀ v H' G', Step H G H' G' → Rep X.K cl G' dz v → Q v H') → r x y H Q
def opt (o : Option D) (e : Env) : Out R := match o with
  | some z => .ok (.val z) e
  | none => .bad
def opt2 (g : D → D → Option D) (a b : Option D) : Option D := match a, b with
  | some x, some y => g x y
  | _, _ => none
theorem post_opt {K : PySem.W.Frag} {σ : L2.St} {o : Option D} {e : Env} {q : R → Env → Prop} (h : Post K cl F W σ (opt o e) q) : ∃ z, o = some z ∧ q (.val z) e := by
  cases o with
  | some z => exact ⟨z, rfl, h⟩
  | none => exact h.elim
theorem opt2_ok {g : D → D → Option D} {a b : Option D} {z : D} (h : opt2 g a b = some z) : ∃ x y, a = some x ∧ b = some y ∧ g x y = some z := by
  cases a with
  | none => cases h
  | some x =>
    cases b with
    | none => cases h
    | some y => exact ⟨x, y, rfl, rfl, h⟩
def cOp (g : D → D → Option D) (fa fb : M R) : M R := fun e => (fa e).bnd fun x e1 => (fb e1).bnd fun y e2 => opt (opt2 g (e2.rd x) (e2.rd y)) e2
theorem tOp_D {f : Value → Value → Sem Value} {g : D → D → Option D} {fa fb : M R} {r : R2} {σ : L2.St} {H : Hp} {Q : VK}
    (hg : ∀ H G x y dx dy dz Q, Same G H → Top X.K cl H G dx x → Top X.K cl H G dy y → g dx dy = some dz → (∀ v H' G', Step H G H' G' → Rep X.K cl G' dz v → Q v H') → r x y H Q)
    (h : tD X.K cl F W (cOp g fa fb) σ H Q) : tOp r (tD X.K cl F W fa) (tD X.K cl F W fb) σ H Q := by
  obtain ⟨e, G, st, q⟩ := h
  refine tD_then st q fun x e1 v1 H1 G1 s1 k1 r1 z => tD_then s1 z fun y e2 v2 H2 G2 s2 k2 r2 z => ?_
  obtain ⟨dz, z1, z⟩ := post_opt z
  obtain ⟨dx, dy, hx, hy, hg2⟩ := opt2_ok z1
  refine hg H2 G2 v1 v2 dx dy dz Q s2.ret.gh (s2.top (r1.mono k2.gg) hx) (s2.top r2 hy) hg2 fun v H' G' sp rv => ?_
  exact z v H' G' (s2.step sp) ((k1.trans k2).trans (Kp.step s2 sp)) rv
theorem re_op {a b : Expr} {op : Operator} {g : D → D → Option D} {fa fb : M R} {pos : Pos} (ho : OpD X cl (binaryOp op) g) (ha : RE X cl F W a fa) (hb : RE X cl F W b fb) : RE X cl F W (.BinOp a op b pos) (cOp g fa fb) := by
  obtain ⟨r, h1, h2⟩ := ho
  exact ⟨PE.imp (pe_op h1 ha.pe hb.pe) fun σ H Q h => tOp_D (f := binaryOp op) h2 h⟩
theorem re_cmp {a b : Expr} {op : CmpOp} {g : D → D → Option D} {fa fb : M R} {pos : Pos} (ho : OpD X cl (compareOp op) g) (ha : RE X cl F W a fa) (hb : RE X cl F W b fb) (hm : behindInMarks op b = false) : RE X cl F W (.Compare a [op] [b] pos) (cOp g fa fb) := by
  obtain ⟨r, h1, h2⟩ := ho
  exact ⟨PE.imp (pe_cmpR h1 ha.pe hb.pe hm) fun σ H Q h => tOp_D (f := compareOp op) h2 h⟩
/-- a value as a test: bools alone -/
def cTest (f : M R) : M Bool := fun e => (f e).bnd fun r e1 => match r with
  | .val (.bl b) => .ok b e1
  | _ => .bad
theorem tTest_D {f : M R} {σ : L2.St} {H : Hp} {Q : Bool → Hp → Prop} (h : tB' X.K cl F W (cTest f) σ H Q) : tD X.K cl F W f σ H fun x H' => ∃ k, x = .bl k ∧ Q k H' := by
  obtain ⟨e, G, st, q⟩ := h
  refine tD_then st q fun r e1 v H1 G1 s1 k1 r1 z => ?_
  cases r with
  | whole i => exact z.elim
  | val d =>
    cases d with
    | bl b => cases r1; exact ⟨b, rfl, z H1 G1 s1 k1⟩
    | _ => exact z.elim
theorem rt_cmp {a b : Expr} {op : CmpOp} {g : D → D → Option D} {fa fb : M R} {pos : Pos} (ho : OpD X cl (compareOp op) g) (ha : RE X cl F W a fa) (hb : RE X cl F W b fb) (hm : behindInMarks op b = false) : RT X cl F W (.Compare a [op] [b] pos) (cTest (cOp g fa fb)) := by
  obtain ⟨r, h1, h2⟩ := ho
  refine ⟨PT.imp (pt_cmpR h1 ha.pe hb.pe hm) fun σ H Q h => ?_⟩
  exact tOp_D (f := compareOp op) h2 (tTest_D h)
end
end DL

namespace DL
open PySem L2 PySem.Spec PyProof.Rows

section
variable {X : Cx} {cl : Str → Addr} {F : Fra} {W : WX}
theorem OpD.or {f : Value → Value → Sem Value} {g g' : D → D → Option D} (h : OpD X cl f g) (h' : OpD X cl f g') : OpD X cl f (fun a b => match g a b with
    | some z => some z
    | none => g' a b) := by
  obtain ⟨r, h1, h2⟩ := h
  obtain ⟨r', h1', h2'⟩ := h'
  refine ⟨_, h1.or h1', fun H G x y dx dy dz Q gh tx ty e k => ?_⟩
  have e : (match g dx dy with
    | some z => some z
    | none => g' dx dy) = some dz := e
  cases q : g dx dy with
  | some z => rw [q] at e; cases e; exact .inl (h2 H G x y dx dy _ Q gh tx ty q k)
  | none => rw [q] at e; exact .inr (h2' H G x y dx dy dz Q gh tx ty e k)
theorem OpD.of {f : Value → Value → Sem Value} {g g' : D → D → Option D} (h : OpD X cl f g) (e : ∀ a b z, g' a b = some z → g a b = some z) : OpD X cl f g' := by
  obtain ⟨r, h1, h2⟩ := h
  exact ⟨r, h1, fun H G x y dx dy dz Q gh tx ty q k => h2 H G x y dx dy dz Q gh tx ty (e _ _ _ q) k⟩
theorem Top.int {K : PySem.W.Frag} {H G : Hp} {i : Int} {v : V} (h : Top K cl H G (.int i) v) : v = .int i := by
  rcases h with h | ⟨a, _, _, h⟩
  · cases h; rfl
  · exact h.elim
theorem Top.str {K : PySem.W.Frag} {H G : Hp} {i : Str} {v : V} (h : Top K cl H G (.str i) v) : v = .str i := by
  rcases h with h | ⟨a, _, _, h⟩
  · cases h; rfl
  · exact h.elim
theorem Top.bl {K : PySem.W.Frag} {H G : Hp} {i : Bool} {v : V} (h : Top K cl H G (.bl i) v) : v = .bl i := by
  rcases h with h | ⟨a, _, _, h⟩
  · cases h; rfl
  · exact h.elim
theorem Top.non {K : PySem.W.Frag} {H G : Hp} {v : V} (h : Top K cl H G .non v) : v = .non := by
  rcases h with h | ⟨a, _, _, h⟩
  · cases h; rfl
  · exact h.elim
theorem Top.non_iff {K : PySem.W.Frag} {H G : Hp} {d : D} {v : V} (h : Top K cl H G d v) : v = .non ↔ d = .non := by
  rcases h with h | ⟨a, rfl, _, h⟩
  · cases h <;> simp
  · cases d <;> first | exact h.elim | simp
theorem Top.scr {K : PySem.W.Frag} {H G : Hp} {l : List Int} {v : V} (g : Same G H) (h : Top K cl H G (.scr l) v) : ∃ a, v = .ref a ∧ SqL K H a (l.map V.int) := by
  rcases h with h | ⟨a, _, _, h⟩
  · cases h with
    | scr h => exact ⟨_, rfl, Same.seq g h⟩
  · exact h.elim

/-! ### int arithmetic -/
def intOp (c : Int → Int → Bool) (g : Int → Int → D) : D → D → Option D := fun a b => match a, b with
  | .int i, .int j => if c i j then some (g i j) else none
  | _, _ => none
theorem intOp_inv {c : Int → Int → Bool} {g : Int → Int → D} {a b z : D} (h : intOp c g a b = some z) : ∃ i j, a = .int i ∧ b = .int j ∧ c i j = true ∧ z = g i j := by
  unfold intOp at h
  split at h
  · rename_i i j
    split at h
    · rename_i hc; cases h; exact ⟨i, j, rfl, rfl, hc, rfl⟩
    · cases h
  · cases h
/-- from a rule on ints whose value is again an int (or a bool) -/
theorem intD {f : Value → Value → Sem Value} {C : Int → Int → Prop} {gv : Int → Int → V} {c : Int → Int → Bool} {g : Int → Int → D} (h : OpR X f (rI C gv)) (hc : ∀ i j, c i j = true → C i j) (hr : ∀ i j G, Rep X.K cl G (g i j) (gv i j)) : OpD X cl f (intOp c g) := by
  refine ⟨_, h, fun H G x y dx dy dz Q gh tx ty e k => ?_⟩
  obtain ⟨i, j, rfl, rfl, hc', rfl⟩ := intOp_inv e
  exact ⟨i, j, tx.int, ty.int, hc i j hc', k _ H G .refl (hr i j G)⟩
theorem intD0 {f : Value → Value → Sem Value} {gv : Int → Int → V} {g : Int → Int → D} (h : OpR X f (rI0 gv)) (hr : ∀ i j G, Rep X.K cl G (g i j) (gv i j)) : OpD X cl f (intOp (fun _ _ => true) g) := by
  refine ⟨_, h, fun H G x y dx dy dz Q gh tx ty e k => ?_⟩
  obtain ⟨i, j, rfl, rfl, hc', rfl⟩ := intOp_inv e
  exact ⟨i, j, tx.int, ty.int, k _ H G .refl (hr i j G)⟩
def subD : D → D → Option D := intOp (fun _ _ => true) fun i j => .int (i - j)
def mulOk (i j : Int) : Bool := decide (-(2 ^ 64) < i ∧ i < 2 ^ 64) || decide (-(2 ^ 64) < j ∧ j < 2 ^ 64)
def modD : D → D → Option D := intOp (fun _ j => decide (0 < j)) fun i j => .int (i % j)
def fdivD : D → D → Option D := intOp (fun _ j => decide (0 < j ∧ j < 1073741824)) fun i j => .int (i / j)
def powD : D → D → Option D := intOp (fun i j => decide (0 ≤ j ∧ j ≤ 1000000 ∧ i.natAbs < 2 ^ 64)) fun i j => .int (i ^ j.toNat)
theorem od_sub : OpD X cl (binaryOp .Sub) subD := intD0 op_sub fun _ _ _ => .int
theorem od_mod : OpD X cl (binaryOp .Mod) modD := intD op_mod (fun i j h => by simpa using h) fun _ _ _ => .int
theorem od_fdiv : OpD X cl (binaryOp .FloorDiv) fdivD := intD op_fdiv (fun i j h => by simpa [CDiv] using h) fun _ _ _ => .int
theorem od_pow : OpD X cl (binaryOp .Pow) powD := intD op_pow (fun i j h => by simpa [CPow] using h) fun _ _ _ => .int

/-! ### + and * -/
def addD : D → D → Option D
  | .int i, .int j => some (.int (i + j))
  | .str a, .str b => if a.length + b.length ≤ sizeLine then some (.str (a ++ b)) else none
  | .lst a, .lst b => if a.length + b.length ≤ sizeLine then some (.lst (a ++ b)) else none
  | .tup a, .tup b => if a.length + b.length ≤ sizeLine then some (.tup (a ++ b)) else none
  | _, _ => none
theorem od_add : OpD X cl (binaryOp .Add) addD := by
  refine ⟨_, ((op_add.or op_add_str).or op_cat).or op_catA, fun H G x y dx dy dz Q gh tx ty e k => ?_⟩
  unfold addD at e
  split at e
  · cases e
    exact .inl (.inl (.inl ⟨_, _, tx.int, ty.int, k _ H G .refl .int⟩))
  · split at e
    · cases e
      rename_i h
      exact .inl (.inl (.inr ⟨_, _, tx.str, ty.str, h, k _ H G .refl .str⟩))
    · cases e
  · split at e
    · cases e
      rename_i h
      obtain ⟨a1, v1, rfl, h1, r1⟩ := tx.lst gh
      obtain ⟨a2, v2, rfl, h2, r2⟩ := ty.lst gh
      refine .inl (.inr ⟨a1, a2, v1, v2, rfl, rfl, h1, h2, by rw [← r1.length, ← r2.length]; exact h, fun p hp => ?_⟩)
      have sp : Step H G (upd H p (.lst (v1 ++ v2))) (upd G p (.lst (v1 ++ v2))) := .lay .refl hp
      exact k _ _ _ sp (.lst upd_same ((r1.append r2).mono (sp.same gh).2.1))
    · cases e
  · split at e
    · cases e
      rename_i h
      obtain ⟨a1, v1, rfl, h1, r1⟩ := tx.tup gh
      obtain ⟨a2, v2, rfl, h2, r2⟩ := ty.tup gh
      have t1 := tx
      refine .inr ⟨a1, a2, v1, v2, rfl, rfl, h1, h2, by rw [← r1.length, ← r2.length]; exact h, fun e1 => ?_, fun e1 e2 => ?_, fun e1 e2 p hp => ?_⟩
      · subst e1
        cases r1
        rcases ty with ty | ⟨_, _, _, z⟩
        · exact k _ H G .refl ty
        · exact z.elim
      · subst e2
        cases r2
        rw [List.append_nil] at k
        rcases tx with tx | ⟨_, _, _, z⟩
        · exact k _ H G .refl tx
        · exact z.elim
      · have sp : Step H G (upd H p (.tup (v1 ++ v2))) (upd G p (.tup (v1 ++ v2))) := .lay .refl hp
        exact k _ _ _ sp (.tup (SqT.of upd_same) ((r1.append r2).mono (sp.same gh).2.1))
    · cases e
  · cases e
theorem RepL.rep {K : PySem.W.Frag} {G : Hp} {ds : List D} {vs : List V} (h : RepL K cl G ds vs) : ∀ k : Nat, RepL K cl G (List.replicate k ds).flatten (List.replicate k vs).flatten
  | 0 => by simp only [List.replicate_zero, List.flatten_nil]; exact .nil
  | k + 1 => by simp only [List.replicate_succ, List.flatten_cons]; exact h.append (RepL.rep h k)
def mulD : D → D → Option D
  | .int i, .int j => if mulOk i j then some (.int (i * j)) else none
  | .lst a, .int k => if -(2 ^ 63) ≤ k ∧ k < 2 ^ 63 ∧ a.length * k.toNat ≤ sizeLine then some (.lst (List.replicate k.toNat a).flatten) else none
  | .tup a, .int k => if a ≠ [] ∧ 2 ≤ k ∧ k ≤ 1000 ∧ a.length ≤ 1000 then some (.tup (List.replicate k.toNat a).flatten) else none
  | _, _ => none
theorem od_mul : OpD X cl (binaryOp .Mult) mulD := by
  refine ⟨_, (op_mul.or op_rep).or op_repT, fun H G x y dx dy dz Q gh tx ty e k => ?_⟩
  unfold mulD at e
  split at e
  · split at e
    · cases e
      rename_i h
      exact .inl (.inl ⟨_, _, tx.int, ty.int, by simpa [mulOk, CMul] using h, k _ H G .refl .int⟩)
    · cases e
  · split at e
    · cases e
      rename_i h
      obtain ⟨a1, v1, rfl, h1, r1⟩ := tx.lst gh
      refine .inl (.inr ⟨a1, _, v1, rfl, ty.int, h1, h.1, h.2.1, by rw [← r1.length]; exact h.2.2, fun p hp => ?_⟩)
      exact k _ _ _ (.lay .refl hp) (.lst upd_same ((r1.rep _).mono (same_upd (gh.free hp))))
    · cases e
  · split at e
    · cases e
      rename_i h
      obtain ⟨a1, v1, rfl, h1, r1⟩ := tx.tup gh
      refine .inr ⟨a1, _, v1, rfl, ty.int, h1, fun z => h.1 (by subst z; cases r1; rfl), h.2.1, h.2.2.1, by rw [← r1.length]; exact h.2.2.2, fun p hp => ?_⟩
      exact k _ _ _ (.lay .refl hp) (.tup (SqT.of upd_same) ((r1.rep _).mono (same_upd (gh.free hp))))
    · cases e
  · cases e

/-! ### comparisons -/
def shp (d : D) : Bool := d.pl && SeqAt.shaped d.py
/-- == -/
def eqB (a b : D) : Bool := PyData.eqv a.py b.py
def eqD (a b : D) : Option D := if shp a && shp b then some (.bl (eqB a b)) else none
def neD (a b : D) : Option D := if shp a && shp b then some (.bl (!eqB a b)) else none
theorem shp_inv {d : D} (h : shp d = true) : d.pl = true ∧ SeqAt.shaped d.py = true := Bool.and_eq_true_iff.mp h
theorem od_eq (hu : X.A.units + 64 < cLine) : OpD X cl (compareOp .Eq) eqD := by
  refine ⟨_, op_eqD hu, fun H G x y dx dy dz Q gh tx ty e k => ?_⟩
  unfold eqD at e
  split at e
  · rename_i h
    cases e
    obtain ⟨h1, h2⟩ := Bool.and_eq_true_iff.mp h
    obtain ⟨p1, q1⟩ := shp_inv h1
    obtain ⟨p2, q2⟩ := shp_inv h2
    exact ⟨_, _, (tx.rep gh).dp p1, (ty.rep gh).dp p2, q1, q2, k _ H G .refl .bl⟩
  · cases e
theorem od_ne (hu : X.A.units + 64 < cLine) : OpD X cl (compareOp .NotEq) neD := by
  refine ⟨_, op_neD hu, fun H G x y dx dy dz Q gh tx ty e k => ?_⟩
  unfold neD at e
  split at e
  · rename_i h
    cases e
    obtain ⟨h1, h2⟩ := Bool.and_eq_true_iff.mp h
    obtain ⟨p1, q1⟩ := shp_inv h1
    obtain ⟨p2, q2⟩ := shp_inv h2
    exact ⟨_, _, (tx.rep gh).dp p1, (ty.rep gh).dp p2, q1, q2, k _ H G .refl .bl⟩
  · cases e
def strLt (a b : Str) : Bool := decide (a.cps.toList < b.cps.toList)
def ltD : D → D → Option D
  | .int i, .int j => some (.bl (decide (i < j)))
  | .str a, .str b => some (.bl (strLt a b))
  | _, _ => none
def leD : D → D → Option D := intOp (fun _ _ => true) fun i j => .bl (decide (i ≤ j))
def gtD : D → D → Option D := intOp (fun _ _ => true) fun i j => .bl (decide (j < i))
def geD : D → D → Option D := intOp (fun _ _ => true) fun i j => .bl (decide (j ≤ i))
theorem od_lt : OpD X cl (compareOp .Lt) ltD := by
  refine ⟨_, op_lt.or op_lt_str, fun H G x y dx dy dz Q gh tx ty e k => ?_⟩
  unfold ltD at e
  split at e
  · cases e; exact .inl ⟨_, _, tx.int, ty.int, k _ H G .refl .bl⟩
  · cases e; exact .inr ⟨_, _, tx.str, ty.str, k _ H G .refl .bl⟩
  · cases e
theorem od_le : OpD X cl (compareOp .LtE) leD := intD0 op_le fun _ _ _ => .bl
theorem od_gt : OpD X cl (compareOp .Gt) gtD := intD0 op_gt fun _ _ _ => .bl
theorem od_ge : OpD X cl (compareOp .GtE) geD := intD0 op_ge fun _ _ _ => .bl
/-- is None -/
def D.isNon : D → Bool
  | .non => true
  | _ => false
def isD (a b : D) : Option D := match b with
  | .non => some (.bl a.isNon)
  | _ => none
def isNotD (a b : D) : Option D := match b with
  | .non => some (.bl (!a.isNon))
  | _ => none
theorem D.isNon_eq {K : PySem.W.Frag} {H G : Hp} {d : D} {x : V} (h : Top K cl H G d x) : decide (x = V.non) = d.isNon := by
  have h := h.non_iff
  cases d <;> simp [h, D.isNon]
theorem od_is : OpD X cl (compareOp .Is) isD := by
  refine ⟨_, op_isN, fun H G x y dx dy dz Q gh tx ty e k => ?_⟩
  cases dy <;> simp only [isD] at e <;> first | (cases e; done) | skip
  cases e
  refine ⟨ty.non, ?_⟩
  rw [D.isNon_eq tx]
  exact k _ H G .refl .bl
theorem od_isNot : OpD X cl (compareOp .IsNot) isNotD := by
  refine ⟨_, op_notN, fun H G x y dx dy dz Q gh tx ty e k => ?_⟩
  cases dy <;> simp only [isNotD] at e <;> first | (cases e; done) | skip
  cases e
  refine ⟨ty.non, ?_⟩
  rw [D.isNon_eq tx]
  exact k _ H G .refl .bl
/-- x in ys, ys a list or a tuple of plain data -/
def memB (x : D) (ys : List D) : Bool := (D.pyL ys).any fun z => PyData.eqv z x.py
def hasK {α : Type} [DecidableEq α] (ks : List α) (k : α) : Bool := ks.any fun x => decide (x = k)
def keyOf : D → Option Key
  | .int i => some (.inl i)
  | .str s => some (.inr s)
  | _ => none
def inB (a b : D) : Option Bool := match b with
  | .lst l => if shp a && shp (.lst l) then some (memB a l) else none
  | .tup l => if shp a && shp (.tup l) then some (memB a l) else none
  | .str z => (match a with
    | .str x => if x.length = 1 then some (decide (x.cps.getD 0 0 ∈ z.cps.toList)) else none
    | _ => none)
  | .dct ks l => (keyOf a).map fun k => hasK ks k
  | _ => none
def inD (a b : D) : Option D := (inB a b).map D.bl
def notInD (a b : D) : Option D := (inB a b).map fun k => .bl (!k)
def rInDT (K : PySem.W.Frag) (neg : Bool) : R2 := fun x y H Q => ∃ d ds, Dp K H x d ∧ Dp K H y (.tuple ds) ∧ SeqAt.shaped d = true ∧ SeqAt.shaped (.tuple ds) = true ∧ Q (.bl (if neg then !(ds.any fun z => PyData.eqv z d) else ds.any fun z => PyData.eqv z d)) H
theorem op_inDT (hu : X.A.units + 65 < cLine) : OpR X (compareOp .In) (rInDT X.K false) := by
  intro pins s σ H x
                                                                                                              y v u Q I rx ry h
  obtain ⟨d, ds, hd,
                                                                                                              he, sd, se, q⟩ := h
  obtain ⟨as, r1⟩ :=
                                                                                                              Dp.reads I d x v hd rx
  obtain ⟨bs, r2⟩ := Dp.reads I (.tuple ds) y u he ry
  exact SeqAt.in_tuple_reads r2 r1 (SeqAt.canLay_of_shaped se) (SeqAt.canLay_of_shaped sd) (room_in_shaped sd hu) ⟨.bl _, H, I, rfl, q⟩
theorem op_notInDT (hu : X.A.units + 65 < cLine) : OpR X (compareOp .NotIn) (rInDT X.K true) := by
  intro pins s σ H x
                                                                                                              y v u Q I rx ry h
  obtain ⟨d, ds, hd,
                                                                                                              he, sd, se, q⟩ := h
  obtain ⟨as, r1⟩ :=
                                                                                                              Dp.reads I d x v hd rx
  obtain ⟨bs, r2⟩ := Dp.reads I (.tuple ds) y u he ry
  exact SeqAt.notIn_tuple_reads r2 r1 (SeqAt.canLay_of_shaped se) (SeqAt.canLay_of_shaped sd) (room_in_shaped sd hu) ⟨.bl _, H, I, rfl, q⟩
theorem one_sign {x : Str} (h : x.length
                                                                                                              = 1) : x = ⟨#[x.cps.getD 0 0]⟩ := by
  obtain ⟨⟨l⟩⟩ := x
  match l, h with
  | [c], _ => rfl
/-- x in d, d a dict by ints and texts -/
def rInK : R2 := fun x y H Q => ∃ a kvs k, y = .ref a ∧ Rd H a (.dK kvs) ∧ x = kV k ∧ Q (.bl (valV kvs k).isSome) H
def rNotInK : R2 := fun x y H Q => ∃ a kvs k, y = .ref a ∧ Rd H a (.dK kvs) ∧ x = kV k ∧ Q (.bl (!(valV kvs k).isSome)) H
theorem op_inK (hu : X.A.units + 1 < cLine) : OpR X (compareOp .In) rInK := by
  intro pins s σ H x
                                                                                                              y v u Q I rx ry h
  obtain ⟨a, kvs, k, rfl, h1, rfl, q⟩ := h
  cases ry
  exact d_in hu I (.inl ⟨_, _, h1, rfl, rfl⟩) rx fun s3 I3 => ⟨.bl _, H, I3, rfl, q⟩
theorem op_notInK (hu : X.A.units + 1 < cLine) : OpR X (compareOp .NotIn) rNotInK := by
  intro pins s σ H x
                                                                                                              y v u Q I rx ry h
  obtain ⟨a, kvs, k, rfl, h1, rfl, q⟩ := h
  cases ry
  exact d_notIn hu I (.inl ⟨_, _, h1, rfl, rfl⟩) rx fun s3 I3 => ⟨.bl _, H, I3, rfl, q⟩
theorem valV_zip_some {α : Type} [DecidableEq α] {β : Type} (k : α) : ∀ (ks : List α) (vs : List β), ks.length = vs.length → (((ks.zip vs).find? fun kv => decide (kv.1 = k)).map (·.2)).isSome = hasK ks k
  | [], [], _ => by simp [hasK]
  | a :: ks, v :: vs, h => by
    have ih := valV_zip_some k ks vs (by simpa using h)
    by_cases e : a = k
    · simp [e, hasK]
    · simp only [List.zip_cons_cons, List.find?_cons, hasK, List.any_cons, e, decide_false, Bool.false_or]
      exact ih
theorem keyOf_rel {K : PySem.W.Frag} {H G : Hp} {d : D} {k : Key} {v : V} (h : Top K cl H G d v) (e : keyOf d = some k) : v = kV k := by
  cases d <;> simp only [keyOf] at e <;> first | (cases e; done) | skip
  · cases e; exact h.int
  · cases e; exact h.str
theorem Top.dct {K : PySem.W.Frag} {H G : Hp} {ks : List Key} {l : List D} {v : V} (g : Same G H) (h : Top K cl H G (.dct ks l) v) : ∃ a vs, v = .ref a ∧ Rd H a (.dK (ks.zip vs)) ∧ ks.length = vs.length ∧ RepL K cl G l vs := by
  rcases h with h | ⟨a, rfl, hn, vs, h1, h3, h2⟩
  · cases h with
    | dct h l r => exact ⟨_, _, rfl, Rd.same g h, l, r⟩
  · exact ⟨_, _, rfl, .inl h1, h3, h2⟩
theorem od_in (hu : X.A.units + 65 < cLine) : OpD X cl (compareOp .In) inD := by
  refine ⟨_, ((((op_inD hu).or (op_inDT hu)).or op_in_sign).or (op_inK (by omega))), fun H G x y dx dy dz Q gh tx ty e k => ?_⟩
  unfold inD at e
  obtain ⟨b, hb, rfl⟩ := Option.map_eq_some_iff.mp e
  unfold inB at hb
  split at hb
  · split at hb
    · rename_i h
      cases hb
      obtain ⟨h1, h2⟩ := Bool.and_eq_true_iff.mp h
      obtain ⟨p1, q1⟩ := shp_inv h1
      obtain ⟨p2, q2⟩ := shp_inv h2
      exact .inl (.inl (.inl ⟨_, _, (tx.rep gh).dp p1, (ty.rep gh).dp p2, q1, q2, k _ H G .refl .bl⟩))
    · cases hb
  · split at hb
    · rename_i h
      cases hb
      obtain ⟨h1, h2⟩ := Bool.and_eq_true_iff.mp h
      obtain ⟨p1, q1⟩ := shp_inv h1
      obtain ⟨p2, q2⟩ := shp_inv h2
      exact .inl (.inl (.inr ⟨_, _, (tx.rep gh).dp p1, (ty.rep gh).dp p2, q1, q2, k _ H G .refl .bl⟩))
    · cases hb
  · split at hb
    · split at hb
      · rename_i h
        cases hb
        exact .inl (.inr ⟨_, _, by rw [tx.str]; exact congrArg V.str (one_sign h), ty.str, k _ H G .refl .bl⟩)
      · cases hb
    · cases hb
  · obtain ⟨k', hk, rfl⟩ := Option.map_eq_some_iff.mp hb
    obtain ⟨a, vs, rfl, h1, hl, r⟩ := ty.dct gh
    refine .inr ⟨a, _, k', rfl, h1, keyOf_rel tx hk, ?_⟩
    have e1 : (valV (List.zip _ vs) k').isSome = _ := valV_zip_some k' _ vs hl
    rw [e1]
    exact k _ H G .refl .bl
  · cases hb
theorem od_notIn (hu : X.A.units + 65 < cLine) : OpD X cl (compareOp .NotIn) notInD := by
  refine ⟨_, ((((op_notInD hu).or (op_notInDT hu)).or op_notIn_sign).or (op_notInK (by omega))), fun H G x y dx dy dz Q gh tx ty e k => ?_⟩
  unfold notInD at e
  obtain ⟨b, hb, rfl⟩ := Option.map_eq_some_iff.mp e
  unfold inB at hb
  split at hb
  · split at hb
    · rename_i h
      cases hb
      obtain ⟨h1, h2⟩ := Bool.and_eq_true_iff.mp h
      obtain ⟨p1, q1⟩ := shp_inv h1
      obtain ⟨p2, q2⟩ := shp_inv h2
      exact .inl (.inl (.inl ⟨_, _, (tx.rep gh).dp p1, (ty.rep gh).dp p2, q1, q2, k _ H G .refl .bl⟩))
    · cases hb
  · split at hb
    · rename_i h
      cases hb
      obtain ⟨h1, h2⟩ := Bool.and_eq_true_iff.mp h
      obtain ⟨p1, q1⟩ := shp_inv h1
      obtain ⟨p2, q2⟩ := shp_inv h2
      exact .inl (.inl (.inr ⟨_, _, (tx.rep gh).dp p1, (ty.rep gh).dp p2, q1, q2, k _ H G .refl .bl⟩))
    · cases hb
  · split at hb
    · split at hb
      · rename_i h
        cases hb
        exact .inl (.inr ⟨_, _, by rw [tx.str]; exact congrArg V.str (one_sign h), ty.str, k _ H G .refl .bl⟩)
      · cases hb
    · cases hb
  · obtain ⟨k', hk, rfl⟩ := Option.map_eq_some_iff.mp hb
    obtain ⟨a, vs, rfl, h1, hl, r⟩ := ty.dct gh
    refine .inr ⟨a, _, k', rfl, h1, keyOf_rel tx hk, ?_⟩
    have e1 : (valV (List.zip _ vs) k').isSome = _ := valV_zip_some k' _ vs hl
    rw [e1]
    exact k _ H G .refl .bl
  · cases hb
end
end DL

namespace DL
open PySem L2 PySem.Spec PyProof.Rows

/-! ### tests -/
def tru : D → Option Bool
  | .non => some false
  | .bl b => some b
  | .int i => some (i != 0)
  | .str s => if s.length ≤ sizeLine then some ((s.length : Int) != 0) else none
  | .tup l | .lst l => some (!l.isEmpty)
  | .scr l => some (!l.isEmpty)
  | _ => none
def optB {α : Type} (o : Option α) (e : Env) : Out α := match o with
  | some b => .ok b e
  | none => .bad
def cTru (f : M R) : M Bool := fun e => (f e).bnd fun r e1 => optB ((e1.rd r).bind tru) e1
def cNot (f : M Bool) : M Bool := fun e => (f e).bnd fun b e1 => .ok (!b) e1
def cAnd (f g : M Bool) : M Bool := fun e => (f e).bnd fun b e1 => if b then g e1 else .ok false e1
def cOr (f g : M Bool) : M Bool := fun e => (f e).bnd fun b e1 => if b then .ok true e1 else g e1
/-- .. as values -/
def cAndV (f g : M R) : M R := fun e => (f e).bnd fun r e1 => match r with
  | .val (.bl b) => if b then g e1 else .ok (.val (.bl false)) e1
  | _ => .bad
def cOrV (f g : M R) : M R := fun e => (f e).bnd fun r e1 => match r with
  | .val (.bl b) => if b then .ok (.val (.bl true)) e1 else g e1
  | _ => .bad
def cNotV (f : M R) : M R := fun e => (f e).bnd fun r e1 => match r with
  | .val (.bl b) => .ok (.val (.bl (!b))) e1
  | _ => .bad
def cIf (c : M Bool) (f g : M R) : M R := fun e => (c e).bnd fun b e1 => if b then f e1 else g e1
structure RW (X : Cx) (cl : Str → Addr) (F : Fra) (W : WX) (x : Expr) (f : M Bool) : Prop where
  pw : PW X x (tB' X.K cl F W f)
section
variable {X : Cx} {cl : Str → Addr} {F : Fra} {W : WX}
theorem post_some {α : Type} {K : PySem.W.Frag} {σ : L2.St} {o : Option α} {e : Env} {q : α → Env → Prop} (h : Post K cl F W σ (optB o e) q) : ∃ b, o = some b ∧ q b e := by
  cases o with
  | some b => exact ⟨b, rfl, h⟩
  | none => exact h.elim
theorem Top.tru {H G : Hp} {d : D} {v : V} {b : Bool} (g : Same G H) (h : Top X.K cl H G d v) (e : tru d = some b) : TruV X.K v H b := by
  cases d with
  | non => cases h.non; cases e; rfl
  | bl b => cases h.bl; cases e; rfl
  | int i => cases h.int; cases e; rfl
  | str s =>
    cases h.str
    simp only [DL.tru] at e
    split at e
    · rename_i hl; cases e; exact ⟨hl, rfl⟩
    · cases e
  | tup l =>
    obtain ⟨a, vs, rfl, h1, r⟩ := h.tup g
    cases e
    exact .inr (.inl ⟨vs, h1, by cases r <;> rfl⟩)
  | lst l =>
    obtain ⟨a, vs, rfl, h1, r⟩ := h.lst g
    cases e
    exact .inl ⟨vs, SqL.of h1, by cases r <;> rfl⟩
  | scr l =>
    obtain ⟨a, rfl, h1⟩ := h.scr g
    cases e
    exact .inl ⟨_, h1, by cases l <;> rfl⟩
  | _ => cases e
theorem rt_tru {a : Expr} {f : M R} (h : RE X cl F W a f) (he : ∀ whole, isTrue a X.env whole = (do let v ← whole; standAt a.pos; holding [v] (truthy v)) := by intro _; rfl) : RT X cl F W a (cTru f) := by
  refine ⟨PT.imp (pt_truth h.pe he) fun σ H Q ⟨e, G, st, q⟩ => tD_then st q fun r e1 v H1 G1 s1 k1 r1 z => ?_⟩
  obtain ⟨b, hb, z⟩ := post_some z
  obtain ⟨d, hd, hb⟩ := Option.bind_eq_some_iff.mp hb
  exact ⟨b, (s1.top r1 hd).tru s1.ret.gh hb, z H1 G1 s1 k1⟩
theorem rt_not {a : Expr} {f : M Bool} {pos : Pos} (h : RT X cl F W a f) : RT X cl F W (.UnaryOp .Not a pos) (cNot f) :=
  ⟨PT.imp (pt_not h.pt) fun σ H Q ⟨e, G, st, q⟩ => tB_then st q fun r e1 H1 G1 s1 k1 z => z H1 G1 s1 k1⟩
theorem and_D {fa fb : M Bool} {σ : L2.St} {H : Hp} {Q : Bool → Hp → Prop} (h : tB' X.K cl F W (cAnd fa fb) σ H Q) : tAnd (tB' X.K cl F W fa) (tB' X.K cl F W fb) σ H Q := by
  obtain ⟨e, G, st, q⟩ := h
  refine tB_then st q fun r e1 H1 G1 s1 k1 z => ?_
  cases r with
  | false => exact z H1 G1 s1 k1
  | true => exact ⟨e1, G1, s1, post_imp z fun b e2 z2 H2 G2 s2 k2 => z2 H2 G2 s2 (k1.trans k2)⟩
theorem or_D {fa fb : M Bool} {σ : L2.St} {H : Hp} {Q : Bool → Hp → Prop} (h : tB' X.K cl F W (cOr fa fb) σ H Q) : tOr (tB' X.K cl F W fa) (tB' X.K cl F W fb) σ H Q := by
  obtain ⟨e, G, st, q⟩ := h
  refine tB_then st q fun r e1 H1 G1 s1 k1 z => ?_
  cases r with
  | true => exact z H1 G1 s1 k1
  | false => exact ⟨e1, G1, s1, post_imp z fun b e2 z2 H2 G2 s2 k2 => z2 H2 G2 s2 (k1.trans k2)⟩
theorem rw_and1 {a : Expr} {f : M Bool} {pos : Pos} (h : RT X cl F W a f) : RW X cl F W (.BoolOp .And [a] pos) f := ⟨pw_and1 h.pt⟩
theorem rw_or1 {a : Expr} {f : M Bool} {pos : Pos} (h : RT X cl F W a f) : RW X cl F W (.BoolOp .Or [a] pos) f := ⟨pw_or1 h.pt⟩
theorem rw_and {a b : Expr} {rest : List Expr} {f g : M Bool} {pos : Pos} (h : RT X cl F W a f) (h2 : RW X cl F W (.BoolOp .And (b :: rest) pos) g) : RW X cl F W (.BoolOp .And (a :: b :: rest) pos) (cAnd f g) :=
  ⟨PW.imp (pw_and h.pt h2.pw) fun σ H Q q => and_D q⟩
theorem rw_or {a b : Expr} {rest : List Expr} {f g : M Bool} {pos : Pos} (h : RT X cl F W a f) (h2 : RW X cl F W (.BoolOp .Or (b :: rest) pos) g) : RW X cl F W (.BoolOp .Or (a :: b :: rest) pos) (cOr f g) :=
  ⟨PW.imp (pw_or h.pt h2.pw) fun σ H Q q => or_D q⟩
theorem rt_w {a : Expr} {f : M Bool} (h : RW X cl F W a f) : RT X cl F W a f := ⟨h.pw.pt⟩
theorem re_one {a : Expr} {op : BoolOp} {f : M R} {pos : Pos} (h : RE X cl F W a f) : RE X cl F W (.BoolOp op [a] pos) f := ⟨pe_one h.pe⟩
theorem blR {K : PySem.W.Frag} {σ : L2.St} {G : Hp} {b : Bool} {v : V} (h : RR K cl σ G (.val (.bl b)) v) : v = .bl b := by cases h; rfl
theorem re_and {a b : Expr} {rest : List Expr} {f g : M R} {pos : Pos} (h : RE X cl F W a f) (h2 : RE X cl F W (.BoolOp .And (b :: rest) pos) g) : RE X cl F W (.BoolOp .And (a :: b :: rest) pos) (cAndV f g) := by
  refine ⟨PE.imp (pe_and h.pe h2.pe) fun σ H Q ⟨e, G, st, q⟩ => tD_then st q fun r e1 v H1 G1 s1 k1 r1 z => ?_⟩
  cases r with
  | whole i => exact z.elim
  | val d =>
    cases d with
    | bl b =>
      cases blR r1
      refine ⟨b, rfl, ?_⟩
      cases b with
      | false => exact z _ H1 G1 s1 k1 .bl
      | true => exact ⟨e1, G1, s1, post_imp z fun b e2 z2 v H2 G2 s2 k2 r2 => z2 v H2 G2 s2 (k1.trans k2) r2⟩
    | _ => exact z.elim
theorem re_or {a b : Expr} {rest : List Expr} {f g : M R} {pos : Pos} (h : RE X cl F W a f) (h2 : RE X cl F W (.BoolOp .Or (b :: rest) pos) g) : RE X cl F W (.BoolOp .Or (a :: b :: rest) pos) (cOrV f g) := by
  refine ⟨PE.imp (pe_or h.pe h2.pe) fun σ H Q ⟨e, G, st, q⟩ => tD_then st q fun r e1 v H1 G1 s1 k1 r1 z => ?_⟩
  cases r with
  | whole i => exact z.elim
  | val d =>
    cases d with
    | bl b =>
      cases blR r1
      refine ⟨b, rfl, ?_⟩
      cases b with
      | true => exact z _ H1 G1 s1 k1 .bl
      | false => exact ⟨e1, G1, s1, post_imp z fun b e2 z2 v H2 G2 s2 k2 r2 => z2 v H2 G2 s2 (k1.trans k2) r2⟩
    | _ => exact z.elim
theorem re_not {a : Expr} {f : M R} {pos : Pos} (h : RE X cl F W a f) : RE X cl F W (.UnaryOp .Not a pos) (cNotV f) := by
  refine ⟨PE.imp (pe_not h.pe) fun σ H Q ⟨e, G, st, q⟩ => tD_then st q fun r e1 v H1 G1 s1 k1 r1 z => ?_⟩
  cases r with
  | whole i => exact z.elim
  | val d =>
    cases d with
    | bl b =>
      cases blR r1
      exact ⟨b, rfl, z _ H1 G1 s1 k1 .bl⟩
    | _ => exact z.elim
theorem re_if {c a b : Expr} {fc : M Bool} {f g : M R} {pos : Pos} (hc : RT X cl F W c fc) (h : RE X cl F W a f) (h2 : RE X cl F W b g) : RE X cl F W (.IfExp c a b pos) (cIf fc f g) := by
  refine ⟨PE.imp (pe_ifExp hc.pt h.pe h2.pe) fun σ H Q ⟨e, G, st, q⟩ => tB_then st q fun r e1 H1 G1 s1 k1 z => ?_⟩
  cases r with
  | true => exact ⟨e1, G1, s1, post_imp z fun b e2 z2 v H2 G2 s2 k2 r2 => z2 v H2 G2 s2 (k1.trans k2) r2⟩
  | false => exact ⟨e1, G1, s1, post_imp z fun b e2 z2 v H2 G2 s2 k2 r2 => z2 v H2 G2 s2 (k1.trans k2) r2⟩
/-- a op b op' c -/
def cChain (g g' : D → D → Option D) (fa fb fc : M R) : M R := fun e => (fa e).bnd fun x e1 => (fb e1).bnd fun y e2 => match opt2 g (e2.rd x) (e2.rd y) with
  | some (.bl true) => (fc e2).bnd fun z e3 => opt (opt2 g' (e3.rd y) (e3.rd z)) e3
  | some (.bl false) => .ok (.val (.bl false)) e2
  | _ => .bad
theorem chain_D {f f' : Value → Value → Sem Value} {g g' : D → D → Option D} {fa fb fc : M R} {r r' : R2} {σ : L2.St} {H : Hp} {Q : VK}
    (hg : ∀ H G x y dx dy dz Q, Same G H → Top X.K cl H G dx x → Top X.K cl H G dy y → g dx dy = some dz → (∀ v H' G', Step H G H' G' → Rep X.K cl G' dz v → Q v H') → r x y H Q)
    (hg' : ∀ H G x y dx dy dz Q, Same G H → Top X.K cl H G dx x → Top X.K cl H G dy y → g' dx dy = some dz → (∀ v H' G', Step H G H' G' → Rep X.K cl G' dz v → Q v H') → r' x y H Q)
    (h : tD X.K cl F W (cChain g g' fa fb fc) σ H Q) : tChain r r' (tD X.K cl F W fa) (tD X.K cl F W fb) (tD X.K cl F W fc) σ H Q := by
  obtain ⟨e, G, st, q⟩ := h
  refine tD_then st q fun x e1 v1 H1 G1 s1 k1 r1 z => tD_then s1 z fun y e2 v2 H2 G2 s2 k2 r2 z => ?_
  cases hz : opt2 g (e2.rd x) (e2.rd y) with
  | none => rw [hz] at z; exact z.elim
  | some d =>
    rw [hz] at z
    obtain ⟨dx, dy, hx, hy, hg2⟩ := opt2_ok hz
    refine hg H2 G2 v1 v2 dx dy d _ s2.ret.gh (s2.top (r1.mono k2.gg) hx) (s2.top r2 hy) hg2 fun v H3 G3 sp rv => ?_
    have s3 := s2.step sp
    have k3 := (k1.trans k2).trans (Kp.step s2 sp)
    cases d with
    | bl b =>
      cases rv
      refine ⟨b, rfl, ?_⟩
      cases b with
      | false => exact z _ H3 G3 s3 k3 .bl
      | true =>
        refine tD_then s3 z fun w e4 v4 H4 G4 s4 k4 r4 z => ?_
        obtain ⟨dz, z1, z⟩ := post_opt z
        obtain ⟨dy', dw, hy', hw, hg3⟩ := opt2_ok z1
        refine hg' H4 G4 v2 v4 dy' dw dz Q s4.ret.gh (s4.top ((r2.mono (Kp.step s2 sp).gg).mono k4.gg) hy') (s4.top r4 hw) hg3 fun v H' G' sp2 rv2 => ?_
        exact z v H' G' (s4.step sp2) ((k3.trans k4).trans (Kp.step s4 sp2)) rv2
    | _ => exact z.elim
theorem re_chain {a b c : Expr} {op op' : CmpOp} {g g' : D → D → Option D} {fa fb fc : M R} {pos : Pos} (ho : OpD X cl (compareOp op) g) (ho' : OpD X cl (compareOp op') g') (ha : RE X cl F W a fa) (hb : RE X cl F W b fb) (hc : RE X cl F W c fc)
    (hm : lastMarks [op, op'] [b, c] = false := by with_unfolding_all rfl) : RE X cl F W (.Compare a [op, op'] [b, c] pos) (cChain g g' fa fb fc) := by
  obtain ⟨r, h1, h2⟩ := ho
  obtain ⟨r', h1', h2'⟩ := ho'
  exact ⟨PE.imp (pe_chain h1 h1' ha.pe hb.pe hc.pe hm) fun σ H Q h => chain_D (f := compareOp op) (f' := compareOp op') h2 h2' h⟩
theorem rt_chain {a b c : Expr} {op op' : CmpOp} {g g' : D → D → Option D} {fa fb fc : M R} {pos : Pos} (ho : OpD X cl (compareOp op) g) (ho' : OpD X cl (compareOp op') g') (ha : RE X cl F W a fa) (hb : RE X cl F W b fb) (hc : RE X cl F W c fc)
    (hm : lastMarks [op, op'] [b, c] = false := by with_unfolding_all rfl) : RT X cl F W (.Compare a [op, op'] [b, c] pos) (cTest (cChain g g' fa fb fc)) := by
  obtain ⟨r, h1, h2⟩ := ho
  obtain ⟨r', h1', h2'⟩ := ho'
  refine ⟨PT.imp (pt_chain h1 h1' ha.pe hb.pe hc.pe hm) fun σ H Q h => ?_⟩
  exact chain_D (f := compareOp op) (f' := compareOp op') h2 h2' (tTest_D h)

/-! ### subscripts -/
def rIxS2 : R2 := rIxS
def ixD : D → D → Option D
  | .lst l, .int i => atI l i
  | .tup l, .int i => atI l i
  | .scr l, .int i => (atI l i).map D.int
  | .str s, .int i => if s.length ≤ sizeLine then (atI s.cps.toList i).map fun c => .str ⟨#[c]⟩ else none
  | .dct ks l, k => (keyOf k).bind fun k => ((ks.zip l).find? fun kv => decide (kv.1 = k)).map (·.2)
  | _, _ => none
theorem ixN_lt {n : Nat} {i : Int} {j : Nat} (h : ixN n i = some j) : j < n := (ixN_seq h).2.1
theorem RepL.atI {K : PySem.W.Frag} {G : Hp} {ds : List D} {vs : List V} {i : Int} {d : D} (r : RepL K cl G ds vs) (h : L2.atI ds i = some d) : ∃ v, L2.atI vs i = some v ∧ Rep K cl G d v := by
  unfold L2.atI at h ⊢
  rw [← r.length]
  obtain ⟨j, hj, hd⟩ := Option.bind_eq_some_iff.mp h
  rw [hj]
  exact r.getD hd
/-- d[k], by values -/
def rIxD : R2 := fun x y H Q => ∃ a kvs k v, x = .ref a ∧ Rd H a (.dK kvs) ∧ y = kV k ∧ valV kvs k = some v ∧ Q v H
theorem ix_dict (hu : X.A.units + 1 < cLine) : IxR X rIxD := by
  intro value slice pins s σ
                                                                                                              H x y v u Q I rx ry h hs
  obtain ⟨a, kvs, k, w, rfl, h1, rfl, h2, q⟩ := h
  cases rx
  have g : DGet H a (kV k) (some w) := by
    have z : DGet H a (kV k) (valV kvs k) := .inl ⟨kvs, k, h1, rfl, rfl⟩
    rw [h2] at z
    exact z
  exact tail_any (ops := [.ref a, u]) (dict_typeIs I g) PySem.F.slot_dict_getitem.lookup (d_getItem hu I g ry fun w' s3 I3 rw' => ⟨w, H, I3, rw', q⟩) hs
theorem RepL.zipFind {α : Type} [DecidableEq α] {K : PySem.W.Frag} {G : Hp} {k : α} {d : D} : ∀ {ks : List α} {ds : List D} {vs : List V}, RepL K cl G ds vs → ((ks.zip ds).find? fun kv => decide (kv.1 = k)).map (·.2) = some d → ∃ v, ((ks.zip vs).find? fun kv => decide (kv.1 = k)).map (·.2) = some v ∧ Rep K cl G d v
  | [], _, _, _, h =>
                                                                                                              by simp at h
  | _ :: _, _, _, .nil, h => by simp at h
  | a :: ks, _, _, .cons r t, h => by
    by_cases e : a = k
    · simp [e] at h ⊢; subst h; exact r
    · simp only [List.zip_cons_cons, List.find?_cons, e, decide_false] at h ⊢
      exact RepL.zipFind t h
theorem atI_map {α β : Type} (f : α → β) (l : List α) (i : Int) : L2.atI (l.map f) i = (L2.atI l i).map f := by
  unfold L2.atI
  rw [List.length_map]
  cases ixN l.length i with
  | none => rfl
  | some j => simp
theorem re_ix {a b : Expr} {fa fb : M R} {pos : Pos} (hu : X.A.units + 1 < cLine) (ha : RE X cl F W a fa) (hb : RE X cl F W b fb) (hs : PlainIx b := by intro _ _; rfl) : RE X cl F W (.Subscript a b pos) (cOp ixD fa fb) := by
  refine ⟨PE.imp (pe_ix (ix_seq.or (ix_dict hu)) ha.pe hb.pe hs) fun σ H Q h => tOp_D (f := fun _ _ => getItem .none .none) (fun H G x y dx dy dz Q gh tx ty e k => ?_) h⟩
  unfold ixD at e
  split at e
  · obtain ⟨a1, v1, rfl, h1, r1⟩ := tx.lst gh
    obtain ⟨v, hv, rv⟩ := r1.atI e
    exact .inl (.inl ⟨a1, v1, _, v, rfl, ty.int, SqL.of h1, hv, k _ H G .refl rv⟩)
  · obtain ⟨a1, v1, rfl, h1, r1⟩ := tx.tup gh
    obtain ⟨v, hv, rv⟩ := r1.atI e
    exact .inl (.inr (.inl ⟨a1, v1, _, v, rfl, ty.int, h1, hv, k _ H G .refl rv⟩))
  · obtain ⟨a1, rfl, h1⟩ := tx.scr gh
    obtain ⟨n, hn, rfl⟩ := Option.map_eq_some_iff.mp e
    exact .inl (.inl ⟨a1, _, _, .int n, rfl, ty.int, h1, by rw [atI_map, hn]; rfl, k _ H G .refl .int⟩)
  · split at e
    · rename_i hl
      obtain ⟨c, hc, rfl⟩ := Option.map_eq_some_iff.mp e
      exact .inl (.inr (.inr ⟨_, _, c, tx.str, ty.int, hl, hc, k _ H G .refl .str⟩))
    · cases e
  · obtain ⟨k', hk, hv⟩ := Option.bind_eq_some_iff.mp e
    obtain ⟨a1, vs, rfl, h1, hl, r⟩ := tx.dct gh
    obtain ⟨v, hv2, rv⟩ := r.zipFind hv
    exact .inr ⟨a1, _, k', v, rfl, h1, keyOf_rel ty hk, hv2, k _ H G .refl rv⟩
  · cases e

/-! ### slices -/
def cPart (f : M R) : M (Option Int) := fun e => (f e).bnd fun r e1 => match r with
  | .val (.int i) => .ok (some i) e1
  | _ => .bad
def cNoPart : M (Option Int) := fun e => .ok none e
structure RO (X : Cx) (cl : Str → Addr) (F : Fra) (W : WX) (x : Option Expr) (f : M (Option Int)) : Prop where
  po : PO X x fun σ H Q => ∃ e G, Stt X.K cl F e σ H G ∧ Post X.K cl F W σ (f e) fun o e' => ∀ H' G', Stt X.K cl F e' σ H' G' → Kp F σ e H G e' H' G' → Q o H'
theorem ro_none : RO X cl F W none cNoPart := ⟨⟨fun pins s σ H Q I ⟨e, G, st, q⟩ => po_none.run pins s σ H Q I (q H G st .refl)⟩⟩
theorem ro_some {x : Expr} {f : M R} (h : RE X cl F W x f) : RO X cl F W (some x) (cPart f) := by
  refine ⟨⟨fun pins s σ H Q I ⟨e, G, st, q⟩ => (po_some h.pe).run pins s σ H Q I (tD_then st q fun r e1 v H1 G1 s1 k1 r1 z => ?_)⟩⟩
  cases r with
  | whole i => exact z.elim
  | val d =>
    cases d with
    | int i => cases r1; exact ⟨i, rfl, z H1 G1 s1 k1⟩
    | _ => exact z.elim
def cutL {α : Type} (xs : List α) (lo hi : Option Int) : List α := (xs.drop (HT.sIx xs.length 0 lo)).take (HT.sIx xs.length xs.length hi - HT.sIx xs.length 0 lo)
def slD : D → Option Int → Option Int → Option D
  | .lst l, lo, hi => some (.lst (cutL l lo hi))
  | .tup l, lo, hi => some (.tup (cutL l lo hi))
  | .scr l, lo, hi => some (.lst ((cutL l lo hi).map D.int))
  | _, _, _ => none
theorem RepL.cut {K : PySem.W.Frag} {G : Hp} {ds : List D} {vs : List V} (r : RepL K cl G ds vs) (lo hi : Option Int) : RepL K cl G (cutL ds lo hi) (cutV vs lo hi) := by
  unfold cutL cutV
  rw [r.length]
  exact (r.drop _).take _
theorem cutV_map {α : Type} (f : α → V) (l : List α) (lo hi : Option Int) : cutV (l.map f) lo hi = (cutL l lo hi).map f := by
  unfold cutL cutV
  rw [List.length_map, List.map_take, List.map_drop]
theorem cutL_whole {α : Type} {l : List α} {lo hi : Option Int} (h : HT.sIx l.length 0 lo = 0 ∧ HT.sIx l.length l.length hi = l.length) : cutL l lo hi = l := by
  unfold cutL
  rw [h.1, h.2]
  simp
def cSl (f : M R) (lo hi : M (Option Int)) : M R := fun e => (f e).bnd fun r e1 => (lo e1).bnd fun l e2 => (hi e2).bnd fun h e3 => opt ((e3.rd r).bind fun d => slD d l h) e3
theorem re_sl {x : Expr} {lo hi : Option Expr} {f : M R} {fl fh : M (Option Int)} {p2 pos : Pos} (h : RE X cl F W x f) (hl : RO X cl F W lo fl) (hh : RO X cl F W hi fh) : RE X cl F W (.Subscript x (.Slice lo hi none p2) pos) (cSl f fl fh) := by
  refine ⟨PE.imp (pe_slice (sl_list.or sl_tupA) h.pe hl.po hh.po) fun σ H Q ⟨e, G, st, q⟩ => tD_then st q fun r e1 v H1 G1 s1 k1 r1 z => ?_⟩
  refine ⟨e1, G1, s1, post_imp (post_bnd z) fun l e2 z H2 G2 s2 k2 => ⟨e2, G2, s2, post_imp (post_bnd z) fun u e3 z H3 G3 s3 k3 => ?_⟩⟩
  obtain ⟨dz, z1, z⟩ := post_opt z
  obtain ⟨d, hd, hz⟩ := Option.bind_eq_some_iff.mp z1
  have t := s3.top ((r1.mono k2.gg).mono k3.gg) hd
  have k := (k1.trans k2).trans k3
  cases d with
  | lst ds =>
    cases hz
    obtain ⟨a, vs, rfl, h1, r⟩ := t.lst s3.ret.gh
    refine .inl ⟨a, vs, rfl, SqL.of h1, fun p hp => ?_⟩
    have sp : Step H3 G3 (upd H3 p (.lst (cutV vs l u))) (upd G3 p (.lst (cutV vs l u))) := .lay .refl hp
    exact z _ _ _ (s3.step sp) (k.trans (Kp.step s3 sp)) (Rep.lst upd_same ((r.cut l u).mono (sp.same s3.ret.gh).2.1))
  | scr ds =>
    cases hz
    obtain ⟨a, rfl, h1⟩ := t.scr s3.ret.gh
    refine .inl ⟨a, _, rfl, h1, fun p hp => ?_⟩
    have sp : Step H3 G3 (upd H3 p (.lst (cutV (ds.map V.int) l u))) (upd G3 p (.lst (cutV (ds.map V.int) l u))) := .lay .refl hp
    refine z _ _ _ (s3.step sp) (k.trans (Kp.step s3 sp)) (Rep.lst upd_same ?_)
    rw [cutV_map]
    exact RepL.of_ints _
  | tup ds =>
    cases hz
    obtain ⟨a, vs, rfl, h1, r⟩ := t.tup s3.ret.gh
    refine .inr ⟨a, vs, rfl, h1, fun hw => ?_, fun hw p hp => ?_⟩
    · rw [← r.length] at hw
      rw [cutL_whole hw] at z
      rcases t with t | ⟨_, _, _, t⟩
      · exact z _ H3 G3 s3 k t
      · exact t.elim
    · have sp : Step H3 G3 (upd H3 p (.tup (cutV vs l u))) (upd G3 p (.tup (cutV vs l u))) := .lay .refl hp
      exact z _ _ _ (s3.step sp) (k.trans (Kp.step s3 sp)) (Rep.tup (SqT.of upd_same) ((r.cut l u).mono (sp.same s3.ret.gh).2.1))
  | _ => cases hz

/-! ### calls of builtins -/
inductive TopL (K : PySem.W.Frag) (cl : Str → Addr) (H G : Hp) : List D → List V → Prop
  | nil : TopL K cl H G [] []
  | cons {d : D} {v : V} {ds : List D} {vs : List V} : Top K cl H G d v → TopL K cl H G ds vs → TopL K cl H G (d :: ds) (v :: vs)
def Env.rds (e : Env) : List R → Option (List D)
  | [] => some []
  | r :: rs => match e.rd r, e.rds rs with
    | some d, some ds =>
                                                                                                              some (d :: ds)
    | _, _ => none
theorem Stt.tops {K : PySem.W.Frag} {e : Env} {σ : L2.St} {H G : Hp} (st : Stt K cl F e σ H G) : ∀ {rs : List R} {vs : List V} {ds : List D}, RRs K cl σ G rs vs → e.rds rs = some ds → TopL K cl H G ds vs
  | [], _, _, .nil, h => by cases h; exact .nil
  | r :: rs, _, _, .cons h t, hd => by
    have hd : (match e.rd r, e.rds rs with
      | some d, some ds =>
                                                                                                              some (d :: ds)
      | _, _ => none) = some _ := hd
    cases q : e.rd r with
    | none => rw [q] at hd; cases hd
    | some d =>
      cases q2 : e.rds rs with
      | none => rw [q, q2] at hd; cases hd
      | some ds => rw [q, q2] at hd; cases hd; exact .cons (st.top h q) (st.tops t q2)
def CallD (X : Cx) (cl : Str → Addr) (f : Value) (g : List D → Option D) : Prop :=
  ∃ r, CallR X f r ∧ ∀ H G xs ds dz Q, Same G H → TopL X.K cl H G ds xs → g ds = some dz → (∀ v H' G', Step H G H' G' → Rep X.K cl G' dz v → Q v H') → r xs H Q
def cCB (g : List D → Option D) (fs : M (List R)) : M R := fun e => (fs e).bnd fun rs e1 => opt ((e1.rds rs).bind g) e1
theorem tCB_D {f : Value} {g : List D → Option D} {fs : M (List R)} {r : List V → Hp → VK → Prop} {σ : L2.St} {H : Hp} {Q : VK}
    (hg : ∀ H G xs ds dz Q, Same G H → TopL X.K cl H G ds xs → g ds = some dz → (∀ v H' G', Step H G H' G' → Rep X.K cl G' dz v → Q v H') → r xs H Q)
    (h : tD X.K cl F W (cCB g fs) σ H Q) : tCB r (tA X.K cl F W fs) σ H Q := by
  obtain ⟨e, G, st, q⟩ := h
  refine tA_then st q fun rs e1 vs H1 G1 s1 k1 r1 z => ?_
  obtain ⟨dz, z1, z⟩ := post_opt z
  obtain ⟨ds, hd, hz⟩ := Option.bind_eq_some_iff.mp z1
  exact hg H1 G1 vs ds dz Q s1.ret.gh (s1.tops r1 hd) hz fun v H' G' sp rv => z v H' G' (s1.step sp) (k1.trans (Kp.step s1 sp)) rv
theorem re_callB {x : Str} {p pos : Pos} {a : Expr} {es : List Expr} {id : String} {g : List D → Option D} {fs : M (List R)} (hc : CallD X cl (.builtin id) g) (hg : Gl X x) (hm : X.mg x = none) (hv : bootBuiltins x = some (.builtin id)) (ha : RA X cl F W (a :: es) fs)
    (hn : x ≠ "__name__" := by decide) (hdb : (x == ("__debug__" : Str)) = false := by decide) (he : starEach (a :: es) X.env = (false, eval a X.env) :: starEach es X.env := by rfl) (hpl : (backTo pos (starEach es X.env)).any (·.1) = false := by rfl) :
    RE X cl F W (.Call (.Name x p) (a :: es) [] pos) (cCB g fs) := by
  obtain ⟨r, h1, h2⟩ := hc
  exact ⟨PE.imp (pe_callB h1 hg hm hv ha.pa hn hdb he hpl) fun σ H Q h => tCB_D (f := .none) h2 h⟩
theorem re_callTy {x : Str} {p pos : Pos} {a : Expr} {es : List Expr} {T : String} {g : List D → Option D} {fs : M (List R)} (hc : CallD X cl (.type T) g) (hg : Gl X x) (hm : X.mg x = none) (hv : bootBuiltins x = some (.type T)) (ha : RA X cl F W (a :: es) fs)
    (hn : x ≠ "__name__" := by decide) (hdb : (x == ("__debug__" : Str)) = false := by decide) (he : starEach (a :: es) X.env = (false, eval a X.env) :: starEach es X.env := by rfl) (hpl : (backTo pos (starEach es X.env)).any (·.1) = false := by rfl) :
    RE X cl F W (.Call (.Name x p) (a :: es) [] pos) (cCB g fs) := by
  obtain ⟨r, h1, h2⟩ := hc
  exact ⟨PE.imp (pe_callTy h1 hg hm hv ha.pa hn hdb he hpl) fun σ H Q h => tCB_D (f := .none) h2 h⟩
end
end DL

namespace DL
open PySem L2 PySem.Spec PyProof.Rows

/-! ### statements -/
inductive Fl where
  | nx | rt (d : D) | bk | ct
section
variable (K : PySem.W.Frag) (cl : Str → Addr) (F : Fra) (W : WX)
def PostF (D : Ends) (G : Hp) (o : Out Fl) : Prop := match o with
  | .ok .nx e => ∀ σ' H' G', Stt K cl F e σ' H' G' → Same G G' → D.nx σ' H'
  | .ok .bk e => ∀ σ' H' G', Stt K cl F e σ' H' G' → Same G G' → D.bk σ' H'
  | .ok .ct e => ∀ σ' H' G', Stt K cl F e σ' H' G' → Same G G' → D.ct σ' H'
  | .ok (.rt d) e => ∀ v H' G', Ret K cl F H' G' e.j → Rep K cl G' d v → D.rt v H'
  | .exn x e => ∀ cls dd σ' H' G', Stt K cl F e σ' H' G' → ExcAt K cl x cls dd H' G' → W cls dd σ' H'
  | .bad => False
def tSt (f : M Fl) : TS := fun D σ H => ∃ e G, Stt K cl F e σ H G ∧ PostF K cl F W D G (f e)
end
structure RS (X : Cx) (cl : Str → Addr) (F : Fra) (W : WX) (x : Stmt) (f : M Fl) : Prop where
  ps : PS X x (tSt X.K cl F W f)
structure RSs (X : Cx) (cl : Str → Addr) (F : Fra) (W : WX) (xs : List Stmt) (f : M Fl) : Prop where
  pss : PSs X xs (tSt X.K cl F W f)
def Out.bndF (o : Out Fl) (k : Env → Out Fl) : Out Fl := o.bnd fun fl e => match fl with
  | .nx => k e
  | fl => .ok fl e
section
variable {K : PySem.W.Frag} {cl : Str → Addr} {F : Fra} {W : WX}
theorem PostF.mono {D : Ends} {G G' : Hp} {o : Out Fl} (h : PostF K cl F W D G o) (g : Same G G') : PostF K cl F W D G' o := by
  cases o with
  | ok fl e =>
    cases fl with
    | nx => exact fun σ' H' G2 s k => h σ' H' G2 s (g.trans k)
    | bk => exact fun σ' H' G2 s k => h σ' H' G2 s (g.trans k)
    | ct => exact fun σ' H' G2 s k => h σ' H' G2 s (g.trans k)
    | rt d => exact h
  | exn x e => exact h
  | bad => exact h
theorem postF_bnd {D : Ends} {G : Hp} {o : Out Fl} {k : Env → Out Fl} (h : PostF K cl F W D G (o.bndF k)) :
    PostF K cl F W { D with nx := fun σ H => ∃ e G', Stt K cl F e σ H G' ∧ PostF K cl F W D G' (k e) } G o := by
  cases o with
  | ok fl e =>
    cases fl with
    | nx => exact fun σ' H' G' s g => ⟨e, G', s, PostF.mono h g⟩
    | bk => exact h
    | ct => exact h
    | rt d => exact h
  | exn x e => exact h
  | bad => exact h
theorem Xn.of {σ : L2.St} {e : Env} {x : Exc} (h : ∀ cls dd σ' H' G', Stt K cl F e σ' H' G' → ExcAt K cl x cls dd H' G' → W cls dd σ' H') : Xn K cl F W σ e x := fun cls dd H' G' s z => h cls dd σ H' G' s z
/-- an expression in a statement -/
theorem tD_st {fa : M R} {k : R → Env → Out Fl} {σ : L2.St} {H G : Hp} {e : Env} {D : Ends} {Q : VK} (st : Stt K cl F e σ H G) (h : PostF K cl F W D G ((fa e).bnd k))
    (c : ∀ r e1 v H1 G1, Stt K cl F e1 σ H1 G1 → Kp F σ e H G e1 H1 G1 → RR K cl σ G1 r v → PostF K cl F W D G1 (k r e1) → Q v H1) : tD K cl F W fa σ H Q := by
  refine ⟨e, G, st, ?_⟩
  cases q : fa e with
  | ok r e1 =>
    rw [q] at h
    exact fun v H1 G1 s1 k1 r1 => c r e1 v H1 G1 s1 k1 r1 (PostF.mono (o := k r e1) h k1.gg)
  | exn x e1 => rw [q] at h; exact Xn.of h
  | bad => rw [q] at h; exact h
theorem tB_st {fa : M Bool} {k : Bool → Env → Out Fl} {σ : L2.St} {H G : Hp} {e : Env} {D : Ends} {Q : Bool → Hp → Prop} (st : Stt K cl F e σ H G) (h : PostF K cl F W D G ((fa e).bnd k))
    (c : ∀ r e1 H1 G1, Stt K cl F e1 σ H1 G1 → Kp F σ e H G e1 H1 G1 → PostF K cl F W D G1 (k r e1) → Q r H1) : tB' K cl F W fa σ H Q := by
  refine ⟨e, G, st, ?_⟩
  cases q : fa e with
  | ok r e1 =>
    rw [q] at h
    exact fun H1 G1 s1 k1 => c r e1 H1 G1 s1 k1 (PostF.mono (o := k r e1) h k1.gg)
  | exn x e1 => rw [q] at h; exact Xn.of h
  | bad => rw [q] at h; exact h
theorem tA_st {fa : M (List R)} {k : List R → Env → Out Fl} {σ : L2.St} {H G : Hp} {e : Env} {D : Ends} {Q : List V → Hp → Prop} (st : Stt K cl F e σ H G) (h : PostF K cl F W D G ((fa e).bnd k))
    (c : ∀ r e1 v H1 G1, Stt K cl F e1 σ H1 G1 → Kp F σ e H G e1 H1 G1 → RRs K cl σ G1 r v → PostF K cl F W D G1 (k r e1) → Q v H1) : tA K cl F W fa σ H Q := by
  refine ⟨e, G, st, ?_⟩
  cases q : fa e with
  | ok r e1 =>
    rw [q] at h
    exact fun v H1 G1 s1 k1 r1 => c r e1 v H1 G1 s1 k1 r1 (PostF.mono (o := k r e1) h k1.gg)
  | exn x e1 => rw [q] at h; exact Xn.of h
  | bad => rw [q] at h; exact h
end

def sNx : M Fl := fun e => .ok .nx e
def sBk : M Fl := fun e => .ok .bk e
def sCt : M Fl := fun e => .ok .ct e
def sBad : M Fl := fun _ => .bad
def sSeq (f g : M Fl) : M Fl := fun e => (f e).bndF g
def sExpr (f : M R) : M Fl := fun e => (f e).bnd fun _ e1 => .ok .nx e1
def sIf (c : M Bool) (f g : M Fl) : M Fl := fun e => (c e).bnd fun b e1 => if b then f e1 else g e1
def retF (o : Option (D × Env)) : Out Fl := match o with
  | some (d, e) => .ok (.rt d) e
  | none => .bad
def sRet (f : M R) : M Fl := fun e => (f e).bnd fun r e1 => retF (e1.frz r)
def sRetN : M Fl := fun e => .ok (.rt .non) e
def asgF (i : Nat) (o : Option (D × Env)) : Out Fl := match o with
  | some (d, e) => .ok .nx (e.setS i (.dat d))
  | none => .bad
def sAsg (i : Nat) (f : M R) : M Fl := fun e => (f e).bnd fun r e1 => asgF i (e1.frz r)

section
variable {X : Cx} {cl : Str → Addr} {F : Fra} {W : WX}
theorem rs_nil : RSs X cl F W [] sNx := ⟨PSs.imp pss_nil fun D σ H ⟨e, G, st, q⟩ => q σ H G st (.refl _)⟩
theorem rs_cons {s : Stmt} {ss : List Stmt} {f g : M Fl} (h : RS X cl F W s f) (t : RSs X cl F W ss g) : RSs X cl F W (s :: ss) (sSeq f g) :=
  ⟨PSs.imp (pss_cons h.ps t.pss) fun D σ H ⟨e, G, st, q⟩ => ⟨e, G, st, postF_bnd q⟩⟩
theorem rs_one {s : Stmt} {f : M Fl} (h : RS X cl F W s f) : RSs X cl F W [s] f := ⟨pss_one h.ps⟩
theorem rs_pass {pos} : RS X cl F W (.Pass pos) sNx := ⟨PS.imp ps_pass fun D σ H ⟨e, G, st, q⟩ => q σ H G st (.refl _)⟩
theorem rs_break {pos} : RS X cl F W (.Break pos) sBk := ⟨PS.imp ps_break fun D σ H ⟨e, G, st, q⟩ => q σ H G st (.refl _)⟩
theorem rs_continue {pos} : RS X cl F W (.Continue pos) sCt := ⟨PS.imp ps_continue fun D σ H ⟨e, G, st, q⟩ => q σ H G st (.refl _)⟩
/-- what the proof never comes to -/
theorem rs_never {s : Stmt} : RS X cl F W s sBad := ⟨PS.imp ps_never fun D σ H ⟨e, G, st, q⟩ => q⟩
theorem rss_never {s : List Stmt} : RSs X cl F W s sBad := ⟨PSs.imp pss_never fun D σ H ⟨e, G, st, q⟩ => q⟩
theorem rs_expr {x : Expr} {f : M R} {pos : Pos} (h : RE X cl F W x f) (hs : swapsWith x none pos.line X.env = pure false := by rfl) : RS X cl F W (.Expr x pos) (sExpr f) :=
  ⟨PS.imp (ps_expr h.pe hs) fun D σ H ⟨e, G, st, q⟩ => tD_st st q fun r e1 v H1 G1 s1 k1 r1 z => z σ H1 G1 s1 (.refl _)⟩
theorem rs_if {c : Expr} {a b : List Stmt} {fc : M Bool} {f g : M Fl} {pos : Pos} (hc : RT X cl F W c fc) (ha : RSs X cl F W a f) (hb : RSs X cl F W b g) : RS X cl F W (.If c a b pos) (sIf fc f g) := by
  refine ⟨PS.imp (ps_if hc.pt ha.pss hb.pss) fun D σ H ⟨e, G, st, q⟩ => tB_st st q fun r e1 H1 G1 s1 k1 z => ?_⟩
  cases r with
  | true => exact ⟨e1, G1, s1, z⟩
  | false => exact ⟨e1, G1, s1, z⟩
theorem rs_ret {x : Expr} {f : M R} {pos : Pos} (h : RE X cl F W x f) : RS X cl F W (.Return (some x) pos) (sRet f) := by
  refine ⟨PS.imp (ps_ret h.pe) fun D σ H ⟨e, G, st, q⟩ => tD_st st q fun r e1 v H1 G1 s1 k1 r1 z => ?_⟩
  cases y : e1.frz r with
  | none => rw [y] at z; exact z.elim
  | some p =>
    obtain ⟨d, e2⟩ := p
    rw [y] at z
    obtain ⟨G2, s2, k2, r2⟩ := frz_ok s1 r1 y
    exact z v H1 G2 s2.ret r2
theorem rs_retN {pos : Pos} : RS X cl F W (.Return none pos) sRetN := ⟨PS.imp ps_retN fun D σ H ⟨e, G, st, q⟩ => q .non H G st.ret .non⟩
/-- a slot is set -/
theorem Stt.set {K : PySem.W.Frag} {e : Env} {σ : L2.St} {H G : Hp} {i : Nat} {d : D} {v : V} (st : Stt K cl F e σ H G) (r : Rep K cl G d v) : Stt K cl F (e.setS i (.dat d)) (σ.set i (some v)) H G := by
  obtain ⟨ret, jh, len, slot, inj⟩ := st
  have hset : ∀ {j : Nat} {x : S}, (e.setS i (.dat d)).s[j]? = some x → (j = i ∧ i < e.s.length ∧ x = .dat d) ∨ (j ≠ i ∧ e.s[j]? = some x) := fun {j x} h => by
    by_cases hj : j = i
    · subst hj
      have hl : j < (e.setS j (.dat d)).s.length := (List.getElem?_eq_some_iff.mp h).1
      have hl' : j < e.s.length := by simpa [Env.setS] using hl
      have z : (e.setS j (.dat d)).s[j]? = some (.dat d) := List.getElem?_set_self hl'
      rw [z] at h; cases h; exact .inl ⟨rfl, hl', rfl⟩
    · rw [setS_ne hj] at h; exact .inr ⟨hj, h⟩
  have hσ : ∀ {j : Nat}, j ≠ i → (σ.set i (some v))[j]? = σ[j]? := fun hj => List.getElem?_set_ne (Ne.symm hj)
  refine ⟨ret, jh, by simp [Env.setS, len], fun j x h => ?_, fun j k d1 d2 p k1 k2 k3 k4 => ?_⟩
  · rcases hset h with ⟨rfl, hl, rfl⟩ | ⟨hj, h⟩
    · exact ⟨v, List.getElem?_set_self (by rw [len]; exact hl), r⟩
    · have z := slot j x h
      cases x with
      | un => trivial
      | dat d1 => obtain ⟨v1, z1, z2⟩ := z; exact ⟨v1, by rw [hσ hj]; exact z1, z2⟩
      | own d1 => obtain ⟨p, z1, z2, z3, z4⟩ := z; exact ⟨p, by rw [hσ hj]; exact z1, z2, z3, z4⟩
      | jar k => obtain ⟨p, z1, z2⟩ := z; exact ⟨p, z1, by rw [hσ hj]; exact z2⟩
  · rcases hset k1 with ⟨_, _, z⟩ | ⟨h1, k1⟩
    · cases z
    · rcases hset k2 with ⟨_, _, z⟩ | ⟨h2, k2⟩
      · cases z
      · rw [hσ h1] at k3; rw [hσ h2] at k4; exact inj j k d1 d2 p k1 k2 k3 k4
theorem asg_D {fa : M R} {i : Nat} {D : Ends} {σ : L2.St} {H : Hp} (h : tSt X.K cl F W (sAsg i fa) D σ H) : tAsg (tD X.K cl F W fa) (gName i) D σ H := by
  obtain ⟨e, G, st, q⟩ := h
  refine tD_st st q fun r e1 v H1 G1 s1 k1 r1 z => ?_
  cases y : e1.frz r with
  | none => rw [y] at z; exact z.elim
  | some p =>
    obtain ⟨d, e2⟩ := p
    rw [y] at z
    obtain ⟨G2, s2, k2, r2⟩ := frz_ok s1 r1 y
    exact z _ H1 G2 (s2.set r2) k2.gg
theorem rs_asg {i : Nat} {x : Str} {a : Expr} {f : M R} {pos pos' : Pos} (hN : X.N.Nodup) (h : RE X cl F W a f) (hi : X.N[i]? = some x := by rfl) (hx : Loc X.env.scope x := by first | exact Or.inl rfl | exact Or.inr rfl)
    (hs : swapsWith a (some (.Name x pos')) pos.line X.env = pure false := by rfl) (hf : X.fn x = true ∨ X.env.scope.names.lookup x = some .local := by first | exact .inl rfl | exact .inr rfl) : RS X cl F W (.Assign [.Name x pos'] a pos) (sAsg i f) :=
  ⟨PS.imp (ps_set hN hi hx h.pe hs hf) fun D σ H h => asg_D h⟩

/-! ### targets -/
abbrev Tg := D → Env → Option Env
def gN (i : Nat) : Tg := fun d e => some (e.setS i (.dat d))
def gTs : List Tg → List D → Env → Option Env
  | [], [], e => some e
  | g :: gs, d :: ds, e => (g d e).bind (gTs gs ds)
  | _, _, _ => none
def gT (gs : List Tg) : Tg := fun d e => match d with
  | .tup ds => gTs gs ds e
  | _ => none
/-- σ' is σ but at the slots ws -/
def Agr (ws : List Nat) (σ σ' : L2.St) : Prop := σ'.length = σ.length ∧ ∀ j, j ∉ ws → σ'[j]? = σ[j]?
theorem Agr.trans {ws vs : List Nat} {a b c : L2.St} (h : Agr ws a b) (k : Agr vs b c) : Agr (ws ++ vs) a c :=
  ⟨k.1.trans h.1, fun j hj => (k.2 j fun z => hj (List.mem_append_right _ z)).trans (h.2 j fun z => hj (List.mem_append_left _ z))⟩
def tG (K : PySem.W.Frag) (cl : Str → Addr) (F : Fra) (ws : List Nat) (g : Tg) : TG := fun v σ H Q => ∃ e e' G d, Stt K cl F e σ H G ∧ Rep K cl G d v ∧ g d e = some e' ∧ ∀ σ', Agr ws σ σ' → Stt K cl F e' σ' H G → Q σ' H
def tGs (K : PySem.W.Frag) (cl : Str → Addr) (F : Fra) (ws : List Nat) (gs : List Tg) : TGs := fun vs σ H Q => ∃ e e' G ds, Stt K cl F e σ H G ∧ RepL K cl G ds vs ∧ gTs gs ds e = some e' ∧ ∀ σ', Agr ws σ σ' → Stt K cl F e' σ' H G → Q σ' H
def S.plain : S → Bool
  | .un => true
  | .dat _ => true
  | _ => false
/-- e' is e but at the slots ws, where plain data stand -/
structure EAgr (ws : List Nat) (e e' : Env) : Prop where
  len : e'.s.length = e.s.length
  out : ∀ i, i ∉ ws → e'.s[i]? = e.s[i]?
  pl : ∀ i, i ∈ ws → ∀ x, e'.s[i]? = some x → x.plain = true
  j : e'.j = e.j
theorem EAgr.trans {ws vs : List Nat} {a b c : Env} (h : EAgr ws a b) (k : EAgr vs b c) : EAgr (ws ++ vs) a c := by
  refine ⟨k.len.trans h.len, fun i hi => (k.out i fun z => hi (List.mem_append_right _ z)).trans (h.out i fun z => hi (List.mem_append_left _ z)), fun i hi x hx => ?_, k.j.trans h.j⟩
  by_cases hv : i ∈ vs
  · exact k.pl i hv x hx
  · have hw : i ∈ ws := (List.mem_append.mp hi).resolve_right hv
    exact h.pl i hw x ((k.out i hv).symm.trans hx)
structure RG (X : Cx) (cl : Str → Addr) (F : Fra) (ws : List Nat) (x : Expr) (g : Tg) : Prop where
  pg : PG X x (tG X.K cl F ws g)
  fr : ∀ d e e', g d e = some e' → EAgr ws e e'
structure RGs (X : Cx) (cl : Str → Addr) (F : Fra) (ws : List Nat) (x : List Expr) (g : List Tg) : Prop where
  pgs : PGs X x (tGs X.K cl F ws g)
  fr : ∀ d e e', gTs g d e = some e' → EAgr ws e e'
theorem PG.imp {X : Cx} {x : Expr} {t t' : TG} (h : PG X x t) (i : ∀ v σ H Q, t' v σ H Q → t v σ H Q) : PG X x t' := ⟨fun pins s σ H v u Q I r q => h.run pins s σ H v u Q I r (i v σ H Q q)⟩
theorem PGs.imp {X : Cx} {x : List Expr} {t t' : TGs} (h : PGs X x t) (i : ∀ v σ H Q, t' v σ H Q → t v σ H Q) : PGs X x t' := ⟨fun pins s σ H v u Q I r q => h.run pins s σ H v u Q I r (i v σ H Q q)⟩
theorem rg_n (i : Nat) {x : Str} {pos : Pos} (hN : X.N.Nodup) (hi : X.N[i]? = some x := by rfl) (hx : Loc X.env.scope x := by first | exact Or.inl rfl | exact Or.inr rfl) (hf : X.fn x = true ∨ X.env.scope.names.lookup x = some .local := by first | exact .inl rfl | exact .inr rfl) : RG X cl F [i] (.Name x pos) (gN i) := by
  refine ⟨PG.imp (pg_name hN hi hx hf) fun v σ H Q ⟨e, e', G, d, st, r, h, q⟩ => ?_, fun d e e' h => ?_⟩
  · cases h
    exact q _ ⟨by simp, fun j hj => List.getElem?_set_ne (fun z => hj (by simp [z]))⟩ (st.set r)
  · cases h
    refine ⟨by simp [Env.setS], fun j hj => setS_ne (fun z => hj (by simp [z])), fun j hj x hx => ?_, rfl⟩
    have e1 : j = i := by simpa using hj
    subst e1
    have hl : j < (e.setS j (.dat d)).s.length := (List.getElem?_eq_some_iff.mp hx).1
    have hl' : j < e.s.length := by simpa [Env.setS] using hl
    have z : (e.setS j (.dat d)).s[j]? = some (.dat d) := List.getElem?_set_self hl'
    rw [z] at hx; cases hx; rfl
theorem rgs_nil : RGs X cl F [] [] [] := by
  refine ⟨PGs.imp pgs_nil fun vs σ H Q ⟨e, e', G, ds, st, r, h, q⟩ => ?_, fun ds e e' h => ?_⟩
  · cases r with
    | nil => cases h; exact ⟨rfl, q σ ⟨rfl, fun _ _ => rfl⟩ st⟩
    | cons => cases h
  · cases ds with
    | nil => cases h; exact ⟨rfl, fun _ _ => rfl, fun _ h => by simp at h, rfl⟩
    | cons => cases h
theorem rgs_cons {x : Expr} {xs : List Expr} {g : Tg} {gs : List Tg} {ws vs : List Nat} (h1 : RG X cl F ws x g) (h2 : RGs X cl F vs xs gs) (hs : (assignEach (x :: xs) X.env).map (·.2) = assign x X.env :: (assignEach xs X.env).map (·.2) := by rfl) : RGs X cl F (ws ++ vs) (x :: xs) (g :: gs) := by
  refine ⟨PGs.imp (pgs_cons h1.pg h2.pgs hs) fun us σ H Q ⟨e, e', G, ds, st, r, h, q⟩ => ?_, fun ds e e' h => ?_⟩
  · cases r with
    | nil => cases h
    | cons r1 rr =>
      obtain ⟨e1, h1, h2⟩ := Option.bind_eq_some_iff.mp h
      exact ⟨_, _, rfl, e, e1, G, _, st, r1, h1, fun σ1 a1 s1 => ⟨e1, e', G, _, s1, rr, h2, fun σ' a2 s => q σ' (a1.trans a2) s⟩⟩
  · cases ds with
    | nil => cases h
    | cons d ds =>
      obtain ⟨e1, q1, q2⟩ := Option.bind_eq_some_iff.mp h
      exact (h1.fr _ _ _ q1).trans (h2.fr _ _ _ q2)
theorem gTs_len : ∀ {gs : List Tg} {ds : List D} {e e' : Env}, gTs gs ds e = some e' → ds.length = gs.length
  | [], [], _, _, _ => rfl
  | g :: gs, d :: ds, e, e', h => by
    obtain ⟨e1, _, h2⟩ := Option.bind_eq_some_iff.mp h
    simp [gTs_len h2]
  | [], _ :: _, _, _, h => by cases h
  | _ :: _, [], _, _, h => by cases h
theorem rg_t {xs : List Expr} {gs : List Tg} {ws : List Nat} {k : Nat} {pos : Pos} (hc : X.calm = true) (h : RGs X cl F ws xs gs) (hn : (assignEach xs X.env).length = gs.length := by rfl) (hst : (assignEach xs X.env).findIdx? (·.1) = none := by rfl) : RG X cl F ws (.Tuple xs k pos) (gT gs) := by
  refine ⟨PG.imp (pg_tup hc h.pgs hn hst) fun v σ H Q ⟨e, e', G, d, st, r, h, q⟩ => ?_, fun d e e' q => ?_⟩
  · cases d with
    | tup ds =>
      cases r with
      | tup h1 r => exact ⟨_, _, rfl, SqT.same st.ret.gh h1, by rw [← r.length]; exact gTs_len h, e, e', G, ds, st, r, h, q⟩
    | _ => cases h
  · cases d with
    | tup ds => exact h.fr _ _ _ q
    | _ => cases q
def sAsgT (g : Tg) (f : M R) : M Fl := fun e => (f e).bnd fun r e1 => match e1.frz r with
  | some (d, e2) => (match g d e2 with
    | some e3 => .ok .nx e3
    | none => .bad)
  | none => .bad
theorem rs_asgT {tg a : Expr} {g : Tg} {ws : List Nat} {f : M R} {pos : Pos} (h : RE X cl F W a f) (hg : RG X cl F ws tg g) (hs : swapsWithSole [tg] a pos.line X.env = pure false := by rfl) (hw : swappedStores [tg] a X.env = pure none := by rfl)
    (h1 : (assignEach [tg] X.env).map (·.2) = [assign tg X.env] := by rfl) : RS X cl F W (.Assign [tg] a pos) (sAsgT g f) := by
  refine ⟨PS.imp (ps_asg h.pe hg.pg hs hw h1) fun D σ H ⟨e, G, st, q⟩ => tD_st st q fun r e1 v H1 G1 s1 k1 r1 z => ?_⟩
  cases y : e1.frz r with
  | none => rw [y] at z; exact z.elim
  | some p =>
    obtain ⟨d, e2⟩ := p
    rw [y] at z
    obtain ⟨G2, s2, k2, r2⟩ := frz_ok s1 r1 y
    cases y2 : g d e2 with
    | none => simp only [y2] at z; exact z.elim
    | some e3 =>
      simp only [y2] at z
      exact ⟨e2, e3, G2, d, s2, r2, y2, fun σ' a s => z σ' H1 G2 s k2.gg⟩

/-! ### walks -/
/-- what the iterator J yields: ds, as long as G stands -/
def ItOk (K : PySem.W.Frag) (cl : Str → Addr) (G : Hp) (J : It) (ds : List D) : Prop := ∀ H' G', Same G G' → Same G' H' →
  (∀ (i : Nat) d, ds[i]? = some d → J.go i H' ∧ ∀ x H2, J.yld i H' x H2 → ∃ G2, Step H' G' H2 G2 ∧ Rep K cl G2 d x) ∧ J.stop ds.length H'
structure RI (X : Cx) (cl : Str → Addr) (F : Fra) (W : WX) (tg : Expr) (x : Expr) (f : M (List D)) : Prop where
  pi : PI X tg x fun σ H Q => ∃ e G, Stt X.K cl F e σ H G ∧ Post X.K cl F W σ (f e) fun ds e' => ∀ J H' G', Stt X.K cl F e' σ H' G' → Kp F σ e H G e' H' G' → ItOk X.K cl G' J ds → Q J H'
theorem PI.imp {X : Cx} {tg x : Expr} {t t' : TI} (h : PI X tg x t) (i : ∀ σ H Q, t' σ H Q → t σ H Q) : PI X tg x t' := ⟨fun pins s σ H R I q => h.run pins s σ H R I (i σ H R q)⟩
/-- over a list, a tuple, the script, a text -/
theorem pi_seq {tg l : Expr} {tl : TE} (hl : PE X l tl) : PI X tg l fun σ H R => tl σ H fun x Ha => (∃ a, x = .ref a ∧ (∃ xs, SqL X.K Ha a xs) ∧ R (Itl X.K a) Ha) ∨ (∃ a, x = .ref a ∧ (∃ xs, SqT X.K Ha a xs) ∧ R (Itt X.K a) Ha) ∨ ∃ z, x = .str z ∧ R (Its z) Ha := by
  refine ⟨fun pinned s σ H R I h => ?_⟩
  refine thn (hl.run pinned s σ H _ I h) fun v sa ⟨x, Ha, J1, ra1, wa⟩ => ?_
  rcases wa with ⟨a, rfl, ⟨xs, hold⟩, q⟩ | ⟨a, rfl, ⟨xs, hold⟩, q⟩ | ⟨z, rfl, q⟩
  · cases ra1
    obtain ⟨elts, rvals, p, hroom⟩ := J1.list hold
    refine wpAny_pyIter_list
                                                                                                              p.isList ?_
    refine ⟨sa.heap.objs.size, [sa.heap.objs.size], _, _, Ha, rfl, J1.kept (t' := sa.toks) fun b o e => Heap.get?_push_of_some _ e, turn_list a _, ⟨_, Heap.get?_push_size _ rfl, rfl, rfl⟩, fun b hadr => ?_, q⟩
    have e : b = sa.heap.objs.size := by simpa using hadr
    subst e
    exact J1.fpOk (Nat.le_refl _) (J1.hok.fresh (Nat.le_refl _))
  · cases ra1
    obtain ⟨elts, rvals, p, hroom⟩ := J1.tuple hold
    refine wpAny_pyIter_tuple (show sa.heap.IsTuple a elts.toArray from p) ?_
    refine ⟨sa.heap.objs.size, [sa.heap.objs.size], _, _, Ha, rfl, J1.kept (t' := sa.toks) fun b o e => Heap.get?_push_of_some _ e, turn_tuple a _, ⟨_, Heap.get?_push_size _ rfl, rfl, rfl⟩, fun b hadr => ?_, q⟩
    have e : b = sa.heap.objs.size := by simpa using hadr
    subst e
    exact J1.fpOk (Nat.le_refl _) (J1.hok.fresh (Nat.le_refl _))
  · obtain ⟨t, rfl⟩ := ra1
    cases ha : z.cps.all (· < 128)
    · exact wpAny_pyIter_wide ha (pi_one (tk := sa.toks) J1 _ (turn_str _ z t "str_iterator" (.inr rfl)) ⟨_, Heap.get?_push_size _ rfl, rfl, rfl⟩ q)
    · exact wpAny_pyIter_ascii ha (pi_one (tk := sa.toks) J1 _ (turn_str _ z t "str_ascii_iterator" (.inl rfl)) ⟨_, Heap.get?_push_size _ rfl, rfl, rfl⟩ q)
end
end DL

namespace DL
open PySem L2 PySem.Spec PyProof.Rows

def seqItems : D → Option (List D)
  | .lst l => some l
  | .tup l => some l
  | .scr l => some (l.map D.int)
  | .str s => some (s.cps.toList.map fun c => .str ⟨#[c]⟩)
  | _ => none
def cIter (f : M R) : M (List D) := fun e => (f e).bnd fun r e1 => match e1.frz r with
  | some (d, e2) => optB (seqItems d) e2
  | none => .bad
def rng (lo : Int) (n : Nat) : List D := (List.range n).map fun i => .int (lo + (i : Nat))
def rngI1 : List R → Option (List D)
  | [.val (.int j)] => if -(2 ^ 62) ≤ j ∧ j < 2 ^ 62 then some (rng 0 j.toNat) else none
  | _ => none
def rngI2 : List R → Option (List D)
  | [.val (.int i), .val (.int j)] => if -(2 ^ 62) ≤ i ∧ i < 2 ^ 62 ∧ -(2 ^ 62) ≤ j ∧ j < 2 ^ 62 then some (rng i (j - i).toNat) else none
  | _ => none
def cRange1 (fs : M (List R)) : M (List D) := fun e => (fs e).bnd fun rs e1 => optB (rngI1 rs) e1
def cRange2 (fs : M (List R)) : M (List D) := fun e => (fs e).bnd fun rs e1 => optB (rngI2 rs) e1
section
variable {X : Cx} {cl : Str → Addr} {F : Fra} {W : WX}
theorem itOk_list {K : PySem.W.Frag} {G : Hp} {a : Addr} {ds : List D} {vs : List V} (h : G a = some (.lst vs)) (r : RepL K cl G ds vs) : ItOk K cl G (Itl K a) ds := fun H' G' gg gh => by
  have h1 : SqL K H' a vs := SqL.of (gh _ _ (gg _ _ h))
  refine ⟨fun i d hd => ?_, ⟨vs, h1, by rw [r.length]; exact Nat.le_refl _⟩⟩
  obtain ⟨v, hv, rv⟩ := r.getD hd
  exact ⟨⟨vs, v, h1, hv⟩, fun x H2 ⟨e1, e2⟩ => by
    subst e1
    have e3 := e2 vs h1
    rw [hv] at e3; cases e3
    exact ⟨G', .refl, rv.mono gg⟩⟩
theorem itOk_scr {K : PySem.W.Frag} {G : Hp} {a : Addr} {ns : List Int} (h : SqL K G a (ns.map V.int)) : ItOk K cl G (Itl K a) (ns.map D.int) := fun H' G' gg gh => by
  have h1 : SqL K H' a (ns.map V.int) := Same.seq gh (Same.seq gg h)
  refine ⟨fun i d hd => ?_, ⟨_, h1, by simp⟩⟩
  obtain ⟨v, hv, rv⟩ := (RepL.of_ints (K := K) (cl := cl) (G := G) ns).getD hd
  exact ⟨⟨_, v, h1, hv⟩, fun x H2 ⟨e1, e2⟩ => by
    subst e1
    have e3 := e2 _ h1
    rw [hv] at e3; cases e3
    exact ⟨G', .refl, rv.mono gg⟩⟩
theorem itOk_tup {K : PySem.W.Frag} {G : Hp} {a : Addr} {ds : List D} {vs : List V} (h : SqT K G a vs) (r : RepL K cl G ds vs) : ItOk K cl G (Itt K a) ds := fun H' G' gg gh => by
  have h1 : SqT K H' a vs := SqT.same gh (SqT.same gg h)
  refine ⟨fun i d hd => ?_, ⟨vs, h1, by rw [r.length]; exact Nat.le_refl _⟩⟩
  obtain ⟨v, hv, rv⟩ := r.getD hd
  exact ⟨⟨vs, v, h1, hv⟩, fun x H2 ⟨e1, e2⟩ => by
    subst e1
    have e3 := e2 vs h1
    rw [hv] at e3; cases e3
    exact ⟨G', .refl, rv.mono gg⟩⟩
theorem itOk_str {K : PySem.W.Frag} {G : Hp} {s : Str} : ItOk K cl G (Its s) (s.cps.toList.map fun c => .str ⟨#[c]⟩) := fun H' G' gg gh => by
  refine ⟨fun i d hd => ?_, by show s.cps.size ≤ _; simp⟩
  rw [List.getElem?_map] at hd
  obtain ⟨c, hc, rfl⟩ := Option.map_eq_some_iff.mp hd
  have hc' : s.cps[i]? = some c := by simpa using hc
  exact ⟨(Array.getElem?_eq_some_iff.mp hc').1, fun x H2 ⟨e1, c', e2, e3⟩ => by
    subst e1 e3
    rw [hc'] at e2; cases e2
    exact ⟨G', .refl, .str⟩⟩
theorem itOk_rng {K : PySem.W.Frag} {G : Hp} {lo : Int} {n : Nat} : ItOk K cl G (Itr lo n) (rng lo n) := fun H' G' gg gh => by
  refine ⟨fun i d hd => ?_, by show n ≤ _; simp [rng]⟩
  unfold rng at hd
  rw [List.getElem?_map] at hd
  obtain ⟨c, hc, rfl⟩ := Option.map_eq_some_iff.mp hd
  have hi : i < n := by
    have := (List.getElem?_eq_some_iff.mp hc).1
    simpa using this
  have hci : c = i := by rw [List.getElem?_range hi] at hc; exact (Option.some.inj hc).symm
  subst hci
  exact ⟨hi, fun x H2 ⟨e1, e2⟩ => by subst e1 e2; exact ⟨G', .refl, .int⟩⟩
theorem ri_seq {tg x : Expr} {f : M R} (h : RE X cl F W x f) : RI X cl F W tg x (cIter f) := by
  refine ⟨PI.imp (pi_seq h.pe) fun σ H Q ⟨e, G, st, q⟩ => tD_then st q fun r e1 v H1 G1 s1 k1 r1 z => ?_⟩
  cases y : e1.frz r with
  | none => rw [y] at z; exact z.elim
  | some p =>
    obtain ⟨d, e2⟩ := p
    rw [y] at z
    obtain ⟨G2, s2, k2, r2⟩ := frz_ok s1 r1 y
    obtain ⟨ds, hds, z⟩ := post_some z
    cases d with
    | lst l =>
      cases hds
      cases r2 with
      | lst h1 rl => exact .inl ⟨_, rfl, ⟨_, SqL.of (s2.ret.gh _ _ h1)⟩, z _ H1 G2 s2 (k1.trans k2) (itOk_list h1 rl)⟩
    | scr l =>
      cases hds
      cases r2 with
      | scr h1 => exact .inl ⟨_, rfl, ⟨_, Same.seq s2.ret.gh h1⟩, z _ H1 G2 s2 (k1.trans k2) (itOk_scr h1)⟩
    | tup l =>
      cases hds
      cases r2 with
      | tup h1 rl => exact .inr (.inl ⟨_, rfl, ⟨_, SqT.same s2.ret.gh h1⟩, z _ H1 G2 s2 (k1.trans k2) (itOk_tup h1 rl)⟩)
    | str s =>
      cases hds
      cases r2
      exact .inr (.inr ⟨s, rfl, z _ H1 G2 s2 (k1.trans k2) itOk_str⟩)
    | _ => cases hds
theorem rrs1 {K : PySem.W.Frag} {σ : L2.St} {G : Hp} {i : Int} {vs : List V} (h : RRs K cl σ G [.val (.int i)] vs) : vs = [.int i] := by
  cases h with
  | cons a t => cases t; cases a; rfl
theorem rrs2 {K : PySem.W.Frag} {σ : L2.St} {G : Hp} {i j : Int} {vs : List V} (h : RRs K cl σ G [.val (.int i), .val (.int j)] vs) : vs = [.int i, .int j] := by
  cases h with
  | cons a t => cases t with
    | cons b t => cases t; cases a; cases b; rfl
theorem ri_range1 {tg a : Expr} {p pos : Pos} {fs : M (List R)} (hg : Gl X "range") (hm : X.mg "range" = none) (h : RA X cl F W [a] fs) (hs : starEach [a] X.env = [(false, eval a X.env)] := by rfl) : RI X cl F W tg (.Call (.Name "range" p) [a] [] pos) (cRange1 fs) := by
  refine ⟨PI.imp (pi_range1 hg hm h.pa hs) fun σ H Q ⟨e, G, st, q⟩ => tA_then st q fun rs e1 vs H1 G1 s1 k1 r1 z => ?_⟩
  obtain ⟨ds, hds, z⟩ := post_some z
  unfold rngI1 at hds
  split at hds
  · split at hds
    · rename_i h1
      cases hds
      exact ⟨_, rrs1 r1, h1.1, h1.2, z _ H1 G1 s1 k1 itOk_rng⟩
    · cases hds
  · cases hds
theorem ri_range2 {tg a b : Expr} {p pos : Pos} {fs : M (List R)} (hg : Gl X "range") (hm : X.mg "range" = none) (h : RA X cl F W [a, b] fs) (hs : starEach [a, b] X.env = [(false, eval a X.env), (false, eval b X.env)] := by rfl)
    (hs2 : starEach [b] X.env = [(false, eval b X.env)] := by rfl) : RI X cl F W tg (.Call (.Name "range" p) [a, b] [] pos) (cRange2 fs) := by
  refine ⟨PI.imp (pi_range2 hg hm h.pa hs hs2) fun σ H Q ⟨e, G, st, q⟩ => tA_then st q fun rs e1 vs H1 G1 s1 k1 r1 z => ?_⟩
  obtain ⟨ds, hds, z⟩ := post_some z
  unfold rngI2 at hds
  split at hds
  · split at hds
    · rename_i h1
      cases hds
      exact ⟨_, _, rrs2 r1, h1, z _ H1 G1 s1 k1 itOk_rng⟩
    · cases hds
  · cases hds
end

/-! ### for -/
def forL (g : Tg) (body : M Fl) : List D → M Fl
  | [], e => .ok .nx e
  | d :: ds, e => match g d e with
    | none => .bad
    | some e1 => (body e1).bnd fun fl e2 => match fl with
      | .nx => forL g body ds e2
      | .ct => forL g body ds e2
      | .bk => .ok .nx e2
      | .rt d => .ok (.rt d) e2
def sFor (fi : M (List D)) (g : Tg) (body : M Fl) : M Fl := fun e => (fi e).bnd fun ds e1 => forL g body ds e1
def whL (c : M Bool) (body : M Fl) : Nat → M Fl
  | 0, _ => .bad
  | n + 1, e => (c e).bnd fun b e1 => if b then (body e1).bnd fun fl e2 => match fl with
      | .nx => whL c body n e2
      | .ct => whL c body n e2
      | .bk => .ok .nx e2
      | .rt d => .ok (.rt d) e2
    else .ok .nx e1
section
variable {X : Cx} {cl : Str → Addr} {F : Fra} {W : WX}
theorem tI_st {fi : M (List D)} {k : List D → Env → Out Fl} {σ : L2.St} {H G : Hp} {e : Env} {D : Ends} {Q : It → Hp → Prop} (st : Stt X.K cl F e σ H G) (h : PostF X.K cl F W D G ((fi e).bnd k))
    (c : ∀ ds e1 J H1 G1, Stt X.K cl F e1 σ H1 G1 → Kp F σ e H G e1 H1 G1 → ItOk X.K cl G1 J ds → PostF X.K cl F W D G1 (k ds e1) → Q J H1) :
    ∃ e G, Stt X.K cl F e σ H G ∧ Post X.K cl F W σ (fi e) fun ds e' => ∀ J H' G', Stt X.K cl F e' σ H' G' → Kp F σ e H G e' H' G' → ItOk X.K cl G' J ds → Q J H' := by
  refine ⟨e, G, st, ?_⟩
  cases q : fi e with
  | ok r e1 =>
    rw [q] at h
    exact fun J H1 G1 s1 k1 r1 => c r e1 J H1 G1 s1 k1 r1 (PostF.mono (o := k r e1) h k1.gg)
  | exn x e1 => rw [q] at h; exact Xn.of h
  | bad => rw [q] at h; exact h
theorem rs_for {tg iter : Expr} {body : List Stmt} {fi : M (List D)} {g : Tg} {fb : M Fl} {ws : List Nat} {pos : Pos} (hp : PassesOwn (model X.prog X.w) X.A X.env X.xe) (hc : X.calm = true) (hi : RI X cl F W tg iter fi) (hg : RG X cl F ws tg g) (hb : RSs X cl F W body fb)
    (hs : ∀ x, foldedSetIterable iter X.env x = pure x := by intro _; rfl) : RS X cl F W (.For tg iter body [] pos) (sFor fi g fb) := by
  refine ⟨PS.imp (ps_for hp hc hi.pi hg.pg hb.pss hs) fun D σ H ⟨e, G, st, q⟩ => tI_st st q fun ds e1 J H1 G1 s1 k1 it z => ?_⟩
  refine ⟨fun i m σ' H' => ∃ e' G', Stt X.K cl F e' σ' H' G' ∧ Same G1 G' ∧ m = ds.length - i ∧ i ≤ ds.length ∧ PostF X.K cl F W D G' (forL g fb (ds.drop i) e'), ⟨ds.length, e1, G1, s1, .refl _, by omega, Nat.zero_le _, by simpa using z⟩, ?_⟩
  rintro i m σ' H' ⟨e', G', s', gg, rfl, hi, z⟩
  obtain ⟨it1, it2⟩ := it H' G' gg s'.ret.gh
  by_cases hl : i < ds.length
  · have hd : ds[i]? = some ds[i] := List.getElem?_eq_getElem hl
    obtain ⟨hgo, hy⟩ := it1 i _ hd
    refine .inr ⟨hgo, fun σ2 H2 => ∃ e2 G2, Stt X.K cl F e2 σ2 H2 G2 ∧ Same G1 G2 ∧ PostF X.K cl F W D G2 (forL g fb (ds.drop (i + 1)) e2), fun σ2 H2 ⟨e2, G2, s2, g2, z2⟩ => ⟨ds.length - (i + 1), by omega, e2, G2, s2, g2, rfl, hl, z2⟩, fun x H2 y => ?_⟩
    obtain ⟨G2, sp, rx⟩ := hy x H2 y
    have s2 := s'.step sp
    have g2 := (sp.same s'.ret.gh).2.1
    rw [List.drop_eq_getElem_cons hl] at z
    have z : PostF X.K cl F W D G' (match g ds[i] e' with
      | none => .bad
      | some e1 => (fb e1).bnd fun fl e2 => match fl with
        | .nx => forL g fb (ds.drop (i + 1)) e2
        | .ct => forL g fb (ds.drop (i + 1)) e2
        | .bk => .ok .nx e2
        | .rt d => .ok (.rt d) e2) := z
    cases hgd : g ds[i] e' with
    | none => rw [hgd] at z; exact z.elim
    | some e3 =>
      rw [hgd] at z
      refine ⟨e', e3, G2, _, s2, rx, hgd, fun σ3 _ s3 => ⟨e3, G2, s3, ?_⟩⟩
      have gg3 : Same G' G2 := g2
      cases hb3 : fb e3 with
      | bad => simp only [hb3] at z; exact z.elim
      | exn x e4 => simp only [hb3] at z; exact z
      | ok fl e4 =>
        simp only [hb3] at z
        cases fl with
        | nx => exact fun σ4 H4 G4 s4 k4 => ⟨e4, G4, s4, gg.trans (gg3.trans k4), PostF.mono (o := forL g fb (ds.drop (i + 1)) e4) z (gg3.trans k4)⟩
        | ct => exact fun σ4 H4 G4 s4 k4 => ⟨e4, G4, s4, gg.trans (gg3.trans k4), PostF.mono (o := forL g fb (ds.drop (i + 1)) e4) z (gg3.trans k4)⟩
        | bk => exact fun σ4 H4 G4 s4 k4 => z σ4 H4 G4 s4 (gg3.trans k4)
        | rt d => exact z
  · have e2 : i = ds.length := by omega
    subst e2
    rw [List.drop_length] at z
    exact .inl ⟨it2, z σ' H' G' s' (.refl _)⟩
theorem rs_while {c : Expr} {body : List Stmt} {fc : M Bool} {fb : M Fl} {pos : Pos} (n : Nat) (hp : PassesOwn (model X.prog X.w) X.A X.env X.xe) (hc : RT X cl F W c fc) (hb : RSs X cl F W body fb) : RS X cl F W (.While c body [] pos) (whL fc fb n) := by
  refine ⟨PS.imp (ps_while hp hc.pt hb.pss) fun D σ H ⟨e, G, st, q⟩ => ?_⟩
  refine ⟨fun m σ' H' => ∃ e' G', Stt X.K cl F e' σ' H' G' ∧ PostF X.K cl F W D G' (whL fc fb m e'), ⟨n, e, G, st, q⟩, ?_⟩
  rintro m σ' H' ⟨e', G', s', z⟩
  cases m with
  | zero => exact z.elim
  | succ m =>
    refine tB_st s' z fun r e1 H1 G1 s1 k1 z => ?_
    cases r with
    | false => exact z σ' H1 G1 s1 (.refl _)
    | true =>
      refine ⟨fun σ2 H2 => ∃ e2 G2, Stt X.K cl F e2 σ2 H2 G2 ∧ PostF X.K cl F W D G2 (whL fc fb m e2), fun σ2 H2 ⟨e2, G2, s2, z2⟩ => ⟨m, by omega, e2, G2, s2, z2⟩, e1, G1, s1, ?_⟩
      simp only [if_true] at z
      cases hb3 : fb e1 with
      | bad => rw [hb3] at z; exact z.elim
      | exn x e4 => rw [hb3] at z; exact z
      | ok fl e4 =>
        rw [hb3] at z
        cases fl with
        | nx => exact fun σ4 H4 G4 s4 k4 => ⟨e4, G4, s4, PostF.mono (o := whL fc fb m e4) z k4⟩
        | ct => exact fun σ4 H4 G4 s4 k4 => ⟨e4, G4, s4, PostF.mono (o := whL fc fb m e4) z k4⟩
        | bk => exact fun σ4 H4 G4 s4 k4 => z σ4 H4 G4 s4 k4
        | rt d => exact z
end

/-! ### list comprehensions -/
def Env.wipe (e : Env) : List Nat → Env
  | [] => e
  | v :: vs => (e.wipe vs).setS v .un
/-- the slots vs of e' as they were in e -/
def Env.back (e e' : Env) : List Nat → Env
  | [] => e'
  | v :: vs => match e.s[v]? with
    | some x => (Env.back e e' vs).setS v x
    | none => Env.back e e' vs
def plainAt (e : Env) (vs : List Nat) : Bool := vs.all fun v => match e.s[v]? with
  | some x => x.plain
  | none => true
def lcL (vs : List Nat) (g : Tg) (t : M Bool) (f : M R) : List D → List D → M (List D)
  | [], acc, e => .ok acc e
  | d :: ds, acc, e => match g d (e.wipe vs) with
    | none => .bad
    | some e1 => match t e1 with
      | .ok true e2 => (match f e2 with
        | .ok r e3 => (match e3.frz r with
          | some (y, e4) => if acc.length < sizeLine then lcL vs g t f ds (acc ++ [y]) e4 else .bad
          | none => .bad)
        | _ => .bad)
      | .ok false e2 => lcL vs g t f ds acc e2
      | _ => .bad
def tYs : M Bool := fun e => .ok true e
def cLc (vs : List Nat) (fi : M (List D)) (g : Tg) (t : M Bool) (f : M R) : M R := fun e => (fi e).bnd fun ds e1 => if plainAt e1 vs then (match lcL vs g t f ds [] e1 with
  | .ok out e2 => .ok (.val (.lst out)) (e1.back e2 vs)
  | _ => .bad) else .bad
end DL

namespace DL
open PySem L2 PySem.Spec PyProof.Rows

section
variable {K : PySem.W.Frag} {cl : Str → Addr} {F : Fra} {e e' : Env} {σ σ' : L2.St} {H G H' G' : Hp}
/-- an object that no slot owns is changed -/
theorem Stt.updL {p : Addr} {o o' : HO} (st : Stt K cl F e σ H G) (h : H p = some o) (g : G p = none) (h0 : F.H0 p = none) (l : Loose F e σ p) : Stt K cl F e σ (upd H p o') G := by
  obtain ⟨⟨gh, g0, jr, fr, fg⟩, jh, len, slot, inj⟩ := st
  have ne : ∀ {a : Addr} {u : HO}, G a = some u → a ≠ p := fun q z => by rw [z, g] at q; cases q
  refine ⟨⟨fun b u q => by rw [upd_ne (ne q)]; exact gh b u q, g0, ⟨jr.len, jr.nd, fun k a d k1 k2 => ?_⟩, fun a u q hn => ?_, fg⟩, jh, len, fun i x hx => ?_, inj⟩
  · obtain ⟨q1, q2⟩ := jr.at_ k a d k1 k2
    have na : a ≠ p := fun z => l.1 (z ▸ List.mem_of_getElem? k1)
    exact ⟨q1, q2.mono (fun u q => by rw [upd_ne na]; exact q) (.refl _)⟩
  · have na : a ≠ p := fun z => by rw [z, h0] at q; cases q
    rw [upd_ne na]; exact fr a u q hn
  · have z := slot i x hx
    cases x with
    | un => trivial
    | dat d => exact z
    | own d =>
      obtain ⟨a, z1, z2, z3, z4⟩ := z
      have na : a ≠ p := fun w => l.2 i d hx (w ▸ z1)
      exact ⟨a, z1, z2, z3, z4.mono (fun u q => by rw [upd_ne na]; exact q) (.refl _)⟩
    | jar k => exact z
/-- such an object becomes part of G -/
theorem Stt.addG {p : Addr} {o : HO} (st : Stt K cl F e σ H G) (h : H p = some o) (g : G p = none) (h0 : F.H0 p = none) (l : Loose F e σ p) : Stt K cl F e σ H (upd G p o) := by
  obtain ⟨⟨gh, g0, jr, fr, fg⟩, jh, len, slot, inj⟩ := st
  have g1 : Same G (upd G p o) := same_upd g
  refine ⟨⟨same_add gh h, g0.trans g1, ⟨jr.len, jr.nd, fun k a d k1 k2 => ?_⟩, fr, fun a u q hn => ?_⟩, jh, len, fun i x hx => ?_, inj⟩
  · obtain ⟨q1, q2⟩ := jr.at_ k a d k1 k2
    have na : a ≠ p := fun z => l.1 (z ▸ List.mem_of_getElem? k1)
    exact ⟨by rw [upd_ne na]; exact q1, q2.mono (fun u q => q) g1⟩
  · have na : a ≠ p := fun z => by rw [z, h0] at q; cases q
    rw [upd_ne na]; exact fg a u q hn
  · have z := slot i x hx
    cases x with
    | un => trivial
    | dat d => obtain ⟨v, z1, z2⟩ := z; exact ⟨v, z1, z2.mono g1⟩
    | own d =>
      obtain ⟨a, z1, z2, z3, z4⟩ := z
      have na : a ≠ p := fun w => l.2 i d hx (w ▸ z1)
      exact ⟨a, z1, by rw [upd_ne na]; exact z2, z3, z4.mono (fun u q => q) g1⟩
    | jar k => exact z
theorem wipe_len : ∀ (vs : List Nat) (e : Env), (e.wipe vs).s.length = e.s.length
  | [], _ => rfl
  | v :: vs, e => by unfold Env.wipe Env.setS; simp [wipe_len vs e]
theorem wipe_out : ∀ (vs : List Nat) (e : Env) {i : Nat}, i ∉ vs → (e.wipe vs).s[i]? = e.s[i]?
  | [], _, _, _ => rfl
  | v :: vs, e, i, h => by
    unfold Env.wipe
    rw [setS_ne (fun z => h (by simp [z]))]
    exact wipe_out vs e fun z => h (List.mem_cons_of_mem _ z)
theorem wipe_in : ∀ (vs : List Nat) (e : Env) {i : Nat} {x : S}, i ∈ vs → (e.wipe vs).s[i]? = some x → x = .un
  | [], _, _, _, h, _ =>
                                                                                                              by simp at h
  | v :: vs, e, i, x, h, q => by
    unfold Env.wipe at q
    by_cases hv : i = v
    · subst hv
      have hl : i < ((e.wipe vs).setS i .un).s.length := (List.getElem?_eq_some_iff.mp q).1
      have hl' : i < (e.wipe vs).s.length := by simpa [Env.setS] using hl
      have z : ((e.wipe vs).setS i .un).s[i]? = some .un := List.getElem?_set_self hl'
      rw [z] at q; cases q; rfl
    · rw [setS_ne hv] at q
      exact wipe_in vs e ((List.mem_cons.mp h).resolve_left hv) q
theorem wipe_j : ∀ (vs : List Nat) (e : Env), (e.wipe vs).j = e.j
  | [], _ => rfl
  | v :: vs, e => wipe_j vs e
theorem wipeσ_out : ∀ (vs : List Nat) (σ : L2.St) {i : Nat}, i ∉ vs → (L2.wipe σ vs)[i]? = σ[i]?
  | [], _, _, _ => rfl
  | v :: vs, σ, i, h => by
    unfold L2.wipe
    rw [List.getElem?_set_ne (fun z => h (by simp [z]))]
    exact wipeσ_out vs σ fun z => h (List.mem_cons_of_mem _ z)
theorem wipeσ_in : ∀ (vs : List Nat) (σ : L2.St) {i : Nat}, i ∈ vs → (L2.wipe σ vs)[i]? = σ[i]?.map fun _ => none
  | [], _, _, h => by simp at h
  | v :: vs, σ, i, h => by
    unfold L2.wipe
    by_cases hv : i = v
    · subst hv
      by_cases hl : i < σ.length
      · rw [List.getElem?_set_self (by rw [wipe_length]; exact hl), List.getElem?_eq_getElem hl]; rfl
      · have h1 : σ[i]? = none := List.getElem?_eq_none_iff.mpr (by omega)
        rw [h1]
        exact List.getElem?_eq_none_iff.mpr (by rw [List.length_set, wipe_length]; omega)
    · rw [List.getElem?_set_ne (Ne.symm hv)]
      exact wipeσ_in vs σ ((List.mem_cons.mp h).resolve_left hv)
theorem wipe_agr {vs ws : List Nat} (h : Agr ws (L2.wipe σ vs) σ') (hw : ∀ i ∈ ws, i ∈ vs) : L2.wipe σ' vs = L2.wipe σ vs := by
  refine List.ext_getElem? fun i => ?_
  by_cases hi : i ∈ vs
  · rw [wipeσ_in vs σ' hi, wipeσ_in vs σ hi]
    have hl : σ'.length = σ.length := by rw [h.1, wipe_length]
    by_cases h2 : i < σ.length
    · rw [List.getElem?_eq_getElem h2, List.getElem?_eq_getElem (by omega)]; rfl
    · rw [List.getElem?_eq_none_iff.mpr (by omega), List.getElem?_eq_none_iff.mpr (by omega)]
  · rw [wipeσ_out vs σ' hi, h.2 i (fun z => hi (hw i z))]
theorem Stt.wipe (st : Stt K cl F e σ H G) (vs : List Nat) : Stt K cl F (e.wipe vs) (L2.wipe σ vs) H G := by
  obtain ⟨ret, jh, len, slot, inj⟩ := st
  refine ⟨by rw [wipe_j]; exact ret, jh, by rw [wipe_length, wipe_len]; exact len, fun i x h => ?_, fun i j d d' a h1 h2 h3 h4 => ?_⟩
  · by_cases hi : i ∈ vs
    · rw [wipe_in vs e hi h]; trivial
    · rw [wipe_out vs e hi] at h
      have z := slot i x h
      cases x with
      | un => trivial
      | dat d => obtain ⟨v, z1, z2⟩ := z; exact ⟨v, by rw [wipeσ_out vs σ hi]; exact z1, z2⟩
      | own d => obtain ⟨a, z1, z2⟩ := z; exact ⟨a, by rw [wipeσ_out vs σ hi]; exact z1, z2⟩
      | jar k => obtain ⟨a, z1, z2⟩ := z; exact ⟨a, z1, by rw [wipeσ_out vs σ hi]; exact z2⟩
  · by_cases hi : i ∈ vs
    · cases wipe_in vs e hi h1
    · by_cases hj : j ∈ vs
      · cases wipe_in vs e hj h2
      · rw [wipe_out vs e hi] at h1
        rw [wipe_out vs e hj] at h2
        rw [wipeσ_out vs σ hi] at h3
        rw [wipeσ_out vs σ hj] at h4
        exact inj i j d d' a h1 h2 h3 h4
theorem back_out : ∀ (vs : List Nat) (e e' : Env) {i : Nat}, i ∉ vs → (e.back e' vs).s[i]? = e'.s[i]?
  | [], _, _, _, _ => rfl
  | v :: vs, e, e', i, h => by
    unfold Env.back
    cases e.s[v]? with
    | none => exact back_out vs e e' fun z => h (List.mem_cons_of_mem _ z)
    | some x =>
      show ((e.back e' vs).setS v x).s[i]? = _
      rw [setS_ne (fun z => h (by simp [z]))]
      exact back_out vs e e' fun z => h (List.mem_cons_of_mem _ z)
theorem back_len : ∀ (vs : List Nat) (e e' : Env), (e.back e' vs).s.length = e'.s.length
  | [], _, _ => rfl
  | v :: vs, e, e' => by
    unfold Env.back
    cases e.s[v]? with
    | none => exact back_len vs e e'
    | some x => show ((e.back e' vs).setS v x).s.length = _; simp [Env.setS, back_len vs e e']
theorem back_j : ∀ (vs : List Nat) (e e' : Env), (e.back e' vs).j = e'.j
  | [], _, _ => rfl
  | v :: vs, e, e' => by
    unfold Env.back
    cases e.s[v]? with
    | none => exact back_j vs e e'
    | some x => exact back_j vs e e'
theorem back_in : ∀ (vs : List Nat) (e e' : Env) {i : Nat}, e.s.length = e'.s.length → i ∈ vs → (e.back e' vs).s[i]? = e.s[i]?
  | [], _, _, _, _, h =>
                                                                                                              by simp at h
  | v :: vs, e, e', i, hl, h => by
    unfold Env.back
    by_cases hv : i = v
    · subst hv
      cases q : e.s[i]? with
      | none =>
        have h1 : e.s.length ≤ i := List.getElem?_eq_none_iff.mp q
        exact List.getElem?_eq_none_iff.mpr (by show (e.back e' vs).s.length ≤ i; rw [back_len]; omega)
      | some x =>
        have h1 : i < e.s.length := (List.getElem?_eq_some_iff.mp q).1
        exact List.getElem?_set_self (by rw [back_len]; omega)
    · have hi := (List.mem_cons.mp h).resolve_left hv
      cases e.s[v]? with
      | none => exact back_in vs e e' hl hi
      | some x =>
        show ((e.back e' vs).setS v x).s[i]? = _
        rw [setS_ne hv]
        exact back_in vs e e' hl hi
theorem plainAt_ok {vs : List Nat} (h : plainAt e vs = true) {i : Nat} {x : S} (hi : i ∈ vs) (hx : e.s[i]? = some x) : x.plain = true := by
  have q := List.all_eq_true.mp h i hi
  rw [hx] at q
  exact q
/-- out of the block: the slots vs as they were -/
theorem Stt.back {e1 e2 : Env} {H1 G1 : Hp} {vs : List Nat} (s1 : Stt K cl F e1 σ H1 G1) (p : plainAt e1 vs = true) (gg : Same G1 G) (st : Stt K cl F (e2.wipe vs) (L2.wipe σ vs) H G) : Stt K cl F (e1.back e2 vs) σ H G := by
  have hl : e1.s.length = e2.s.length := by rw [← s1.len, ← wipe_len vs e2, ← st.len, wipe_length]
  have hr := st.ret
  rw [wipe_j] at hr
  refine ⟨by rw [back_j]; exact hr, st.jh, by rw [back_len, ← hl]; exact s1.len, fun i x h => ?_, fun i j d d' a h1 h2 h3 h4 => ?_⟩
  · by_cases hi : i ∈ vs
    · rw [back_in vs e1 e2 hl hi] at h
      have z := s1.slot i x h
      have pl := plainAt_ok p hi h
      cases x with
      | un => trivial
      | dat d => obtain ⟨v, z1, z2⟩ := z; exact ⟨v, z1, z2.mono gg⟩
      | _ => cases pl
    · rw [back_out vs e1 e2 hi] at h
      have z := st.slot i x (by rw [wipe_out vs e2 hi]; exact h)
      cases x with
      | un => trivial
      | dat d => obtain ⟨v, z1, z2⟩ := z; exact ⟨v, by rw [← wipeσ_out vs σ hi]; exact z1, z2⟩
      | own d => obtain ⟨a, z1, z2⟩ := z; exact ⟨a, by rw [← wipeσ_out vs σ hi]; exact z1, z2⟩
      | jar k => obtain ⟨a, z1, z2⟩ := z; exact ⟨a, z1, by rw [← wipeσ_out vs σ hi]; exact z2⟩
  · have no : ∀ {i : Nat} {d : D}, (e1.back e2 vs).s[i]? = some (.own d) → i ∉ vs := fun {i d} h hi => by
      rw [back_in vs e1 e2 hl hi] at h
      have pl := plainAt_ok p hi h
      cases pl
    have hi := no h1
    have hj := no h2
    rw [back_out vs e1 e2 hi] at h1
    rw [back_out vs e1 e2 hj] at h2
    exact st.inj i j d d' a (by rw [wipe_out vs e2 hi]; exact h1) (by rw [wipe_out vs e2 hj]; exact h2) (by rw [wipeσ_out vs σ hi]; exact h3) (by rw [wipeσ_out vs σ hj]; exact h4)
end

section
variable {X : Cx} {cl : Str → Addr} {F : Fra} {W : WX}
structure RTs (X : Cx) (cl : Str → Addr) (F : Fra) (W : WX) (xs : List Expr) (f : M Bool) : Prop where
  pts : PTs X xs (tB' X.K cl F W f)
theorem rts_nil : RTs X cl F W [] tYs := ⟨⟨fun pins s σ H Q I ⟨e, G, st, q⟩ => pts_nil.run pins s σ H Q I (q H G st .refl)⟩⟩
theorem rts_one {x : Expr} {f : M Bool} (h : RT X cl F W x f) : RTs X cl F W [x] f := ⟨pts_one h.pt⟩
abbrev W0 : WX := fun _ _ _ _ => False
end
end DL

namespace DL
open PySem L2 PySem.Spec PyProof.Rows

section
variable {K : PySem.W.Frag} {cl : Str → Addr} {F : Fra} {e e' : Env} {σ σ' : L2.St} {H G H' G' : Hp}
theorem Stt.layL {p : Addr} {o : HO} (st : Stt K cl F e σ H G) (h : H p = none) : Stt K cl F e σ (upd H p o) G := by
  obtain ⟨⟨gh, g0, jr, fr, fg⟩, jh, len, slot, inj⟩ := st
  have sm : Same H (upd H p o) := same_upd h
  refine ⟨⟨gh.trans sm, g0, ⟨jr.len, jr.nd, fun k a d k1 k2 => ?_⟩, fun a u q hn => sm _ _ (fr a u q hn), fg⟩, jh, len, fun i x hx => ?_, inj⟩
  · obtain ⟨q1, q2⟩ := jr.at_ k a d k1 k2
    exact ⟨q1, q2.mono (fun u q => sm _ _ q) (.refl _)⟩
  · have z := slot i x hx
    cases x with
    | un => trivial
    | dat d => exact z
    | own d => obtain ⟨a, z1, z2, z3, z4⟩ := z; exact ⟨a, z1, z2, z3, z4.mono (fun u q => sm _ _ q) (.refl _)⟩
    | jar k => exact z
/-- what is free in H is loose, and was free at the entry -/
theorem Stt.fresh (st : Stt K cl F e σ H G) {p : Addr} (h : H p = none) : Loose F e σ p ∧ F.H0 p = none := by
  have hj : p ∉ F.js := fun hp => by
    obtain ⟨k, hk⟩ := List.getElem?_of_mem hp
    have hl : k < e.j.length := by rw [st.ret.jars.len]; exact (List.getElem?_eq_some_iff.mp hk).1
    obtain ⟨q1, q2⟩ := st.ret.jars.at_ k p _ hk (List.getElem?_eq_getElem hl)
    obtain ⟨o, q3⟩ := q2.ex
    rw [h] at q3; cases q3
  refine ⟨⟨hj, fun i d hi hs => ?_⟩, ?_⟩
  · obtain ⟨a, h1, h2, h3, h4⟩ := st.slot i _ hi
    rw [hs] at h1; cases h1
    obtain ⟨o, q3⟩ := h4.ex
    rw [h] at q3; cases q3
  · cases q : F.H0 p with
    | none => rfl
    | some o => have := st.ret.fr p o q hj; rw [h] at this; cases this
/-- e'', σ'' own no more than e1, σ do, outside vs -/
structure Sub (vs : List Nat) (e1 : Env) (σ : L2.St) (e'' : Env) (σ'' : L2.St) : Prop where
  ow : ∀ (i : Nat) (d : D), e''.s[i]? = some (.own d) → i ∉ vs ∧ ∃ d', e1.s[i]? = some (.own d')
  eq : ∀ i, i ∉ vs → σ''[i]? = σ[i]?
theorem Loose.sub {vs : List Nat} {e1 e'' : Env} {σ'' : L2.St} {a : Addr} (l : Loose F e1 σ a) (s : Sub vs e1 σ e'' σ'') : Loose F e'' σ'' a :=
  ⟨l.1, fun i d h => by
    obtain ⟨hi, d', h'⟩ := s.ow i d h
    rw [s.eq i hi]
    exact l.2 i d' h'⟩
/-- through the turns of a comprehension: e1 at the beginning, e now -/
structure LcI (K : PySem.W.Frag) (cl : Str → Addr) (F : Fra) (σ : L2.St) (vs : List Nat) (p : Addr) (e1 : Env) (H1 G1 : Hp) (e : Env) (acc : List D) (H G : Hp) : Prop where
  st : Stt K cl F (e.wipe vs) (L2.wipe σ vs) H G
  gg : Same G1 G
  hd : ∃ us, H p = some (.lst us) ∧ RepL K cl G acc us
  gd : G p = none
  kp : ∀ a o, H1 a = some o → Loose F e1 σ a → H a = some o ∧ (G1 a = none → G a = none)
  ow : ∀ (i : Nat) (d : D), i ∉ vs → e.s[i]? = some (.own d) → ∃ d', e1.s[i]? = some (.own d')
theorem tI_then {α : Type} {W : WX} {fi : M (List D)} {k : List D → Env → Out α} {q : α → Env → Prop} {Q : It → Hp → Prop} (st : Stt K cl F e σ H G) (h : Post K cl F W σ ((fi e).bnd k) q)
    (c : ∀ ds e1 J H1 G1, Stt K cl F e1 σ H1 G1 → Kp F σ e H G e1 H1 G1 → ItOk K cl G1 J ds → Post K cl F W σ (k ds e1) q → Q J H1) :
    ∃ e G, Stt K cl F e σ H G ∧ Post K cl F W σ (fi e) fun ds e' => ∀ J H' G', Stt K cl F e' σ H' G' → Kp F σ e H G e' H' G' → ItOk K cl G' J ds → Q J H' :=
  ⟨e, G, st, post_imp (post_bnd h) fun r e1 z J H1 G1 s1 k1 r1 => c r e1 J H1 G1 s1 k1 r1 z⟩
/-- one turn's target: the state within the turn -/
theorem LcI.turn {vs ws : List Nat} {p : Addr} {e1 e3 : Env} {H1 G1 H2 G2 : Hp} {acc : List D} {σ2 : L2.St} (L : LcI K cl F σ vs p e1 H1 G1 e acc H G) (hp : Loose F e1 σ p) (sp : Step H G H2 G2) (hw : ∀ i ∈ ws, i ∈ vs)
    (ag : Agr ws (L2.wipe σ vs) σ2) (ea : EAgr ws (e.wipe vs) e3) :
    Sub vs e1 σ e3 σ2 ∧ Same G1 G2 ∧ (∃ us, H2 p = some (.lst us) ∧ RepL K cl G2 acc us) ∧ G2 p = none ∧ (∀ a o, H1 a = some o → Loose F e1 σ a → H2 a = some o ∧ (G1 a = none → G2 a = none)) := by
  obtain ⟨a1, a2, a3⟩ := sp.same L.st.ret.gh
  obtain ⟨us, h1, h2⟩ := L.hd
  refine ⟨⟨fun i d h => ?_, fun i hi => ?_⟩, L.gg.trans a2, ⟨us, a1 _ _ h1, h2.mono a2⟩, sp.none L.st.ret.gh h1 L.gd, fun a o q l => ?_⟩
  · by_cases hiw : i ∈ ws
    · have := ea.pl i hiw _ h; cases this
    · rw [ea.out i hiw] at h
      by_cases hiv : i ∈ vs
      · cases wipe_in vs e hiv h
      · rw [wipe_out vs e hiv] at h
        exact ⟨hiv, L.ow i d hiv h⟩
  · rw [ag.2 i (fun z => hi (hw i z)), wipeσ_out vs σ hi]
  · obtain ⟨q1, q2⟩ := L.kp a o q l
    exact ⟨a1 _ _ q1, fun g => sp.none L.st.ret.gh q1 (q2 g)⟩
theorem lc_D {W : WX} {vs ws : List Nat} {fi : M (List D)} {g : Tg} {ft : M Bool} {fe : M R} {Q : VK} (hw : ∀ i ∈ ws, i ∈ vs) (hfr : ∀ d e e', g d e = some e' → EAgr ws e e') (h : tD K cl F W (cLc vs fi g ft fe) σ H Q) :
    tLc (fun σ H Q => ∃ e G, Stt K cl F e σ H G ∧ Post K cl F W σ (fi e) fun ds e' => ∀ J H' G', Stt K cl F e' σ H' G' → Kp F σ e H G e' H' G' → ItOk K cl G' J ds → Q J H') (tG K cl F ws g) (tB' K cl F W0 ft) (tD K cl F W0 fe) vs σ H Q := by
  obtain ⟨e0, G0, st, q⟩ := h
  refine tI_then st q fun ds e1 J H1 G1 s1 k1 it z p hp => ?_
  by_cases pl : plainAt e1 vs = true
  · rw [if_pos pl] at z
    cases hl : lcL vs g ft fe ds [] e1 with
    | bad => rw [hl] at z; exact z.elim
    | exn x e2 => rw [hl] at z; exact z.elim
    | ok out e2 =>
      rw [hl] at z
      obtain ⟨lp, hp0⟩ := s1.fresh hp
      refine ⟨fun i m H => ∃ e acc G, LcI K cl F σ vs p e1 H1 G1 e acc H G ∧ m = ds.length - i ∧ i ≤ ds.length ∧ lcL vs g ft fe (ds.drop i) acc e = .ok out e2, ⟨ds.length, e1, [], G1, ?_, by omega, Nat.zero_le _, by simpa using hl⟩, ?_⟩
      · have g1p : G1 p = none := s1.ret.gh.free hp
        exact ⟨(s1.layL hp).wipe vs, .refl _, ⟨[], upd_same, .nil⟩, g1p, fun a o h1 _ => ⟨by rw [upd_ne (ne_of_none h1 hp)]; exact h1, fun g => g⟩, fun i d _ h => ⟨d, h⟩⟩
      · rintro i m H ⟨e, acc, G, L, rfl, hi, hl⟩
        obtain ⟨it1, it2⟩ := it H G L.gg L.st.ret.gh
        by_cases hlt : i < ds.length
        · have hd : ds[i]? = some ds[i] := List.getElem?_eq_getElem hlt
          obtain ⟨hgo, hy⟩ := it1 i _ hd
          refine .inr ⟨hgo, fun H' => ∃ e acc G, LcI K cl F σ vs p e1 H1 G1 e acc H' G ∧ lcL vs g ft fe (ds.drop (i + 1)) acc e = .ok out e2, fun H' ⟨e', acc', G', L', hl'⟩ => ⟨ds.length - (i + 1), by omega, e', acc', G', L', rfl, hlt, hl'⟩, fun x H2 y => ?_⟩
          obtain ⟨G2, sp, rx⟩ := hy x H2 y
          rw [List.drop_eq_getElem_cons hlt] at hl
          have hl : (match g ds[i] (e.wipe vs) with
            | none => Out.bad
            | some e1 => match ft e1 with
              | .ok true e2 => (match fe e2 with
                | .ok r e3 => (match e3.frz r with
                  | some (y, e4) => if acc.length < sizeLine then lcL vs g ft fe (ds.drop (i + 1)) (acc ++ [y]) e4 else .bad
                  | none => .bad)
                | _ => .bad)
              | .ok false e2 => lcL vs g ft fe (ds.drop (i + 1)) acc e2
              | _ => .bad) = .ok out e2 := hl
          cases hg : g ds[i] (e.wipe vs) with
          | none => rw [hg] at hl; cases hl
          | some e3 =>
            rw [hg] at hl
            refine ⟨e.wipe vs, e3, G2, _, L.st.step sp, rx, hg, fun σ2 ag s2 => ⟨wipe_agr ag hw, e3, G2, s2, ?_⟩⟩
            obtain ⟨sub, gg2, ⟨us, hu1, hu2⟩, gp2, kp2⟩ := L.turn lp sp hw ag (hfr _ _ _ hg)
            have wag := wipe_agr ag hw
            cases ht : ft e3 with
            | bad => simp only [ht] at hl; cases hl
            | exn x e4 => simp only [ht] at hl; cases hl
            | ok b e4 =>
              simp only [ht] at hl
              cases b with
              | false =>
                intro H3 G3 s3 k3
                refine iteF ⟨e4, acc, G3, ⟨?_, gg2.trans k3.gg, ⟨us, (k3.kp p _ hu1 (lp.sub sub)).1, hu2.mono k3.gg⟩, (k3.kp p _ hu1 (lp.sub sub)).2 gp2, fun a o h1 l => ?_, fun j d _ h => ?_⟩, hl⟩
                · have := s3.wipe vs; rw [wag] at this; exact this
                · obtain ⟨q1, q2⟩ := kp2 a o h1 l
                  obtain ⟨q3, q4⟩ := k3.kp a o q1 (l.sub sub)
                  exact ⟨q3, fun g => q4 (q2 g)⟩
                · obtain ⟨d', h'⟩ := k3.ow j d h
                  exact (sub.ow j d' h').2
              | true =>
                intro H3 G3 s3 k3
                refine iteT ⟨e4, G3, s3, ?_⟩
                cases hf : fe e4 with
                | bad => simp only [hf] at hl; cases hl
                | exn x e5 => simp only [hf] at hl; cases hl
                | ok r e5 =>
                  simp only [hf] at hl
                  intro y H4 G4 s4 k4 r4
                  cases hz : e5.frz r with
                  | none => simp only [hz] at hl; cases hl
                  | some py =>
                    obtain ⟨dy, e6⟩ := py
                    simp only [hz] at hl
                    by_cases hsz : acc.length < sizeLine
                    · rw [if_pos hsz] at hl
                      obtain ⟨G5, s5, k5, r5⟩ := frz_ok s4 r4 hz
                      have kk := (k3.trans k4).trans k5
                      obtain ⟨h4p, g5p⟩ := kk.kp p _ hu1 (lp.sub sub)
                      have g5p := g5p gp2
                      refine ⟨us, h4p, by rw [← hu2.length]; exact hsz, e6, acc ++ [dy], G5, ⟨?_, gg2.trans kk.gg, ⟨us ++ [y], upd_same, (hu2.mono kk.gg).append (.cons r5 .nil)⟩, g5p, fun a o h1 l => ?_, fun j d _ h => ?_⟩, hl⟩
                      · have := s5.wipe vs
                        rw [wag] at this
                        refine this.updL h4p g5p hp0 ⟨lp.1, fun j d hj => ?_⟩
                        by_cases hjv : j ∈ vs
                        · cases wipe_in vs e6 hjv hj
                        · rw [wipe_out vs e6 hjv] at hj
                          obtain ⟨d', h'⟩ := kk.ow j d hj
                          obtain ⟨_, d2, h2⟩ := sub.ow j d' h'
                          rw [wipeσ_out vs σ hjv]
                          exact lp.2 j d2 h2
                      · obtain ⟨q1, q2⟩ := kp2 a o h1 l
                        obtain ⟨q3, q4⟩ := kk.kp a o q1 (l.sub sub)
                        exact ⟨by rw [upd_ne (ne_of_none h1 hp)]; exact q3, fun g => q4 (q2 g)⟩
                      · obtain ⟨d', h'⟩ := kk.ow j d h
                        exact (sub.ow j d' h').2
                    · rw [if_neg hsz] at hl; cases hl
        · have e3 : i = ds.length := by omega
          subst e3
          rw [List.drop_length] at hl
          cases hl
          obtain ⟨us, hu1, hu2⟩ := L.hd
          have sb : Stt K cl F (e1.back e2 vs) σ H G := s1.back pl L.gg L.st
          have lb : Loose F (e1.back e2 vs) σ p := ⟨lp.1, fun j d hj => by
            by_cases hjv : j ∈ vs
            · rw [back_in vs e1 e2 (by rw [← s1.len, ← wipe_len vs e2, ← L.st.len, wipe_length]) hjv] at hj
              exact lp.2 j d hj
            · rw [back_out vs e1 e2 hjv] at hj
              obtain ⟨d', h'⟩ := L.ow j d hjv hj
              exact lp.2 j d' h'⟩
          refine .inl ⟨it2, z _ H _ (sb.addG hu1 L.gd hp0 lb) (k1.trans ⟨L.gg.trans (same_upd L.gd), fun a o h1 l => ?_, fun j d hj => ?_⟩) (Rep.lst upd_same (hu2.mono (same_upd L.gd)))⟩
          · obtain ⟨q1, q2⟩ := L.kp a o h1 l
            exact ⟨q1, fun g => by rw [upd_ne (ne_of_none h1 hp)]; exact q2 g⟩
          · by_cases hjv : j ∈ vs
            · rw [back_in vs e1 e2 (by rw [← s1.len, ← wipe_len vs e2, ← L.st.len, wipe_length]) hjv] at hj
              exact ⟨d, hj⟩
            · rw [back_out vs e1 e2 hjv] at hj
              exact L.ow j d hjv hj
  · rw [if_neg pl] at z; exact z.elim
end

section
variable {X : Cx} {cl : Str → Addr} {F : Fra} {W : WX}
theorem re_lc {elt tg iter : Expr} {ifs : List Expr} {scope : Scope} {own : List (Str × Nat)} {ws : List Nat} {pos : Pos} {fi : M (List D)} {g : Tg} {ft : M Bool} {fe : M R} (hc : X.calm = true) (hN : X.N.Nodup) (hi : RI X cl F W tg iter fi) (ok : BlkOk X.N X.env.scope scope own)
    (hg : ∀ (s : Shared) (H : Hp) (C : Addr) (cs : List (Str × Addr)) (fp : List Addr), RG (X.blk s H scope (compEnvC scope cs C X.env) fp) cl F ws tg g)
    (ht : ∀ (s : Shared) (H : Hp) (C : Addr) (cs : List (Str × Addr)) (fp : List Addr), RTs (X.blk s H scope (compEnvC scope cs C X.env) fp) cl F W0 ifs ft)
    (he : ∀ (s : Shared) (H : Hp) (C : Addr) (cs : List (Str × Addr)) (fp : List Addr), RE (X.blk s H scope (compEnvC scope cs C X.env) fp) cl F W0 elt fe)
    (hw : ∀ i ∈ ws, i ∈ own.map (·.2) := by decide) (hs : ∀ x, foldedSetIterable iter X.env x = pure x := by intro _; rfl) : RE X cl F W (.ListComp elt [⟨tg, iter, ifs, 0⟩] scope pos) (cLc (own.map (·.2)) fi g ft fe) :=
  ⟨⟨fun pins s σ H Q I h => (pe_lc hc hN hi.pi ok (fun s H C cs fp => (hg s H C cs fp).pg) (fun s H C cs fp => (ht s H C cs fp).pts) (fun s H C cs fp => (he s H C cs fp).pe) hs).run pins s σ H Q I (lc_D hw (hg s H 0 [] []).fr h)⟩⟩
theorem rs_setLc {i : Nat} {y : Str} {py : Pos} {elt tg iter : Expr} {ifs : List Expr} {scope : Scope} {own : List (Str × Nat)} {ws : List Nat} {pos spos : Pos} {fi : M (List D)} {g : Tg} {ft : M Bool} {fe : M R} (hc : X.calm = true) (hN : X.N.Nodup) (hi : RI X cl F W tg iter fi) (ok : BlkOk X.N X.env.scope scope own)
    (hg : ∀ (s : Shared) (H : Hp) (C : Addr) (cs : List (Str × Addr)) (fp : List Addr), RG (X.blk s H scope (compEnvC scope cs C X.env) fp) cl F ws tg g)
    (ht : ∀ (s : Shared) (H : Hp) (C : Addr) (cs : List (Str × Addr)) (fp : List Addr), RTs (X.blk s H scope (compEnvC scope cs C X.env) fp) cl F W0 ifs ft)
    (he : ∀ (s : Shared) (H : Hp) (C : Addr) (cs : List (Str × Addr)) (fp : List Addr), RE (X.blk s H scope (compEnvC scope cs C X.env) fp) cl F W0 elt fe)
    (hsw : swapsWith (.ListComp elt [⟨tg, iter, ifs, 0⟩] scope pos) (some (.Name y py)) spos.line X.env = pure true)
    (hy : X.N[i]? = some y := by rfl) (hyl : X.env.scope.names.lookup y = some .local := by rfl)
    (hw : ∀ i ∈ ws, i ∈ own.map (·.2) := by decide) (hs : ∀ x, foldedSetIterable iter X.env x = pure x := by intro _; rfl) : RS X cl F W (.Assign [.Name y py] (.ListComp elt [⟨tg, iter, ifs, 0⟩] scope pos) spos) (sAsg i (cLc (own.map (·.2)) fi g ft fe)) := by
  refine ⟨⟨fun pins s σ H D I ⟨e, G, st, q⟩ => (ps_setLc (te := tD X.K cl F W0 fe) (tt := tB' X.K cl F W0 ft) (g := tG X.K cl F ws g) hc hN hy hyl hsw hi.pi ok (fun s H C cs fp => (hg s H C cs fp).pg) (fun s H C cs fp => (ht s H C cs fp).pts) (fun s H C cs fp => (he s H C cs fp).pe) hs).run pins s σ H D I ?_⟩⟩
  refine lc_D (W := W) hw (hg s H 0 [] []).fr ?_
  refine tD_st st q fun r e1 v H1 G1 s1 k1 r1 z => ?_
  cases y : e1.frz r with
  | none => rw [y] at z; exact z.elim
  | some p =>
    obtain ⟨d, e2⟩ := p
    rw [y] at z
    obtain ⟨G2, s2, k2, r2⟩ := frz_ok s1 r1 y
    exact z _ H1 G2 (s2.set r2) k2.gg
end
end DL

namespace DL
open PySem L2 PySem.Spec PyProof.Rows

/-! ### what a def is worth -/
inductive A where
  | dat (d : D) | jar (k : Nat)
inductive OutF where
  | ok (d : D) (j : List D) | exn (x : Exc) (j : List D) | bad
abbrev Fn := List A → List D → OutF
def A.s : A → S
  | .dat d => .dat d
  | .jar k => .jar k
inductive ArgsOk (K : PySem.W.Frag) (cl : Str → Addr) (js : List Addr) (G : Hp) : List A → List V → Prop
  | nil : ArgsOk K cl js G [] []
  | dat {d : D} {v : V} {as : List A} {vs : List V} : Rep K cl G d v → ArgsOk K cl js G as vs → ArgsOk K cl js G (.dat d :: as) (v :: vs)
  | jar {k : Nat} {p : Addr} {as : List A} {vs : List V} : js[k]? = some p → ArgsOk K cl js G as vs → ArgsOk K cl js G (.jar k :: as) (.ref p :: vs)
def PostFn (K : PySem.W.Frag) (cl : Str → Addr) (F : Fra) (Q : VK) (E : XK) (o : OutF) : Prop := match o with
  | .ok d j => ∀ v H' G', Ret K cl F H' G' j → Rep K cl G' d v → Q v H'
  | .exn x j => ∀ cls dd H' G', Ret K cl F H' G' j → ExcAt K cl x cls dd H' G' → E cls dd H'
  | .bad => False
def spD (K : PySem.W.Frag) (cl : Str → Addr) (Φ : Fn) : Sp := fun vs H Q E => ∃ (as : List A) (j : List D) (js : List Addr) (G : Hp), Same G H ∧ ArgsOk K cl js G as vs ∧ Jars K cl js H G j ∧ PostFn K cl ⟨H, G, js⟩ Q E (Φ as j)
def outF (o : Out Fl) : OutF := match o with
  | .ok (.rt d) e => .ok d e.j
  | .ok .nx e => .ok .non e.j
  | .exn x e => .exn x e.j
  | _ => .bad
/-- n names, np of them parameters -/
def env0 (n : Nat) (as : List A) (j : List D) : Env := ⟨as.map A.s ++ List.replicate (n - as.length) .un, j⟩
def fnOf (n np : Nat) (g : M Fl) : Fn := fun as j => if as.length = np then outF (g (env0 n as j)) else .bad
section
variable {K : PySem.W.Frag} {cl : Str → Addr}
theorem ArgsOk.length {js : List Addr} {G : Hp} {as : List A} {vs : List V} (h : ArgsOk K cl js G as vs) : as.length = vs.length := by
  induction h with
  | nil => rfl
  | dat _ _ ih => simp [ih]
  | jar _ _ ih => simp [ih]
theorem ArgsOk.get {js : List Addr} {G : Hp} {as : List A} {vs : List V} (h : ArgsOk K cl js G as vs) : ∀ (i : Nat) (a : A), as[i]? = some a → ∃ v, vs[i]? = some v ∧ match a with
    | .dat d => Rep K cl G d v
    | .jar k => ∃ p, js[k]? = some p ∧ v = .ref p := by
  induction h with
  | nil => intro i a h; simp at h
  | @dat d v as vs r _ ih =>
    intro i a h
    cases i with
    | zero => simp at h; subst h; exact ⟨v, rfl, r⟩
    | succ i => exact ih i a (by simpa using h)
  | @jar k p as vs r _ ih =>
    intro i a h
    cases i with
    | zero => simp at h; subst h; exact ⟨_, rfl, p, r, rfl⟩
    | succ i => exact ih i a (by simpa using h)
/-- the state at the entry -/
theorem stt_start {H G : Hp} {js : List Addr} {as : List A} {j : List D} {vs : List V} {N : List Str} (gh : Same G H) (ao : ArgsOk K cl js G as vs) (jr : Jars K cl js H G j) : Stt K cl ⟨H, G, js⟩ (env0 N.length as j) (L2.start N vs) H G := by
  have hl := ao.length
  refine ⟨⟨gh, .refl _, jr, fun a o h _ => h, fun a o _ h => h⟩, fun a ha hn => ?_, by simp [env0, L2.start, hl], fun i x h => ?_, fun i k d d' a h1 h2 h3 h4 => ?_⟩
  · obtain ⟨k, hk⟩ := List.getElem?_of_mem ha
    have hl : k < j.length := by rw [jr.len]; exact (List.getElem?_eq_some_iff.mp hk).1
    obtain ⟨_, q2⟩ := jr.at_ k a _ hk (List.getElem?_eq_getElem hl)
    obtain ⟨o, q3⟩ := q2.ex
    have hn : H a = none := hn
    rw [hn] at q3; cases q3
  · by_cases hi : i < as.length
    · have e1 : (env0 N.length as j).s[i]? = (as.map A.s)[i]? := List.getElem?_append_left (by simpa using hi)
      rw [e1, List.getElem?_map] at h
      obtain ⟨a, ha, rfl⟩ := Option.map_eq_some_iff.mp h
      obtain ⟨v, hv, r⟩ := ao.get i a ha
      have e2 : (L2.start N vs)[i]? = some (some v) := by
        unfold L2.start
        rw [List.getElem?_append_left (by simp; omega), List.getElem?_map, hv]; rfl
      cases a with
      | dat d => exact ⟨v, e2, r⟩
      | jar k => obtain ⟨p, hp, rfl⟩ := r; exact ⟨p, hp, e2⟩
    · have e1 : (env0 N.length as j).s[i]? = (List.replicate (N.length - as.length) S.un)[i - as.length]? := by
        unfold env0
        rw [List.getElem?_append_right (by simp; omega)]
        simp
      rw [e1] at h
      rw [List.getElem?_replicate] at h
      split at h
      · cases h; trivial
      · cases h
  · have no : ∀ {i : Nat} {d : D}, (env0 N.length as j).s[i]? = some (.own d) → False := fun {i d} h => by
      have hm := List.mem_of_getElem? h
      unfold env0 at hm
      rcases List.mem_append.mp
                                                                                                              hm with hm | hm
      · obtain ⟨a, _, e⟩ := List.mem_map.mp hm
        cases a <;> cases e
      · cases (List.mem_replicate.mp hm).2
    exact (no h1).elim
theorem PostFn.of {F : Fra} {Q : VK} {E : XK} {G : Hp} {o : Out Fl} (h : PostFn K cl F Q E (outF o)) : PostF K cl F (fun c d _ H => E c d H) { nx := fun _ H' => Q .non H', rt := Q } G o := by
  cases o with
  | ok fl e =>
    cases fl with
    | nx => exact fun σ' H' G' s g => h .non H' G' s.ret .non
    | rt d => exact fun v H' G' s r => h v H' G' s r
    | bk => exact h.elim
    | ct => exact h.elim
  | exn x e => exact fun cls dd σ' H' G' s z => h cls dd H' G' s.ret z
  | bad => exact h.elim
/-- THE RULE for a def -/
theorem fn_D {P : Program} {w : World} {mg : Str → Option Value} {base : Heap} {x qual : Str} {params : Arguments} {body : List Stmt} {scope : Scope} {kws : List (Str × V)} {dvs : List V} {f : Addr} {fd : FuncData} {N ps : List Str} {k : Nat} {g : M Fl}
    (Fn : FunD K x qual params body scope dvs kws f fd) (S : FnScope N ps scope)
    (hbody : ∀ (F : Fra) (cdv : Value) (A : Around) (outer : List PySem.Env) (s : Shared) (H : Hp) (E : XK), Room k (A.deeper (envOfC qual scope s.heap.objs.size f cdv)) →
      RSs (cxOf (L2.CX P w) P w K mg base N qual scope f cdv A outer s H E) cl F (fun c d _ H => E c d H) body g) :
    FnOk P w K mg base (L2.CX P w) (k + 1) f fd ps (spD K cl (fnOf N.length ps.length g)) := by
  refine FunD.ok Fn S (fun vs H Q E h => ?_) fun cdv A outer s H vs Q E hr h => ?_
  · obtain ⟨as, j, js, G, gh, ao, jr, q⟩ := h
    unfold fnOf at q
    split at q
    · rename_i hl; rw [← ao.length, hl]
    · exact q.elim
  · obtain ⟨as, j, js, G, gh, ao, jr, q⟩ := h
    refine ⟨_, (hbody ⟨H, G, js⟩ cdv A outer s H E hr).pss, _, _, stt_start gh ao jr, ?_⟩
    unfold fnOf at q
    split at q
    · exact PostFn.of (K := K) q
    · exact q.elim
/-- a def's worth by a better known function -/
theorem FnOk.by {P : Program} {w : World} {mg : Str → Option Value} {base : Heap} {CX : CXT} {k : Nat} {f : Addr} {fd : FuncData} {ps : List Str} {Φ Ψ : Fn} (h : FnOk P w K mg base CX k f fd ps (spD K cl Φ)) (e : ∀ as j, Ψ as j ≠ .bad → Φ as j = Ψ as j) : FnOk P w K mg base CX k f fd ps (spD K cl Ψ) :=
  h.imp fun vs H Q E ⟨as, j, js, G, gh, ao, jr, q⟩ => ⟨as, j, js, G, gh, ao, jr, by
    rw [e as j fun z => by rw [z] at q; exact q]
    exact q⟩
end

/-! ### calls -/
def callO (e : Env) (o : OutF) : Out R := match o with
  | .ok d [] => .ok (.val d) e
  | .exn x [] => .exn x e
  | _ => .bad
/-- f(..), data alone -/
def cCall (Φ : Fn) (fs : M (List R)) : M R := fun e => (fs e).bnd fun rs e1 => match e1.frzs rs with
  | some (ds, e2) => callO e2 (Φ (ds.map A.dat) [])
  | none => .bad
/-- what slot i owns (or was lent) is now d -/
def Env.put (e : Env) (i : Nat) (d : D) : Option Env := match e.s[i]? with
  | some (.own _) => some (e.setS i (.own d))
  | some (.jar k) => some ⟨e.s, e.j.set k d⟩
  | _ => none
def outE {α : Type} (o : Option Env) (k : Env → Out α) : Out α := match o with
  | some e => k e
  | none => .bad
def callJ (e : Env) (i : Nat) (o : OutF) : Out R := match o with
  | .ok d [x] => outE (e.put i x) fun e' => .ok (.val d) e'
  | .exn y [x] => outE (e.put i x) fun e' => .exn y e'
  | _ => .bad
/-- f(jar, ..) -/
def cCallJ (Φ : Fn) (fs : M (List R)) : M R := fun e => (fs e).bnd fun rs e1 => match rs with
  | .whole i :: rs => (match e1.rd (.whole i), e1.frzs rs with
    | some x, some (ds, e2) => (match e2.rd (.whole i) with
      | some x => callJ e2 i (Φ (.jar 0 :: ds.map A.dat) [x])
      | none => .bad)
    | _, _ => .bad)
  | _ => .bad
section
variable {K : PySem.W.Frag} {cl : Str → Addr} {F : Fra} {e e' : Env} {σ : L2.St} {H G H' G' : Hp}
theorem argsOk_dat {js : List Addr} : ∀ {ds : List D} {vs : List V}, RepL K cl G ds vs → ArgsOk K cl js G (ds.map A.dat) vs
  | _, _, .nil => .nil
  | _, _, .cons r t => .dat r (argsOk_dat t)
/-- behind a call that was lent nothing -/
theorem Stt.called (st : Stt K cl F e σ H G) (r : Ret K cl ⟨H, G, []⟩ H' G' []) : Stt K cl F e σ H' G' ∧ Kp F σ e H G e H' G' := by
  have hk : ∀ {a : Addr} {o : HO}, H a = some o → H' a = some o := fun {a o} q => r.fr a o q (by simp)
  have hg : ∀ {a : Addr} {o : HO}, H a = some o → G a = none → G' a = none := fun {a o} q n => r.fg a o q n
  obtain ⟨⟨gh, g0, jr, fr, fg⟩, jh, len, slot, inj⟩ := st
  refine ⟨⟨⟨r.gh, g0.trans r.g0, ⟨jr.len, jr.nd, fun k a d k1 k2 => ?_⟩, fun a o q hn => hk (fr a o q hn), fun a o q hn => ?_⟩, jh, len, fun i x hx => ?_, inj⟩, ⟨r.g0, fun a o q _ => ⟨hk q, fun n => hg q n⟩, fun i d h => ⟨d, h⟩⟩⟩
  · obtain ⟨q1, q2⟩ := jr.at_ k a d k1 k2
    obtain ⟨o, q3⟩ := q2.ex
    exact ⟨hg q3 q1, q2.mono (fun o q => hk q) r.g0⟩
  · by_cases hp : a ∈ F.js
    · obtain ⟨k, hk'⟩ := List.getElem?_of_mem hp
      have hl : k < e.j.length := by rw [jr.len]; exact (List.getElem?_eq_some_iff.mp hk').1
      obtain ⟨q1, q2⟩ := jr.at_ k a _ hk' (List.getElem?_eq_getElem hl)
      obtain ⟨o, q3⟩ := q2.ex
      exact hg q3 q1
    · exact hg (fr a o q hp) (fg a o q hn)
  · have z := slot i x hx
    cases x with
    | un => trivial
    | dat d => obtain ⟨v, z1, z2⟩ := z; exact ⟨v, z1, z2.mono r.g0⟩
    | own d =>
      obtain ⟨a, z1, z2, z3, z4⟩ := z
      obtain ⟨o, q3⟩ := z4.ex
      exact ⟨a, z1, hg q3 z2, z3, z4.mono (fun o q => hk q) r.g0⟩
    | jar k => exact z
/-- where slot i's object is, and what it is -/
theorem Stt.lent (st : Stt K cl F e σ H G) {i : Nat} {v : V} {d : D} (hs : σ[i]? = some (some v)) (hd : e.rd (.whole i) = some d) : ∃ a, v = .ref a ∧ G a = none ∧ Own K cl H G a d := by
  have hd : (match e.s[i]? with
    | some (.own d) => some d
    | some (.jar k) => e.j[k]?
    | _ => none) = some d := hd
  cases q : e.s[i]? with
  | none => rw [q] at hd; cases hd
  | some x =>
    rw [q] at hd
    have z := st.slot i x q
    cases x with
    | own d' =>
      cases hd
      obtain ⟨a, h1, h2, h3, h4⟩ := z
      rw [hs] at h1; cases h1
      exact ⟨a, rfl, h2, h4⟩
    | jar k =>
      obtain ⟨a, h1, h2⟩ := z
      rw [hs] at h2; cases h2
      obtain ⟨q1, q2⟩ := st.ret.jars.at_ k a d h1 hd
      exact ⟨a, rfl, q1, q2⟩
    | _ => cases hd
/-- behind a change of slot i's object alone (and new objects) -/
theorem Stt.calledJ (st : Stt K cl F e σ H G) {i : Nat} {a : Addr} {x : D} (hs : σ[i]? = some (some (.ref a))) (r : Ret K cl ⟨H, G, [a]⟩ H' G' [x]) (hp : e.put i x = some e') : Stt K cl F e' σ H' G' ∧ Kp F σ e H G e' H' G' := by
  have hk : ∀ {b : Addr} {o : HO}, b ≠ a → H b = some o → H' b = some o := fun {b o} n q => r.fr b o q (by simpa using n)
  have hg : ∀ {b : Addr} {o : HO}, H b = some o → G b = none → G' b = none := fun {b o} q n => r.fg b o q n
  obtain ⟨ga, oa⟩ := r.jars.at_ 0 a x rfl rfl
  have hp : (match e.s[i]? with
    | some (.own _) => some (e.setS i (.own x))
    | some (.jar k) => some (⟨e.s, e.j.set k x⟩ : Env)
    | _ => none) = some e' := hp
  cases q : e.s[i]? with
  | none => rw [q] at hp; cases hp
  | some y =>
    rw [q] at hp
    have zi := st.slot i y q
    cases y with
    | un => cases hp
    | dat d => cases hp
    | own d0 =>
      cases hp
      obtain ⟨a', h1, h2, h3, h4⟩ := zi
      rw [hs] at h1; cases h1
      obtain ⟨⟨gh, g0, jr, fr, fg⟩, jh, len, slot, inj⟩ := st
      have aj : a ∉ F.js := fun hj => jh a hj h3
      have hset : ∀ {j : Nat} {y : S}, (e.setS i (.own x)).s[j]? = some y → (j = i ∧ y = .own x) ∨ (j ≠ i ∧ e.s[j]? = some y) := fun {j y} h => by
        by_cases hj : j = i
        · subst hj; rw [setS_same q] at h; cases h; exact .inl ⟨rfl, rfl⟩
        · rw [setS_ne hj] at h; exact .inr ⟨hj, h⟩
      have old : ∀ {j : Nat} {d : D}, (e.setS i (.own x)).s[j]? = some (.own d) → ∃ d', e.s[j]? = some (.own d') := fun {j d} h => by
        rcases hset h with ⟨rfl, _⟩ | ⟨_, h⟩
        · exact ⟨_, q⟩
        · exact ⟨_, h⟩
      refine ⟨⟨⟨r.gh, g0.trans r.g0, ⟨jr.len, jr.nd, fun k b d k1 k2 => ?_⟩, fun b o q' hn => ?_, fun b o q' hn => ?_⟩, jh, by simp [Env.setS, len], fun j y h => ?_, fun j k d d' b k1 k2 k3 k4 => ?_⟩, ⟨r.g0, fun b o q' l => ?_, fun j d h => old h⟩⟩
      · obtain ⟨q1, q2⟩ := jr.at_ k b d k1 k2
        obtain ⟨o, q3⟩ := q2.ex
        have nb : b ≠ a := fun z => aj (z ▸ List.mem_of_getElem? k1)
        exact ⟨hg q3 q1, q2.mono (fun o q => hk nb q) r.g0⟩
      · have nb : b ≠ a := fun z => by rw [z, h3] at q'; cases q'
        exact hk nb (fr b o q' hn)
      · by_cases hp : b ∈ F.js
        · obtain ⟨k, hk'⟩ := List.getElem?_of_mem hp
          have hl : k < e.j.length := by rw [jr.len]; exact (List.getElem?_eq_some_iff.mp hk').1
          obtain ⟨q1, q2⟩ := jr.at_ k b _ hk' (List.getElem?_eq_getElem hl)
          obtain ⟨o, q3⟩ := q2.ex
          exact hg q3 q1
        · exact hg (fr b o q' hp) (fg b o q' hn)
      · rcases hset h with ⟨rfl, rfl⟩ | ⟨hj, h⟩
        · exact ⟨a, hs, ga, h3, oa⟩
        · have z := slot j y h
          cases y with
          | un => trivial
          | dat d => obtain ⟨v, z1, z2⟩ := z; exact ⟨v, z1, z2.mono r.g0⟩
          | own d =>
            obtain ⟨b, z1, z2, z3, z4⟩ := z
            obtain ⟨o, q3⟩ := z4.ex
            have nb : b ≠ a := fun w => hj (inj j i _ _ a h q (w ▸ z1) hs)
            exact ⟨b, z1, hg q3 z2, z3, z4.mono (fun o q => hk nb q) r.g0⟩
          | jar k => exact z
      · obtain ⟨d1, k1⟩ := old k1
        obtain ⟨d2, k2⟩ := old k2
        exact inj j k d1 d2 b k1 k2 k3 k4
      · have nb : b ≠ a := fun w => l.2 i _ q (w ▸ hs)
        exact ⟨hk nb q', fun n => hg q' n⟩
    | jar k0 =>
      cases hp
      obtain ⟨a', h1, h2⟩ := zi
      rw [hs] at h2; cases h2
      obtain ⟨⟨gh, g0, jr, fr, fg⟩, jh, len, slot, inj⟩ := st
      have aj : a ∈ F.js := List.mem_of_getElem? h1
      have hl0 : k0 < e.j.length := by rw [jr.len]; exact (List.getElem?_eq_some_iff.mp h1).1
      refine ⟨⟨⟨r.gh, g0.trans r.g0, ⟨by simp [jr.len], jr.nd, fun k b d k1 k2 => ?_⟩, fun b o q' hn => ?_, fun b o q' hn => ?_⟩, jh, len, fun j y h => ?_, inj⟩, ⟨r.g0, fun b o q' l => ?_, fun j d h => ⟨d, h⟩⟩⟩
      · have k2 : (e.j.set k0 x)[k]? = some d := k2
        by_cases hk0 : k = k0
        · subst hk0
          rw [h1] at k1; cases k1
          rw [List.getElem?_set_self hl0] at k2; cases k2
          exact ⟨ga, oa⟩
        · rw [List.getElem?_set_ne (Ne.symm hk0)] at k2
          obtain ⟨q1, q2⟩ := jr.at_ k b d k1 k2
          obtain ⟨o, q3⟩ := q2.ex
          have nb : b ≠ a := fun z => hk0 (by
            subst z
            have i1 := (List.getElem?_eq_some_iff.mp k1)
            have i2 := (List.getElem?_eq_some_iff.mp h1)
            exact (List.getElem_inj jr.nd).mp (i1.2.trans i2.2.symm))
          exact ⟨hg q3 q1, q2.mono (fun o q => hk nb q) r.g0⟩
      · have nb : b ≠ a := fun z => hn (z ▸ aj)
        exact hk nb (fr b o q' hn)
      · by_cases hp : b ∈ F.js
        · obtain ⟨k, hk'⟩ := List.getElem?_of_mem hp
          have hl : k < e.j.length := by rw [jr.len]; exact (List.getElem?_eq_some_iff.mp hk').1
          obtain ⟨q1, q2⟩ := jr.at_ k b _ hk' (List.getElem?_eq_getElem hl)
          obtain ⟨o, q3⟩ := q2.ex
          exact hg q3 q1
        · exact hg (fr b o q' hp) (fg b o q' hn)
      · have z := slot j y h
        cases y with
        | un => trivial
        | dat d => obtain ⟨v, z1, z2⟩ := z; exact ⟨v, z1, z2.mono r.g0⟩
        | own d =>
          obtain ⟨b, z1, z2, z3, z4⟩ := z
          obtain ⟨o, q3⟩ := z4.ex
          have nb : b ≠ a := fun w => jh a aj (w ▸ z3)
          exact ⟨b, z1, hg q3 z2, z3, z4.mono (fun o q => hk nb q) r.g0⟩
        | jar k => exact z
      · have nb : b ≠ a := fun w => l.1 (w ▸ aj)
        exact ⟨hk nb q', fun n => hg q' n⟩
theorem ExcAt.mono {x : Exc} {cls : Value} {dd : Option Addr} {H G : Hp} (h : ExcAt K cl x cls dd H G) : ExcAt K cl x cls dd H G := h
end
section
variable {X : Cx} {cl : Str → Addr} {F : Fra} {W : WX}
theorem call_D {Φ : Fn} {fs : M (List R)} {σ : L2.St} {H : Hp} {Q : VK} (h : tD X.K cl F W (cCall Φ fs) σ H Q) : tA X.K cl F W fs σ H fun vs H1 => spD X.K cl Φ vs H1 Q (fun c d H => W c d σ H) := by
  obtain ⟨e, G, st, q⟩ := h
  refine tA_then st q fun rs e1 vs H1 G1 s1 k1 r1 z => ?_
  cases y : e1.frzs rs with
  | none => rw [y] at z; exact z.elim
  | some p =>
    obtain ⟨ds, e2⟩ := p
    rw [y] at z
    obtain ⟨G2, s2, k2, r2⟩ := frzs_ok s1 r1 y
    refine ⟨ds.map A.dat, [], [], G2, s2.ret.gh, argsOk_dat r2, ⟨rfl, List.nodup_nil, fun k a d h => by simp at h⟩, ?_⟩
    cases o : Φ (ds.map A.dat) [] with
    | bad => simp only [o] at z; exact z.elim
    | ok d j =>
      simp only [o] at z
      cases j with
      | cons => exact z.elim
      | nil =>
        intro v H' G' r rv
        obtain ⟨s3, k3⟩ := s2.called r
        exact z v H' G' s3 ((k1.trans k2).trans k3) rv
    | exn x j =>
      simp only [o] at z
      cases j with
      | cons => exact z.elim
      | nil =>
        intro cls dd H' G' r ex
        obtain ⟨s3, k3⟩ := s2.called r
        exact z cls dd H' G' s3 ex
theorem callJ_D {Φ : Fn} {fs : M (List R)} {σ : L2.St} {H : Hp} {Q : VK} (h : tD X.K cl F W (cCallJ Φ fs) σ H Q) : tA X.K cl F W fs σ H fun vs H1 => spD X.K cl Φ vs H1 Q (fun c d H => W c d σ H) := by
  obtain ⟨e, G, st, q⟩ := h
  refine tA_then st q fun rs e1 vs H1 G1 s1 k1 r1 z => ?_
  cases r1 with
  | nil => exact z.elim
  | @cons r v rs vs r0 rr =>
    cases r with
    | val d => exact z.elim
    | whole i =>
      have hs : σ[i]? = some (some v) := r0
      simp only at z
      cases y0 : e1.rd (.whole i) with
      | none => simp only [y0] at z; exact z.elim
      | some x0 =>
        cases y : e1.frzs rs with
        | none => simp only [y0, y] at z; exact z.elim
        | some p =>
          obtain ⟨ds, e2⟩ := p
          simp only [y0, y] at z
          obtain ⟨G2, s2, k2, r2⟩ := frzs_ok s1 rr y
          cases y1 : e2.rd (.whole i) with
          | none => simp only [y1] at z; exact z.elim
          | some x =>
            simp only [y1] at z
            obtain ⟨a, rfl, ga, oa⟩ := s2.lent hs y1
            refine ⟨.jar 0 :: ds.map A.dat, [x], [a], G2, s2.ret.gh, .jar rfl (argsOk_dat r2), ⟨rfl, by simp, fun k b d h1 h2 => ?_⟩, ?_⟩
            · cases k with
              | zero => cases h1; cases h2; exact ⟨ga, oa⟩
              | succ k => simp at h1
            · cases o : Φ (.jar 0 :: ds.map A.dat) [x] with
              | bad => rw [o] at z; exact z.elim
              | ok d j =>
                rw [o] at z
                match j, z, o with
                | [], z, o => exact z.elim
                | _ :: _ :: _, z, o => exact z.elim
                | [x'], z, o =>
                  intro v' H' G' r rv
                  cases hp : e2.put i x' with
                  | none => simp only [callJ, hp] at z; exact z.elim
                  | some e3 =>
                    simp only [callJ, hp] at z
                    obtain ⟨s3, k3⟩ := s2.calledJ hs r hp
                    exact z v' H' G' s3 ((k1.trans k2).trans k3) rv
              | exn ex j =>
                rw [o] at z
                match j, z, o with
                | [], z, o => exact z.elim
                | _ :: _ :: _, z, o => exact z.elim
                | [x'], z, o =>
                  intro cls dd H' G' r xa
                  cases hp : e2.put i x' with
                  | none => simp only [callJ, hp] at z; exact z.elim
                  | some e3 =>
                    simp only [callJ, hp] at z
                    obtain ⟨s3, k3⟩ := s2.calledJ hs r hp
                    exact z cls dd H' G' s3 xa
section
variable {k : Nat} {f : Addr} {fd : FuncData} {ps : List Str} {Φ : Fn} {x : Str} {p pos : Pos} {a : Expr} {es : List Expr} {fs : M (List R)}
theorem re_call (Fn : FnOk X.prog X.w X.K X.mg X.base (L2.CX X.prog X.w) k f fd ps (spD X.K cl Φ)) (hr : Room k X.A) (tk : Takes X W) (hg : Gl X x) (hm : X.mg x = some (.ref f)) (hk : PySem.W.keepIn X.K (.ref f) = true) (hb : Binds X.K fd ps [])
    (ha : RA X cl F W (a :: es) fs) (hdb : (x == ("__debug__" : Str)) = false := by decide) (he : starEach (a :: es) X.env = (false, eval a X.env) :: starEach es X.env := by rfl) (hpl : (backTo pos (starEach es X.env)).any (·.1) = false := by rfl) :
    RE X cl F W (.Call (.Name x p) (a :: es) [] pos) (cCall Φ fs) :=
  ⟨PE.imp (pe_callS Fn hr hg hm hk hb (fun σ => passAt tk σ) ha.pa hdb he hpl) fun σ H Q h => call_D h⟩
theorem re_callJ (Fn : FnOk X.prog X.w X.K X.mg X.base (L2.CX X.prog X.w) k f fd ps (spD X.K cl Φ)) (hr : Room k X.A) (tk : Takes X W) (hg : Gl X x) (hm : X.mg x = some (.ref f)) (hk : PySem.W.keepIn X.K (.ref f) = true) (hb : Binds X.K fd ps [])
    (ha : RA X cl F W (a :: es) fs) (hdb : (x == ("__debug__" : Str)) = false := by decide) (he : starEach (a :: es) X.env = (false, eval a X.env) :: starEach es X.env := by rfl) (hpl : (backTo pos (starEach es X.env)).any (·.1) = false := by rfl) :
    RE X cl F W (.Call (.Name x p) (a :: es) [] pos) (cCallJ Φ fs) :=
  ⟨PE.imp (pe_callS Fn hr hg hm hk hb (fun σ => passAt tk σ) ha.pa hdb he hpl) fun σ H Q h => callJ_D h⟩
end
end
end DL

namespace DL
open PySem L2 PySem.Spec PyProof.Rows

section
variable {X : Cx} {cl : Str → Addr} {F : Fra} {W : WX}
theorem topL1 {K : PySem.W.Frag} {H G : Hp} {d : D} {vs : List V} (h : TopL K cl H G [d] vs) : ∃ v, vs = [v] ∧ Top K cl H G d v := by
  cases h with
  | cons a t => cases t; exact ⟨_, rfl, a⟩
theorem topL2 {K : PySem.W.Frag} {H G : Hp} {d d' : D} {vs : List V} (h : TopL K cl H G [d, d'] vs) : ∃ v v', vs = [v, v'] ∧ Top K cl H G d v ∧ Top K cl H G d' v' := by
  cases h with
  | cons a t => cases t with
    | cons b t => cases t; exact ⟨_, _, rfl, a, b⟩
theorem call_lenRd {X : Cx} : CallR X (.builtin "len") (fun xs H Q => ∃ a kvs, xs = [V.ref a] ∧ Rd H a (.dK kvs) ∧ Q (.int kvs.length) H) := by
  intro pins s σ
                                                                                                              H xs us Q I r h
  obtain ⟨a, kvs,
                                                                                                              rfl, ha, q⟩ := h
  obtain ⟨u, rfl,
                                                                                                              ru⟩ := vals1 r
  cases ru
  exact d_len I ha fun t s' I' => ⟨.int kvs.length, H, I', ⟨t, rfl⟩, q⟩
def lenD : List D → Option D
  | [.lst l] => some (.int l.length)
  | [.tup l] => some (.int l.length)
  | [.scr l] => some (.int l.length)
  | [.str s] => if s.length ≤ sizeLine then some (.int s.length) else none
  | [.dct ks _] => some (.int ks.length)
  | _ => none
theorem cd_len : CallD X cl (.builtin "len") lenD := by
  refine ⟨_, (call_len.or call_lenRd), fun H G xs ds dz Q gh t e k => ?_⟩
  unfold lenD at e
  split at e
  · cases e
    obtain ⟨v, rfl, tv⟩ := topL1 t
    obtain ⟨a, vs, rfl, h1, r⟩ := tv.lst gh
    exact .inl ⟨_, _, rfl, .inl ⟨vs, SqL.of h1, r.length⟩, k _ H G .refl .int⟩
  · cases e
    obtain ⟨v, rfl, tv⟩ := topL1 t
    obtain ⟨a, vs, rfl, h1, r⟩ := tv.tup gh
    exact .inl ⟨_, _, rfl, .inr ⟨vs, h1, r.length⟩, k _ H G .refl .int⟩
  · cases e
    obtain ⟨v, rfl, tv⟩ := topL1 t
    obtain ⟨a, rfl, h1⟩ := tv.scr gh
    exact .inl ⟨_, _, rfl, .inl ⟨_, h1, by simp⟩, k _ H G .refl .int⟩
  · split at e
    · rename_i hl
      cases e
      obtain ⟨v, rfl, tv⟩ := topL1 t
      cases tv.str
      exact .inl ⟨_, _, rfl, ⟨hl, rfl⟩, k _ H G .refl .int⟩
    · cases e
  · rename_i ks l
    cases e
    obtain ⟨v, rfl, tv⟩ := topL1 t
    obtain ⟨a, vs, rfl, h1, hl, r⟩ := tv.dct gh
    refine .inr ⟨a, _, rfl, h1, ?_⟩
    have e1 : (ks.zip vs).length = ks.length := by rw [List.length_zip, ← hl, Nat.min_self]
    rw [e1]
    exact k _ H G .refl .int
  · cases e
def intFnD : List D → Option D
  | [.int i] => some (.int i)
  | [.bl b] => some (.int (if b then 1 else 0))
  | _ => none
theorem cd_int : CallD X cl (.type "int") intFnD := by
  refine ⟨_, call_int1, fun H G xs ds dz Q gh t e k => ?_⟩
  unfold intFnD at e
  split at e
  · cases e
    obtain ⟨v, rfl, tv⟩ := topL1 t
    cases tv.int
    exact .inl ⟨_, rfl, k _ H G .refl .int⟩
  · cases e
    obtain ⟨v, rfl, tv⟩ := topL1 t
    cases tv.bl
    exact .inr ⟨_, rfl, k _ H G .refl .int⟩
  · cases e
def absD : List D → Option D
  | [.int i] => some (.int (if i < 0 then -i else i))
  | _ => none
theorem cd_abs : CallD X cl (.builtin "abs") absD := by
  refine ⟨_, call_abs, fun H G xs ds dz Q gh t e k => ?_⟩
  unfold absD at e
  split at e
  · cases e
    obtain ⟨v, rfl, tv⟩ := topL1 t
    cases tv.int
    exact ⟨_, rfl, k _ H G .refl .int⟩
  · cases e
def min2D : List D → Option D
  | [.int i, .int j] => some (.int (if j < i then j else i))
  | _ => none
def max2D : List D → Option D
  | [.int i, .int j] => some (.int (if j > i then j else i))
  | _ => none
theorem cd_min2 (hc : X.calm = true) : CallD X cl (.builtin "min") min2D := by
  refine ⟨_, call_min2 hc, fun H G xs ds dz Q gh t e k => ?_⟩
  unfold min2D at e
  split at e
  · cases e
    obtain ⟨v, v', rfl, tv, tv'⟩ := topL2 t
    cases tv.int
    cases tv'.int
    exact ⟨_, _, rfl, k _ H G .refl .int⟩
  · cases e
theorem cd_max2 (hc : X.calm = true) : CallD X cl (.builtin "max") max2D := by
  refine ⟨_, call_max2 hc, fun H G xs ds dz Q gh t e k => ?_⟩
  unfold max2D at e
  split at e
  · cases e
    obtain ⟨v, v', rfl, tv, tv'⟩ := topL2 t
    cases tv.int
    cases tv'.int
    exact ⟨_, _, rfl, k _ H G .refl .int⟩
  · cases e
def listD : List D → Option D
  | [.lst l] => some (.lst l)
  | [.tup l] => some (.lst l)
  | _ => none
theorem cd_list : CallD X cl (.type "list") listD := by
  refine ⟨_, call_list_of, fun H G xs ds dz Q gh t e k => ?_⟩
  unfold listD at e
  split at e
  · cases e
    obtain ⟨v, rfl, tv⟩ := topL1 t
    obtain ⟨a, vs, rfl, h1, r⟩ := tv.lst gh
    exact ⟨_, vs, rfl, .inl (SqL.of h1), fun p hp => k _ _ _ (.lay .refl hp) (.lst upd_same (r.mono (same_upd (gh.free hp))))⟩
  · cases e
    obtain ⟨v, rfl, tv⟩ := topL1 t
    obtain ⟨a, vs, rfl, h1, r⟩ := tv.tup gh
    exact ⟨_, vs, rfl, .inr h1, fun p hp => k _ _ _ (.lay .refl hp) (.lst upd_same (r.mono (same_upd (gh.free hp))))⟩
  · cases e
def tupleD : List D → Option D
  | [.lst l] => some (.tup l)
  | [.tup l] => some (.tup l)
  | _ => none
theorem cd_tuple : CallD X cl (.type "tuple") tupleD := by
  refine ⟨_, call_tuple_of, fun H G xs ds dz Q gh t e k => ?_⟩
  unfold tupleD at e
  split at e
  · cases e
    obtain ⟨v, rfl, tv⟩ := topL1 t
    obtain ⟨a, vs, rfl, h1, r⟩ := tv.lst gh
    exact ⟨_, vs, rfl, .inl ⟨SqL.of h1, fun p hp => k _ _ _ (.lay .refl hp) (.tup (SqT.of upd_same) (r.mono (same_upd (gh.free hp))))⟩⟩
  · cases e
    obtain ⟨v, rfl, tv⟩ := topL1 t
    rcases tv with tv | ⟨_, _, _, tv⟩
    · have tv' := tv
      cases tv with
      | tup h1 r => exact ⟨_, _, rfl, .inr ⟨SqT.same gh h1, k _ H G .refl tv'⟩⟩
    · exact tv.elim
  · cases e
/-- the truth values of a list -/
def blsOf : List D → Option (List Bool)
  | [] => some []
  | .bl b :: r => (blsOf r).map (b :: ·)
  | _ :: _ => none
theorem blsOf_ok {K : PySem.W.Frag} {G : Hp} : ∀ {ds : List D} {bs : List Bool} {vs : List V}, blsOf ds = some bs → RepL K cl G ds vs → vs = bs.map V.bl
  | [], _, _, h, r => by cases h; cases r; rfl
  | .bl b :: ds, _, _, h, r => by
    obtain ⟨bs, h1, rfl⟩ := Option.map_eq_some_iff.mp h
    cases r with
    | cons r1 rr => cases r1; rw [blsOf_ok h1 rr]; rfl
  | .non :: _, _, _, h, _ | .int _ :: _, _, _, h, _ | .str _ :: _, _, _, h, _ | .tup _ :: _, _, _, h, _ | .lst _ :: _, _, _, h, _ | .dct _ _ :: _, _, _, h, _ | .dcT _ _ :: _, _, _, h, _ | .obj _ _ _ :: _, _, _, h, _ | .scr _ :: _, _, _, h, _ => by cases h
def allD : List D → Option D
  | [.lst l] => (blsOf l).map fun bs => .bl (bs.all id)
  | _ => none
def anyD : List D → Option D
  | [.lst l] => (blsOf l).map fun bs => .bl (bs.any id)
  | _ => none
theorem cd_all (hc : X.calm = true) : CallD X cl (.builtin "all") allD := by
  refine ⟨_, cr_all hc, fun H G xs ds dz Q gh t e k => ?_⟩
  unfold allD at e
  split at e
  · obtain ⟨bs, hb, rfl⟩ := Option.map_eq_some_iff.mp e
    obtain ⟨v, rfl, tv⟩ := topL1 t
    obtain ⟨a, vs, rfl, h1, r⟩ := tv.lst gh
    exact ⟨a, bs, rfl, by rw [← blsOf_ok hb r]; exact SqL.of h1, k _ H G .refl .bl⟩
  · cases e
theorem cd_any (hc : X.calm = true) : CallD X cl (.builtin "any") anyD := by
  refine ⟨_, cr_any hc, fun H G xs ds dz Q gh t e k => ?_⟩
  unfold anyD at e
  split at e
  · obtain ⟨bs, hb, rfl⟩ := Option.map_eq_some_iff.mp e
    obtain ⟨v, rfl, tv⟩ := topL1 t
    obtain ⟨a, vs, rfl, h1, r⟩ := tv.lst gh
    exact ⟨a, bs, rfl, by rw [← blsOf_ok hb r]; exact SqL.of h1, k _ H G .refl .bl⟩
  · cases e
def strFnD : List D → Option D
  | [.int i] => if i.natAbs.log2 < 1920 then some (.str (toString i)) else none
  | _ => none
theorem cd_strInt : CallD X cl (.type "str") strFnD := by
  refine ⟨_, call_str_int, fun H G xs ds dz Q gh t e k => ?_⟩
  unfold strFnD at e
  split at e
  · split at e
    · rename_i h
      cases e
      obtain ⟨v, rfl, tv⟩ := topL1 t
      cases tv.int
      exact ⟨_, rfl, h, k _ H G .refl .str⟩
    · cases e
  · cases e

/-! ### isinstance -/
/-- the built-in type of plain data -/
def tyN : D → Option String
  | .non => some "NoneType"
  | .bl _ => some "bool"
  | .int _ => some "int"
  | .str _ => some "str"
  | .tup _ => some "tuple"
  | .lst _ => some "list"
  | .scr _ => some "list"
  | .dct _ _ => some "dict"
  | .dcT _ _ => none
  | .obj _ _ _ => none
def isTy (a b : String) : Bool := a == b || (a == "bool" && b == "int")
/-- what K must say of the classes whose instances are asked -/
structure InsOk (K : PySem.W.Frag) (C : Addr) : Prop where
  cl : Cls K C
  ha : PySem.W.findIn K (.ref C) "__class__"
                                                                                                              = some (some (.builtin "object.__class__"))
  hn : PySem.W.specialIn K (.builtin "object.__class__")
                                                                                                              "__get__" = some (some (.builtin "getset_descriptor.__get__"))
  htk : PySem.W.takesIn K (.builtin
                                                                                                              "object.__class__") = some true
  hm : PySem.W.mroIn K C
                                                                                                              (.type "object") = some true
theorem Rep.tyX {K : PySem.W.Frag} {H : Hp} {d : D} {v : V} {n : String} (h : Rep K cl H d v) (e : tyN d = some n) : TyX K H v (.type n) := by
  cases h with
  | non => cases e; exact .base .non
  | bl => cases e; exact .base (.bl _)
  | int => cases e; exact .base (.int _)
  | str => cases e; exact .base (.str _)
  | tup h r =>
    cases e
    rcases h with (h | ⟨o, h⟩) | ⟨o, its, k, h1, h2, h3⟩
    · exact .base (.tup h)
    · exact .fTuple h
    · exact .kTuple h1 h2
  | lst h r => cases e; exact .base (.lst h)
  | scr h =>
    cases e
    rcases h with (h | ⟨o, h⟩) | ⟨o, its, k, h1, h2, h3⟩
    · exact .base (.lst h)
    · exact .base (.frz h)
    · exact .kList h1 h2
  | dct h l r =>
    cases e
    rcases h with h | ⟨o, h⟩
    · exact .base (.dK h)
    · exact .fDict h
  | dcT h l r => cases e
  | obj h l r => cases e
/-- isinstance(x, T), T a built-in type: fO: which classes' instances are asked besides -/
def isiTy (cs : List Str) (T : String) (d : D) : Option Bool := match d with
  | .obj c _ _ => if c ∈ cs then some false else none
  | d => (tyN d).map fun n => isTy n T
def kinds : List String := ["NoneType", "bool", "int", "str", "tuple", "list", "dict"]
theorem tyN_in {d : D} {n : String} (h : tyN d = some n) : n ∈ kinds := by
  cases d <;> simp only [tyN] at h <;> first | (cases h; decide) | cases h
theorem kinds_ty : ∀ T ∈ ["str", "int", "bool", "tuple", "list", "dict"], ∀ n ∈ kinds, kitB n T = some (isTy n T) := by decide +kernel
def cIsT (cs : List Str) (T : String) (f : M R) : M R := fun e => (f e).bnd fun r e1 => opt (((e1.rd r).bind (isiTy cs T)).map D.bl) e1
structure ClsX (K : PySem.W.Frag) (cl : Str → Addr) (cs : List Str) : Prop where
  ins : ∀ c ∈ cs, InsOk K (cl c)
  ty : ∀ c ∈ cs, ∀ T ∈ ["str", "int", "bool", "tuple", "list", "dict"], PySem.W.kitOne K (.ref (cl c)) (.type T) = some false
  no : ∀ c ∈ cs, ∀ n ∈ kinds, PySem.W.kitOne K (.type n) (.ref (cl c)) = some false
  own : ∀ c ∈ cs, ∀ c' ∈ cs, PySem.W.kitOne K (.ref (cl c)) (.ref (cl c')) = some (decide (c = c'))
theorem re_isT {a : Expr} {f : M R} {T : String} {x : Str} {p p2 pos : Pos} {cs : List Str} (hx : ClsX X.K cl cs) (h : RE X cl F W a f) (hg : Gl X "isinstance") (hm : X.mg "isinstance" = none) (hg2 : Gl X x) (hm2 : X.mg x = none) (hv : bootBuiltins x = some (.type T))
    (hT : T ∈ ["str", "int", "bool", "tuple", "list", "dict"]) (hn : x ≠ "__name__" := by decide) (hdb : (x == ("__debug__" : Str)) = false := by decide)
    (he : starEach [a, .Name x p2] X.env = (false, eval a X.env) :: starEach [.Name x p2] X.env := by rfl) (hpl : (backTo pos (starEach [.Name x p2] X.env)).any (·.1) = false := by rfl) :
    RE X cl F W (.Call (.Name "isinstance" p) [a, .Name x p2] [] pos) (cIsT cs T f) := by
  refine ⟨PE.imp (pe_callB call_isi hg hm (by decide +kernel) (pa_cons h.pe (pa_cons (pe_bltn (v := .ty T) hg2 hm2 hv rfl hn hdb) pa_nil) he) (by decide) (by decide) he hpl) fun σ H Q ⟨e, G, st, q⟩ => tD_then st q fun r e1 v H1 G1 s1 k1 r1 z => ?_⟩
  obtain ⟨dz, z1, z⟩ := post_opt z
  obtain ⟨b, hb, rfl⟩ := Option.map_eq_some_iff.mp z1
  obtain ⟨d, hd, hi⟩ := Option.bind_eq_some_iff.mp hb
  have rep := (s1.top r1 hd).rep s1.ret.gh
  have fin := z (.bl b) H1 G1 s1 k1 .bl
  cases d
  case obj c ns l =>
    simp only [isiTy] at hi
    split at hi
    · rename_i hc
      cases hi
      have i := hx.ins c hc
      cases rep with
      | obj h1 hl rl => exact ⟨_, _, _, _, false, rfl, .ty T, .base (.ins h1 i.cl i.ha i.hn i.htk i.hm), hx.ty c hc T hT, fin⟩
    · cases hi
  case dcT ks l => simp [isiTy, tyN] at hi
  all_goals
    simp only [isiTy, tyN, Option.map_some, Option.some.injEq] at hi
    subst hi
    exact ⟨_, _, _, _, _, rfl, .ty T, rep.tyX rfl, kit_ty (kinds_ty T hT _ (by decide)), fin⟩
/-- isinstance(x, C), C a class of the program -/
def isiC (cs : List Str) (C : Str) (d : D) : Option Bool := match d with
  | .obj c _ _ => if c ∈ cs then some (decide (c = C)) else none
  | .dcT _ _ => none
  | _ => some false
def cIsC (cs : List Str) (C : Str) (f : M R) : M R := fun e => (f e).bnd fun r e1 => opt (((e1.rd r).bind (isiC cs C)).map D.bl) e1
theorem re_isC {a : Expr} {f : M R} {x : Str} {p p2 pos : Pos} {cs : List Str} (hx : ClsX X.K cl cs) (hc : x ∈ cs) (h : RE X cl F W a f) (hg : Gl X "isinstance") (hm : X.mg "isinstance" = none) (hg2 : Gl X x) (hm2 : X.mg x = some (.ref (cl x)))
    (hdb : (x == ("__debug__" : Str)) = false := by decide)
    (he : starEach [a, .Name x p2] X.env = (false, eval a X.env) :: starEach [.Name x p2] X.env := by rfl) (hpl : (backTo pos (starEach [.Name x p2] X.env)).any (·.1) = false := by rfl) :
    RE X cl F W (.Call (.Name "isinstance" p) [a, .Name x p2] [] pos) (cIsC cs x f) := by
  refine ⟨PE.imp (pe_callB call_isi hg hm (by decide +kernel) (pa_cons h.pe (pa_cons (pe_glob (v := .ref (cl x)) hg2 hm2 rfl hdb) pa_nil) he) (by decide) (by decide) he hpl) fun σ H Q ⟨e, G, st, q⟩ => tD_then st q fun r e1 v H1 G1 s1 k1 r1 z => ?_⟩
  obtain ⟨dz, z1, z⟩ := post_opt z
  obtain ⟨b, hb, rfl⟩ := Option.map_eq_some_iff.mp z1
  obtain ⟨d, hd, hi⟩ := Option.bind_eq_some_iff.mp hb
  have rep := (s1.top r1 hd).rep s1.ret.gh
  have fin := z (.bl b) H1 G1 s1 k1 .bl
  cases d
  case obj c ns l =>
    simp only [isiC] at hi
    split at hi
    · rename_i hc'
      cases hi
      have i := hx.ins c hc'
      cases rep with
      | obj h1 hl rl => exact ⟨_, _, _, _, _, rfl, .own _, .base (.ins h1 i.cl i.ha i.hn i.htk i.hm), hx.own c hc' x hc, fin⟩
    · cases hi
  case dcT ks l => simp [isiC] at hi
  all_goals
    simp only [isiC, Option.some.injEq] at hi
    subst hi
    exact ⟨_, _, _, _, _, rfl, .own _, rep.tyX rfl, hx.no x hc _ (by decide), fin⟩
end
end DL

namespace DL
open PySem L2 PySem.Spec PyProof.Rows

section
variable {K : PySem.W.Frag} {cl : Str → Addr} {F : Fra} {e e' : Env} {σ : L2.St} {H G H' G' : Hp}
/-- what slot i owns is changed -/
theorem Stt.put (st : Stt K cl F e σ H G) {i : Nat} {a : Addr} {x d : D} {o : HO} (hs : σ[i]? = some (some (.ref a))) (hd : e.rd (.whole i) = some d) (hp : e.put i x = some e') (ho : ∀ H', H' a = some o → Own K cl H' G a x) : Stt K cl F e' σ (upd H a o) G ∧ Kp F σ e H G e' (upd H a o) G := by
  obtain ⟨a', ea, ga, oa⟩ := st.lent hs hd
  cases ea
  refine st.calledJ hs ⟨fun b u q => ?_, .refl _, ⟨rfl, by simp, fun k b y h1 h2 => ?_⟩, fun b u q hn => ?_, fun b u _ g => g⟩ hp
  · have nb : b ≠ a := fun z => by rw [z, ga] at q; cases q
    rw [upd_ne nb]; exact st.ret.gh b u q
  · cases k with
    | zero => cases h1; cases h2; exact ⟨ga, ho _ upd_same⟩
    | succ k => simp at h1
  · have nb : b ≠ a := by simpa using hn
    rw [upd_ne nb]; exact q
theorem frz_rd {r : R} {d : D} (h : e.frz r = some (d, e')) : e.rd r = some d := by
  cases r with
  | val d' => cases h; rfl
  | whole i =>
    have h : (match e.s[i]? with
      | some (.own d) => some (d, e.setS i (.dat d))
      | _ => none) = some (d, e') := h
    cases q : e.s[i]? with
    | none => rw [q] at h; cases h
    | some y =>
      rw [q] at h
      cases y with
      | own d' =>
        cases h
        show (match e.s[i]? with
          | some (.own d) => some d
          | some (.jar k) => e.j[k]?
          | _ => none) = some d
        rw [q]
      | _ => cases h
end

/-! ### lists that a name owns: append, pop, a place stored -/
def isLst : Option D → Bool
  | some (.lst _) => true
  | _ => false
def appO (i : Nat) (o : Option (D × Env)) : Out R := match o with
  | some (d, e2) => (match e2.rd (.whole i) with
    | some (.lst l) => if l.length < sizeLine then outE (e2.put i (.lst (l ++ [d]))) fun e3 => .ok (.val .non) e3 else .bad
    | _ => .bad)
  | none => .bad
def cApp (i : Nat) (f : M R) : M R := fun e => if isLst (e.rd (.whole i)) then (f e).bnd fun r e1 => appO i (e1.frz r) else .bad
def cPop (i : Nat) : M R := fun e => match e.rd (.whole i) with
    | some (.lst l) => (match l.getLast? with
      | some d => outE (e.put i (.lst l.dropLast)) fun e3 => .ok (.val d) e3
      | none => .bad)
    | _ => .bad
section
variable {X : Cx} {cl : Str → Addr} {F : Fra} {W : WX}
theorem outE_ok {α : Type} {K : PySem.W.Frag} {σ : L2.St} {o : Option Env} {k : Env → Out α} {q : α → Env → Prop} (h : Post K cl F W σ (outE o k) q) : ∃ e, o = some e ∧ Post K cl F W σ (k e) q := by
  cases o with
  | some e => exact ⟨e, rfl, h⟩
  | none => exact h.elim
/-- slot i holds a reference, and what it owns or was lent -/
theorem Stt.ref_at {K : PySem.W.Frag} {e : Env} {σ : L2.St} {H G : Hp} (st : Stt K cl F e σ H G) {i : Nat} {d : D} (hd : e.rd (.whole i) = some d) : ∃ a, σ[i]? = some (some (.ref a)) ∧ Own K cl H G a d := by
  have hd' : (match e.s[i]? with
    | some (.own d) => some d
    | some (.jar k) => e.j[k]?
    | _ => none) = some d := hd
  cases q : e.s[i]? with
  | none => rw [q] at hd'; cases hd'
  | some y =>
    have z := st.slot i y q
    cases y with
    | un => rw [q] at hd'; cases hd'
    | dat d => rw [q] at hd'; cases hd'
    | own d' =>
      obtain ⟨a, h1, _⟩ := z
      obtain ⟨a', e1, _, o⟩ := st.lent h1 hd
      cases e1
      exact ⟨a, h1, o⟩
    | jar k =>
      obtain ⟨a, _, h1⟩ := z
      obtain ⟨a', e1, _, o⟩ := st.lent h1 hd
      cases e1
      exact ⟨a, h1, o⟩
theorem re_app (i : Nat) {x : Str} {a : Expr} {f : M R} {p apos cpos : Pos} (h : RE X cl F W a f) (hN : X.N[i]? = some x := by rfl) (hv : Vis X.env.scope x := by first | exact Or.inl rfl | exact Or.inr (Or.inl rfl) | exact Or.inr (Or.inr rfl)) (hd : (x == ("__debug__" : Str)) = false := by decide)
    (hcd : (x == ("__classdict__" : Str)) = false := by decide)
    (hbase : attributeBase (.Name x p) "append" X.env (eval (.Name x p) X.env) = eval (.Name x p) X.env := by rfl)
    (hfew : ((backTo cpos (starEach [a] X.env)).all (fun x => !x.1) && (backToKw cpos (keywordEach [] X.env)).all (fun x => x.1.isSome)
      && decide ([a].length + ([] : List Keyword).length + (if ([] : List Keyword).isEmpty then 0 else 1) < 30)) = true := by rfl)
    (hline : (apos.endLine == cpos.line) = true := by rfl) (hs : starEach [a] X.env = (false, eval a X.env) :: starEach [] X.env := by rfl) (hplain : (backTo cpos (starEach [] X.env)).any (·.1) = false := by rfl) :
    RE X cl F W (.Call (.Attribute (.Name x p) "append" apos) [a] [] cpos) (cApp i f) := by
  refine ⟨PE.imp (pe_bm PySem.F.plainAttrs_list PySem.F.slot_list_append PySem.F.type_list_append mt_append (pe_var hN hv hd hcd) (pa_cons h.pe pa_nil hs) hbase hfew hline hs hplain) fun σ H Q ⟨e, G, st, q⟩ => ?_⟩
  unfold cApp at q
  split at q
  · rename_i hl
    cases h0 : e.rd (.whole i) with
    | none => rw [h0] at hl; cases hl
    | some d0 =>
      obtain ⟨a0, hs0, o0⟩ := st.ref_at h0
      cases d0 with
      | lst l0 =>
        obtain ⟨us0, hu0, _⟩ := o0
        refine ⟨_, hs0, .inl ⟨rfl, us0, SqL.of hu0⟩, tD_then st q fun r e1 v H1 G1 s1 k1 r1 z => ?_⟩
        cases y : e1.frz r with
        | none => rw [y] at z; exact z.elim
        | some p =>
          obtain ⟨dv, e2⟩ := p
          rw [y] at z
          obtain ⟨G2, s2, k2, r2⟩ := frz_ok s1 r1 y
          simp only [appO] at z
          cases h2 : e2.rd (.whole i) with
          | none => rw [h2] at z; exact z.elim
          | some d2 =>
            rw [h2] at z
            cases d2 with
            | lst l =>
              simp only at z
              split at z
              · rename_i hz
                obtain ⟨e3, hp, z⟩ := outE_ok z
                obtain ⟨a2, hs2, us, hu, ru⟩ := s2.ref_at h2
                rw [hs0] at hs2; cases hs2
                refine ⟨a0, us, v, rfl, rfl, hu, by rw [← ru.length]; exact hz, ?_⟩
                obtain ⟨s3, k3⟩ := s2.put (o := .lst (us ++ [v])) hs0 h2 hp fun H' h => ⟨us ++ [v], h, ru.append (.cons r2 .nil)⟩
                exact z _ _ _ s3 ((k1.trans k2).trans k3) .non
              · exact z.elim
            | _ => exact z.elim
      | _ => rw [h0] at hl; cases hl
  · exact q.elim
theorem RepL.last {K : PySem.W.Frag} {G : Hp} {ds : List D} {vs : List V} {d : D} (r : RepL K cl G ds vs) (h : ds.getLast? = some d) : ∃ v, vs[vs.length - 1]? = some v ∧ Rep K cl G d v := by
  rw [List.getLast?_eq_getElem?] at h
  obtain ⟨v, h1, h2⟩ := r.getD h
  rw [r.length] at h1
  exact ⟨v, h1, h2⟩
theorem re_pop (i : Nat) {x : Str} {p apos cpos : Pos} (hN : X.N[i]? = some x := by rfl) (hv : Vis X.env.scope x := by first | exact Or.inl rfl | exact Or.inr (Or.inl rfl) | exact Or.inr (Or.inr rfl)) (hd : (x == ("__debug__" : Str)) = false := by decide)
    (hcd : (x == ("__classdict__" : Str)) = false := by decide)
    (hbase : attributeBase (.Name x p) "pop" X.env (eval (.Name x p) X.env) = eval (.Name x p) X.env := by rfl) (hline : (apos.endLine == cpos.line) = true := by rfl) :
    RE X cl F W (.Call (.Attribute (.Name x p) "pop" apos) [] [] cpos) (cPop i) := by
  refine ⟨PE.imp (pe_bm0 PySem.F.plainAttrs_list PySem.F.slot_list_pop PySem.F.type_list_pop mt_pop (pe_var hN hv hd hcd) hbase hline) fun σ H Q ⟨e, G, st, q⟩ => ?_⟩
  unfold cPop at q
  cases h0 : e.rd (.whole i) with
  | none => rw [h0] at q; exact q.elim
  | some d0 =>
    rw [h0] at q
    obtain ⟨a0, hs0, o0⟩ := st.ref_at h0
    cases d0 with
    | lst l =>
      simp only at q
      obtain ⟨us, hu, ru⟩ := o0
      cases hl : l.getLast? with
      | none => simp only [hl] at q; exact q.elim
      | some d =>
        simp only [hl] at q
        obtain ⟨e3, hp, z⟩ := outE_ok q
        obtain ⟨v, hv, rv⟩ := ru.last hl
        obtain ⟨s3, k3⟩ := st.put (o := .lst us.dropLast) hs0 h0 hp fun H' h => ⟨us.dropLast, h, ru.dropLast⟩
        exact ⟨_, hs0, .inl ⟨rfl, us, SqL.of hu⟩, a0, us, v, rfl, rfl, hu, hv, z v _ _ s3 k3 rv⟩
    | _ => exact q.elim
/-- x[k] = e, x a name -/
def setO (i : Nat) (k : Int) (d : D) (e : Env) : Out Fl := match e.rd (.whole i) with
  | some (.lst l) => (match ixN l.length k with
    | some j => outE (e.put i (.lst (l.set j d))) fun e3 => .ok .nx e3
    | none => .bad)
  | _ => .bad
def setK (i : Nat) (d : D) (rk : R) (e : Env) : Out Fl := match rk with
  | .val (.int k) => setO i k d e
  | _ => .bad
def setV (i : Nat) (fk : M R) (o : Option (D × Env)) : Out Fl := match o with
  | some (d, e2) => if isLst (e2.rd (.whole i)) then (fk e2).bnd fun rk e3 => setK i d rk e3 else .bad
  | none => .bad
def sSetIx (i : Nat) (fk fv : M R) : M Fl := fun e => (fv e).bnd fun r e1 => setV i fk (e1.frz r)
theorem rs_setIx (i : Nat) {x : Str} {a b : Expr} {fk fv : M R} {p pos pos' : Pos} (hk : RE X cl F W a fk) (hv : RE X cl F W b fv) (hN : X.N[i]? = some x := by rfl) (hvis : Vis X.env.scope x := by first | exact Or.inl rfl | exact Or.inr (Or.inl rfl) | exact Or.inr (Or.inr rfl)) (hd : (x == ("__debug__" : Str)) = false := by decide)
    (hcd : (x == ("__classdict__" : Str)) = false := by decide)
    (ha : ∀ v, assign (.Subscript (.Name x p) a pos') X.env v = (do
      let ov ← holding [v] (eval (.Name x p) X.env)
      let iv ← holding [v, ov] (eval a X.env)
      standAt pos'
      holding [v, ov, iv]
                                                                                                              (setItem ov iv v)
      release [v, ov, iv] []) := by intro _; rfl)
    (hs : swapsWithSole [.Subscript (.Name x p) a pos'] b pos.line X.env = pure false := by rfl) (hw : swappedStores [.Subscript (.Name x p) a pos'] b X.env = pure none := by rfl)
    (h1 : (assignEach [.Subscript (.Name x p) a pos'] X.env).map (·.2) = [assign (.Subscript (.Name x p) a pos') X.env] := by rfl) :
    RS X cl F W (.Assign [.Subscript (.Name x p) a pos'] b pos) (sSetIx i fk fv) := by
  refine ⟨PS.imp (ps_asg hv.pe (pg_sub (pe_var hN hvis hd hcd) hk.pe set_list ha) hs hw h1) fun D σ H ⟨e, G, st, q⟩ => tD_st st q fun r e1 v H1 G1 s1 k1 r1 z => ?_⟩
  cases y : e1.frz r with
  | none => rw [y] at z; exact z.elim
  | some p =>
    obtain ⟨dv, e2⟩ := p
    rw [y] at z
    obtain ⟨G2, s2, k2, r2⟩ := frz_ok s1 r1 y
    simp only [setV] at z
    split at z
    · rename_i hl
      cases h0 : e2.rd (.whole i) with
      | none => rw [h0] at hl; cases hl
      | some d0 =>
        obtain ⟨a0, hs0, o0⟩ := s2.ref_at h0
        refine ⟨_, hs0, tD_st s2 (z.mono k2.gg) fun rk e3 vk H3 G3 s3 k3 r3 z => ?_⟩
        cases rk with
        | whole j => exact z.elim
        | val dk =>
          cases dk with
          | int k =>
            cases r3
            simp only [setK, setO] at z
            cases h3 : e3.rd (.whole i) with
            | none => rw [h3] at z; exact z.elim
            | some d3 =>
              rw [h3] at z
              cases d3 with
              | lst l =>
                simp only at z
                obtain ⟨a3, hs3, us, hu, ru⟩ := s3.ref_at h3
                rw [hs0] at hs3; cases hs3
                cases hj : ixN l.length k with
                | none => simp only [hj] at z; exact z.elim
                | some j =>
                  simp only [hj] at z
                  cases hp : e3.put i (.lst (l.set j dv)) with
                  | none => rw [hp] at z; exact z.elim
                  | some e4 =>
                    rw [hp] at z
                    have r4 := r2.mono k3.gg
                    obtain ⟨s4, k4⟩ := s3.put (o := .lst (us.set j v)) hs0 h3 hp fun H' h => ⟨us.set j v, h, RepL.set r4 j ru⟩
                    refine ⟨a0, us, k, j, rfl, rfl, hu, by rw [← ru.length]; exact hj, ?_⟩
                    exact z σ _ _ s4 (.refl _)
              | _ => exact z.elim
          | _ => exact z.elim
    · exact z.elim

/-! ### new lists that a name is to own -/
def tFr (K : PySem.W.Frag) (cl : Str → Addr) (F : Fra) (W : WX) (f : M D) : TE := fun σ H Q => ∃ e G, Stt K cl F e σ H G ∧ Post K cl F W σ (f e) fun d e' => ∀ a H' G', Stt K cl F e' σ H' G' → Kp F σ e H G e' H' G' → Own K cl H' G' a d → G' a = none → F.H0 a = none → Loose F e' σ a →
  (∀ b o, H b = some o → Loose F e σ b → b ≠ a) → Q (.ref a) H'
structure RF (X : Cx) (cl : Str → Addr) (F : Fra) (W : WX) (x : Expr) (f : M D) : Prop where
  pe : PE X x (tFr X.K cl F W f)
/-- behind a new object -/
theorem Stt.new {K : PySem.W.Frag} {e e1 : Env} {σ : L2.St} {H G H1 G1 : Hp} {p : Addr} {o : HO} (s1 : Stt K cl F e1 σ H1 G1) (k : Kp F σ e H G e1 H1 G1) (hp : H1 p = none) :
    Stt K cl F e1 σ (upd H1 p o) G1 ∧ Kp F σ e H G e1 (upd H1 p o) G1 ∧ G1 p = none ∧ F.H0 p = none ∧ Loose F e1 σ p ∧ ∀ b u, H b = some u → Loose F e σ b → b ≠ p := by
  obtain ⟨l, h0⟩ := s1.fresh hp
  refine ⟨s1.layL hp, k.trans ⟨.refl _, fun b u q _ => ⟨by rw [upd_ne (ne_of_none q hp)]; exact q, fun g => g⟩, fun i d h => ⟨d, h⟩⟩, s1.ret.gh.free hp, h0, l, fun b u q lb => ?_⟩
  obtain ⟨q1, _⟩ := k.kp b u q lb
  exact ne_of_none q1 hp
def fLst (f : M (List R)) : M D := fun e => (f e).bnd fun rs e1 => match e1.frzs rs with
  | some (ds, e2) => if ds.length ≤ sizeLine then .ok (.lst ds) e2 else .bad
  | none => .bad
theorem rf_lst {xs : List Expr} {f : M (List R)} {pos} (h : RA X cl F W xs f) : RF X cl F W (.List xs pos) (fLst f) := by
  refine ⟨PE.imp (pe_lst h.pa) fun σ H Q ⟨e, G, st, q⟩ => tA_then st q fun rs e1 vs H1 G1 s1 k1 r1 z => ?_⟩
  cases y : e1.frzs rs with
  | none => rw [y] at z; exact z.elim
  | some p =>
    obtain ⟨ds, e2⟩ := p
    rw [y] at z
    obtain ⟨G2, s2, k2, r2⟩ := frzs_ok s1 r1 y
    by_cases hz : ds.length ≤ sizeLine
    · simp only [hz, if_true] at z
      refine ⟨by rw [← r2.length]; exact hz, fun p hp => ?_⟩
      obtain ⟨a1, a2, a3, a4, a5, a6⟩ := s2.new (o := .lst vs) (k1.trans k2) hp
      exact z p _ G2 a1 a2 ⟨vs, upd_same, r2⟩ a3 a4 a5 a6
    · simp only [hz, if_false] at z; exact z.elim
def fAddO (a b : Option D) (e : Env) : Out D := match a, b with
  | some (.lst x), some (.lst y) => if x.length + y.length ≤ sizeLine then .ok (.lst (x ++ y)) e else .bad
  | _, _ => .bad
def fAdd (fa fb : M R) : M D := fun e => (fa e).bnd fun x e1 => (fb e1).bnd fun y e2 => fAddO (e2.rd x) (e2.rd y) e2
theorem rf_add {a b : Expr} {fa fb : M R} {pos : Pos} (ha : RE X cl F W a fa) (hb : RE X cl F W b fb) : RF X cl F W (.BinOp a .Add b pos) (fAdd fa fb) := by
  refine ⟨PE.imp (pe_op op_cat ha.pe hb.pe) fun σ H Q ⟨e, G, st, q⟩ => tD_then st q fun x e1 v1 H1 G1 s1 k1 r1 z => tD_then s1 z fun y e2 v2 H2 G2 s2 k2 r2 z => ?_⟩
  simp only [fAddO] at z
  split at z
  · rename_i x' y' hx hy
    split at z
    · rename_i hz
      obtain ⟨p1, u1, rfl, h1, q1⟩ := (s2.top (r1.mono k2.gg) hx).lst s2.ret.gh
      obtain ⟨p2, u2, rfl, h2, q2⟩ := (s2.top r2 hy).lst s2.ret.gh
      refine ⟨p1, p2, u1, u2, rfl, rfl, h1, h2, by rw [← q1.length, ← q2.length]; exact hz, fun p hp => ?_⟩
      obtain ⟨a1, a2, a3, a4, a5, a6⟩ := s2.new (o := .lst (u1 ++ u2)) (k1.trans k2) hp
      exact z p _ G2 a1 a2 ⟨u1 ++ u2, upd_same, q1.append q2⟩ a3 a4 a5 a6
    · exact z.elim
  · exact z.elim
def fListO (a : Option D) (e : Env) : Out D := match a with
  | some (.lst x) => .ok (.lst x) e
  | some (.tup x) => .ok (.lst x) e
  | _ => .bad
def fList (fs : M (List R)) : M D := fun e => (fs e).bnd fun rs e1 => match rs with
  | [r] => fListO (e1.rd r) e1
  | _ => .bad
theorem rf_list {x : Str} {p pos : Pos} {a : Expr} {es : List Expr} {fs : M (List R)} (hg : Gl X x) (hm : X.mg x = none) (hv : bootBuiltins x = some (.type "list")) (ha : RA X cl F W (a :: es) fs)
    (hn : x ≠ "__name__" := by decide) (hdb : (x == ("__debug__" : Str)) = false := by decide) (he : starEach (a :: es) X.env = (false, eval a X.env) :: starEach es X.env := by rfl) (hpl : (backTo pos (starEach es X.env)).any (·.1) = false := by rfl) :
    RF X cl F W (.Call (.Name x p) (a :: es) [] pos) (fList fs) := by
  refine ⟨PE.imp (pe_callTy call_list_of hg hm hv ha.pa hn hdb he hpl) fun σ H Q ⟨e, G, st, q⟩ => tA_then st q fun rs e1 vs H1 G1 s1 k1 r1 z => ?_⟩
  match rs, r1, z with
  | [], _, z => exact z.elim
  | _ :: _ :: _, _, z => exact z.elim
  | [r], .cons (v := v) rr .nil, z =>
    cases hd : e1.rd r with
    | none => simp only [fListO, hd] at z; exact z.elim
    | some d =>
      simp only [fListO, hd] at z
      have t := s1.top rr hd
      cases d with
      | lst l =>
        obtain ⟨p1, u1, rfl, h1, q1⟩ := t.lst s1.ret.gh
        refine ⟨p1, u1, rfl, .inl (SqL.of h1), fun p hp => ?_⟩
        obtain ⟨a1, a2, a3, a4, a5, a6⟩ := s1.new (o := .lst u1) k1 hp
        exact z p _ G1 a1 a2 ⟨u1, upd_same, q1⟩ a3 a4 a5 a6
      | tup l =>
        obtain ⟨p1, u1, rfl, h1, q1⟩ := t.tup s1.ret.gh
        refine ⟨p1, u1, rfl, .inr h1, fun p hp => ?_⟩
        obtain ⟨a1, a2, a3, a4, a5, a6⟩ := s1.new (o := .lst u1) k1 hp
        exact z p _ G1 a1 a2 ⟨u1, upd_same, q1⟩ a3 a4 a5 a6
      | _ => exact z.elim
/-- slot i is to own what stands at a -/
theorem Stt.setOwn {K : PySem.W.Frag} {e : Env} {σ : L2.St} {H G : Hp} {i : Nat} {d : D} {a : Addr} (st : Stt K cl F e σ H G) (o : Own K cl H G a d) (g : G a = none) (h0 : F.H0 a = none) (l : Loose F e σ a) : Stt K cl F (e.setS i (.own d)) (σ.set i (some (.ref a))) H G := by
  obtain ⟨ret, jh, len, slot, inj⟩ := st
  have hset : ∀ {j : Nat} {x : S}, (e.setS i (.own d)).s[j]? = some x → (j = i ∧ i < e.s.length ∧ x = .own d) ∨ (j ≠ i ∧ e.s[j]? = some x) := fun {j x} h => by
    by_cases hj : j = i
    · subst hj
      have hl : j < (e.setS j (.own d)).s.length := (List.getElem?_eq_some_iff.mp h).1
      have hl' : j < e.s.length := by simpa [Env.setS] using hl
      have z : (e.setS j (.own d)).s[j]? = some (.own d) := List.getElem?_set_self hl'
      rw [z] at h; cases h; exact .inl ⟨rfl, hl', rfl⟩
    · rw [setS_ne hj] at h; exact .inr ⟨hj, h⟩
  have hσ : ∀ {j : Nat}, j ≠ i → (σ.set i (some (.ref a)))[j]? = σ[j]? := fun hj => List.getElem?_set_ne (Ne.symm hj)
  have hσi : i < e.s.length → (σ.set i (some (.ref a)))[i]? = some (some (.ref a)) := fun hl => List.getElem?_set_self (by rw [len]; exact hl)
  refine ⟨ret, jh, by simp [Env.setS, len], fun j x h => ?_, fun j k d1 d2 p k1 k2 k3 k4 => ?_⟩
  · rcases hset h with ⟨rfl, hl, rfl⟩ | ⟨hj, h⟩
    · exact ⟨a, hσi hl, g, h0, o⟩
    · have z := slot j x h
      cases x with
      | un => trivial
      | dat d1 => obtain ⟨v1, z1, z2⟩ := z; exact ⟨v1, by rw [hσ hj]; exact z1, z2⟩
      | own d1 => obtain ⟨p, z1, z2, z3, z4⟩ := z; exact ⟨p, by rw [hσ hj]; exact z1, z2, z3, z4⟩
      | jar k => obtain ⟨p, z1, z2⟩ := z; exact ⟨p, z1, by rw [hσ hj]; exact z2⟩
  · rcases hset k1 with ⟨e1, hl, _⟩ | ⟨h1, q1⟩
    · rcases hset k2 with ⟨e2, _, _⟩ | ⟨h2, q2⟩
      · rw [e1, e2]
      · rw [e1, hσi hl] at k3; cases k3
        rw [hσ h2] at k4
        exact absurd k4 (l.2 k d2 q2)
    · rcases hset k2 with ⟨e2, hl, _⟩ | ⟨h2, q2⟩
      · rw [e2, hσi hl] at k4; cases k4
        rw [hσ h1] at k3
        exact absurd k3 (l.2 j d1 q1)
      · rw [hσ h1] at k3; rw [hσ h2] at k4; exact inj j k d1 d2 p q1 q2 k3 k4
def sOwn (i : Nat) (f : M D) : M Fl := fun e => (f e).bnd fun d e1 => .ok .nx (e1.setS i (.own d))
theorem tFr_st {K : PySem.W.Frag} {fa : M D} {k : D → Env → Out Fl} {σ : L2.St} {H G : Hp} {e : Env} {En : Ends} {Q : VK} (st : Stt K cl F e σ H G) (h : PostF K cl F W En G ((fa e).bnd k))
    (c : ∀ d e1 a H1 G1, Stt K cl F e1 σ H1 G1 → Kp F σ e H G e1 H1 G1 → Own K cl H1 G1 a d → G1 a = none → F.H0 a = none → Loose F e1 σ a → (∀ b o, H b = some o → Loose F e σ b → b ≠ a) → PostF K cl F W En G1 (k d e1) → Q (.ref a) H1) : tFr K cl F W fa σ H Q := by
  refine ⟨e, G, st, ?_⟩
  cases q : fa e with
  | ok r e1 =>
    rw [q] at h
    exact fun a H1 G1 s1 k1 o g h0 l n => c r e1 a H1 G1 s1 k1 o g h0 l n (PostF.mono (o := k r e1) h k1.gg)
  | exn x e1 => rw [q] at h; exact Xn.of h
  | bad => rw [q] at h; exact h
theorem rs_own {i : Nat} {x : Str} {a : Expr} {f : M D} {pos pos' : Pos} (hN : X.N.Nodup) (h : RF X cl F W a f) (hi : X.N[i]? = some x := by rfl) (hx : Loc X.env.scope x := by first | exact Or.inl rfl | exact Or.inr rfl)
    (hs : swapsWith a (some (.Name x pos')) pos.line X.env = pure false := by rfl) (hf : X.fn x = true ∨ X.env.scope.names.lookup x = some .local := by first | exact .inl rfl | exact .inr rfl) : RS X cl F W (.Assign [.Name x pos'] a pos) (sOwn i f) := by
  refine ⟨PS.imp (ps_set hN hi hx h.pe hs hf) fun D σ H ⟨e, G, st, q⟩ => tFr_st st q fun d e1 a H1 G1 s1 k1 o g h0 l n z => ?_⟩
  exact z _ H1 G1 (s1.setOwn o g h0 l) (.refl _)

/-! ### a, b = x, y -/
inductive P where
  | v (d : D) | n (d : D)
def PRel (K : PySem.W.Frag) (cl : Str → Addr) (F : Fra) (σ : L2.St) (e : Env) (H G : Hp) : P → V → Prop
  | .v d, u => Rep K cl G d u
  | .n d, u => ∃ a, u = .ref a ∧ Own K cl H G a d ∧ G a = none ∧ F.H0 a = none ∧ Loose F e σ a
def tP (K : PySem.W.Frag) (cl : Str → Addr) (F : Fra) (W : WX) (f : M P) : TE := fun σ H Q => ∃ e G, Stt K cl F e σ H G ∧ Post K cl F W σ (f e) fun p e' => ∀ u H' G', Stt K cl F e' σ H' G' → Kp F σ e H G e' H' G' → PRel K cl F σ e' H' G' p u →
  (∀ d, p = .n d → ∀ b o, H b = some o → Loose F e σ b → u ≠ .ref b) → Q u H'
structure RP (X : Cx) (cl : Str → Addr) (F : Fra) (W : WX) (x : Expr) (f : M P) : Prop where
  pe : PE X x (tP X.K cl F W f)
def pFrz (o : Option (D × Env)) : Out P := match o with
  | some (d, e) => .ok (.v d) e
  | none => .bad
def pV (f : M R) : M P := fun e => (f e).bnd fun r e1 => pFrz (e1.frz r)
def pN (f : M D) : M P := fun e => (f e).bnd fun d e1 => .ok (.n d) e1
theorem rp_v {x : Expr} {f : M R} (h : RE X cl F W x f) : RP X cl F W x (pV f) := by
  refine ⟨PE.imp h.pe fun σ H Q ⟨e, G, st, q⟩ => tD_then st q fun r e1 v H1 G1 s1 k1 r1 z => ?_⟩
  cases y : e1.frz r with
  | none => rw [y] at z; exact z.elim
  | some p =>
    obtain ⟨dv, e2⟩ := p
    rw [y] at z
    obtain ⟨G2, s2, k2, r2⟩ := frz_ok s1 r1 y
    exact z v H1 G2 s2 (k1.trans k2) r2 (fun d h => by cases h)
theorem rp_n {x : Expr} {f : M D} (h : RF X cl F W x f) : RP X cl F W x (pN f) := by
  refine ⟨PE.imp h.pe fun σ H Q ⟨e, G, st, q⟩ => ⟨e, G, st, post_imp (post_bnd q) fun d e1 z a H1 G1 s1 k1 o g h0 l n => ?_⟩⟩
  exact z (.ref a) H1 G1 s1 k1 ⟨a, rfl, o, g, h0, l⟩ fun _ _ b u q lb z => n b u q lb (by cases z; rfl)
def P.s : P → S
  | .v d => .dat d
  | .n d => .own d
def sPar (i j : Nat) (f g : M P) : M Fl := fun e => (f e).bnd fun p e1 => (g e1).bnd fun q e2 => .ok .nx ((e2.setS i p.s).setS j q.s)
theorem PRel.mono {K : PySem.W.Frag} {σ : L2.St} {e e' : Env} {H G H' G' : Hp} {p : P} {u : V} (h : PRel K cl F σ e H G p u) (k : Kp F σ e H G e' H' G') : PRel K cl F σ e' H' G' p u := by
  cases p with
  | v d => exact Rep.mono k.gg h
  | n d =>
    obtain ⟨a, h1, h2, h3, h4, h5⟩ := h
    obtain ⟨o, q⟩ := h2.ex
    obtain ⟨q1, q2⟩ := k.kp a o q h5
    exact ⟨a, h1, h2.mono (fun u z => (k.kp a u z h5).1) k.gg, q2 h3, h4, k.loose h5⟩
theorem Stt.setP {K : PySem.W.Frag} {σ : L2.St} {e : Env} {H G : Hp} {p : P} {u : V} (st : Stt K cl F e σ H G) (h : PRel K cl F σ e H G p u) (i : Nat) : Stt K cl F (e.setS i p.s) (σ.set i (some u)) H G := by
  cases p with
  | v d => exact st.set h
  | n d => obtain ⟨a, rfl, h2, h3, h4, h5⟩ := h; exact st.setOwn h2 h3 h4 h5
theorem rs_par {i j : Nat} {x y : Str} {a b : Expr} {f g : M P} {px py pt pos : Pos} {kt k2 pt2} (hc : X.calm = true) (hN : X.N.Nodup) (ha : RP X cl F W a f) (hb : RP X cl F W b g)
    (hw : swappedStores [.Tuple [.Name x px, .Name y py] kt
                                                                                                              pt] (.Tuple [a, b] k2 pt2) X.env = pure (some [x, y]))
    (hi : X.N[i]? = some x := by rfl) (hj : X.N[j]? = some y := by rfl) (hij : i ≠ j := by decide)
    (hx : X.env.scope.names.lookup x = some .local := by rfl) (hy : X.env.scope.names.lookup y = some .local := by rfl)
    (hs : swapsWithSole [.Tuple [.Name x px, .Name y py] kt pt] (.Tuple [a, b] k2 pt2) pos.line X.env = pure false := by rfl)
    (h1 : starEach [a, b] X.env = (false, eval a X.env) :: starEach [b] X.env := by rfl) (h2 : starEach [b] X.env = (false, eval b X.env) :: starEach [] X.env := by rfl) :
    RS X cl F W (.Assign [.Tuple [.Name x px, .Name y py] kt pt] (.Tuple [a, b] k2 pt2) pos) (sPar i j f g) := by
  refine ⟨PS.imp (ps_par hc hN hi hj hij hx hy (pa_cons ha.pe (pa_cons hb.pe pa_nil h2) h1) hw hs) fun D σ H ⟨e, G, st, q⟩ => ⟨e, G, st, ?_⟩⟩
  cases hf : f e with
  | bad => simp only [sPar, hf] at q; exact q
  | exn x e1 => simp only [sPar, hf] at q; exact Xn.of q
  | ok p e1 =>
    simp only [sPar, hf] at q
    intro u H1 G1 s1 k1 r1 n1
    refine ⟨e1, G1, s1, ?_⟩
    cases hg : g e1 with
    | bad => simp only [Out.bnd, hg] at q; exact q
    | exn x e2 => simp only [Out.bnd, hg] at q; exact Xn.of q
    | ok p2 e2 =>
      simp only [Out.bnd, hg] at q
      intro u2 H2 G2 s2 k2 r2 n2
      refine ⟨u, u2, rfl, q _ H2 G2 ?_ (k1.gg.trans k2.gg)⟩
      have r1' := r1.mono k2
      have s3 := s2.setP r1' i
      refine s3.setP ?_ j
      cases p2 with
      | v d => exact r2
      | n d2 =>
        obtain ⟨b2, rfl, o2, g2, h02, l2⟩ := r2
        refine ⟨b2, rfl, o2, g2, h02, l2.1, fun k d hk hσ => ?_⟩
        by_cases hki : k = i
        · subst hki
          have hl : k < e2.s.length := by
            have := (List.getElem?_eq_some_iff.mp hk).1
            simpa [Env.setS] using this
          have e3 : (e2.setS k p.s).s[k]? = some p.s := List.getElem?_set_self hl
          rw [e3] at hk
          rw [List.getElem?_set_self (by rw [s2.len]; exact hl)] at hσ
          cases hσ
          cases p with
          | v d => cases hk
          | n d1 =>
            obtain ⟨b1, e4, o1, g1, h01, l1⟩ := r1
            cases e4
            obtain ⟨oo, qq⟩ := o1.ex
            exact n2 d2 rfl b2 oo qq l1 rfl
        · rw [setS_ne hki] at hk
          rw [List.getElem?_set_ne (Ne.symm hki)] at hσ
          exact l2.2 k d hk hσ
end
end DL

namespace DL
open PySem L2 PySem.Spec PyProof.Rows

section
variable {K : PySem.W.Frag} {cl : Str → Addr} {F : Fra} {e e' : Env} {σ : L2.St} {H G H' G' : Hp}
/-- behind a call that was lent a loose object alone -/
theorem Stt.calledL (st : Stt K cl F e σ H G) {a : Addr} {x : D} (l : Loose F e σ a) (h0 : F.H0 a = none) (r : Ret K cl ⟨H, G, [a]⟩ H' G' [x]) : Stt K cl F e σ H' G' ∧ ∀ b o, b ≠ a → H b = some o → H' b = some o ∧ (G b = none → G' b = none) := by
  have hk : ∀ {b : Addr} {o : HO}, b ≠ a → H b = some o → H' b = some o := fun {b o} n q => r.fr b o q (by simpa using n)
  have hg : ∀ {b : Addr} {o : HO}, H b = some o → G b = none → G' b = none := fun {b o} q n => r.fg b o q n
  obtain ⟨⟨gh, g0, jr, fr, fg⟩, jh, len, slot, inj⟩ := st
  refine ⟨⟨⟨r.gh, g0.trans r.g0, ⟨jr.len, jr.nd, fun k b d k1 k2 => ?_⟩, fun b o q hn => ?_, fun b o q hn => ?_⟩, jh, len, fun i y hy => ?_, inj⟩, fun b o n q => ⟨hk n q, fun g => hg q g⟩⟩
  · obtain ⟨q1, q2⟩ := jr.at_ k b d k1 k2
    obtain ⟨o, q3⟩ := q2.ex
    have nb : b ≠ a := fun z => l.1 (z ▸ List.mem_of_getElem? k1)
    exact ⟨hg q3 q1, q2.mono (fun o q => hk nb q) r.g0⟩
  · have nb : b ≠ a := fun z => by rw [z, h0] at q; cases q
    exact hk nb (fr b o q hn)
  · by_cases hp : b ∈ F.js
    · obtain ⟨k, hk'⟩ := List.getElem?_of_mem hp
      have hl : k < e.j.length := by rw [jr.len]; exact (List.getElem?_eq_some_iff.mp hk').1
      obtain ⟨q1, q2⟩ := jr.at_ k b _ hk' (List.getElem?_eq_getElem hl)
      obtain ⟨o, q3⟩ := q2.ex
      exact hg q3 q1
    · exact hg (fr b o q hp) (fg b o q hn)
  · have z := slot i y hy
    cases y with
    | un => trivial
    | dat d => obtain ⟨v, z1, z2⟩ := z; exact ⟨v, z1, z2.mono r.g0⟩
    | own d =>
      obtain ⟨b, z1, z2, z3, z4⟩ := z
      obtain ⟨o, q3⟩ := z4.ex
      have nb : b ≠ a := fun w => l.2 i d hy (w ▸ z1)
      exact ⟨b, z1, hg q3 z2, z3, z4.mono (fun o q => hk nb q) r.g0⟩
    | jar k => exact z
end

/-! ### fields, properties, methods -/
def lookD (f : Str) : List Str → List D → Option D
  | n :: ns, d :: ds => if n = f then some d else lookD f ns ds
  | _, _ => none
def fldD (cs : List Str) (f : Str) : D → Option D
  | .obj c ns l => if c ∈ cs then lookD f ns l else none
  | _ => none
def cFld (cs : List Str) (f : Str) (g : M R) : M R := fun e => (g e).bnd fun r e1 => opt ((e1.rd r).bind (fldD cs f)) e1
/-- the object of class c that r is, as data -/
def isObjC (c : Str) : D → Bool
  | .obj c' _ _ => decide (c' = c)
  | _ => false
def propO (c : Str) (Φ : Fn) (o : Option (D × Env)) : Out R := match o with
  | some (d, e) => if isObjC c d then callO e (Φ [.dat d] []) else .bad
  | none => .bad
def cProp (c : Str) (Φ : Fn) (g : M R) : M R := fun e => (g e).bnd fun r e1 => propO c Φ (e1.frz r)
def hasN (m : Str) : D → Bool
  | .obj _ ns _ => ns.contains m
  | _ => true
/-- o.m(..) of an object of class c; data alone -/
def methO (c m : Str) (Φ : Fn) (o : Option (D × Env)) (fs : M (List R)) : Out R := match o with
  | some (d, e) => if isObjC c d && !hasN m d then (fs e).bnd fun rs e1 => (match e1.frzs rs with
    | some (ds, e2) => callO e2 (Φ (.dat d :: ds.map A.dat) [])
    | none => .bad) else .bad
  | none => .bad
def cMeth (c m : Str) (Φ : Fn) (g : M R) (fs : M (List R)) : M R := fun e => (g e).bnd fun r e1 => methO c m Φ (e1.frz r) fs
/-- the wish hangs on no slots -/
def SI (W : WX) : Prop := ∀ c d σ σ' H, W c d σ H → W c d σ' H
section
variable {X : Cx} {cl : Str → Addr} {F : Fra} {W : WX}
theorem lookup_zip {K : PySem.W.Frag} {G : Hp} {f : Str} : ∀ {ns : List Str} {l : List D} {vs : List V} {d : D}, lookD f ns l = some d → RepL K cl G l vs → ∃ v, (ns.zip vs).lookup f = some v ∧ Rep K cl G d v
  | [], _, _, _, h, _ => by cases h
  | _ :: _, [], _, _, h, _ => by cases h
  | n :: ns, x :: l, _, d, h, .cons (v := v) (vs := vs) r t => by
    by_cases hn : n = f
    · subst hn
      have h : (if n = n then some x else lookD n ns l) = some d := h
      rw [if_pos rfl] at h
      cases h
      exact ⟨v, by simp, r⟩
    · have h : (if n = f then some x else lookD f ns l) = some d := h
      rw [if_neg hn] at h
      obtain ⟨v', h1, h2⟩ := lookup_zip h t
      have hb : (f == n) = false := beq_eq_false_iff_ne.mpr fun z => hn z.symm
      exact ⟨v', by show List.lookup f ((n, v) :: ns.zip vs) = _; simp only [List.lookup, hb]; exact h1, h2⟩
theorem lookup_zip_none {α : Type} {f : Str} : ∀ {ns : List Str} {vs : List α}, ns.contains f = false → (ns.zip vs).lookup f = none
  | [], _, _ => rfl
  | _ :: _, [], _ => rfl
  | n :: ns, v :: vs, h => by
    simp only [List.contains_cons, Bool.or_eq_false_iff] at h
    show List.lookup f ((n, v) :: ns.zip vs) = none
    simp only [List.lookup, h.1]
    exact lookup_zip_none h.2
theorem Top.obj {K : PySem.W.Frag} {H G : Hp} {c : Str} {ns : List Str} {l : List D} {v : V} (g : Same G H) (h : Top K cl H G (.obj c ns l) v) : ∃ a dx vs, v = .ref a ∧ H a = some (.ins (cl c) dx (ns.zip vs)) ∧ ns.length = vs.length ∧ RepL K cl G l vs := by
  rcases h with h | ⟨a, rfl, hn, dx, vs, h1, h3, h2⟩
  · cases h with
    | obj h l r => exact ⟨_, _, _, rfl, g _ _ h, l, r⟩
  · exact ⟨_, dx, vs, rfl, h1, h3, h2⟩
theorem re_fld {a : Expr} {f : Str} {g : M R} {pos : Pos} {cs : List Str} (hc : ∀ c ∈ cs, Cls X.K (cl c) ∧ NoAttr X.K (cl c) f) (h : RE X cl F W a g) (hb : attributeBase a f X.env (eval a X.env) = eval a X.env := by rfl) : RE X cl F W (.Attribute a f pos) (cFld cs f g) := by
  refine ⟨PE.imp (pe_fld h.pe hb) fun σ H Q ⟨e, G, st, q⟩ => tD_then st q fun r e1 v H1 G1 s1 k1 r1 z => ?_⟩
  obtain ⟨dz, z1, z⟩ := post_opt z
  obtain ⟨d, hd, hf⟩ := Option.bind_eq_some_iff.mp z1
  have t := s1.top r1 hd
  cases d with
  | obj c ns l =>
    simp only [fldD] at hf
    split at hf
    · rename_i hm
      obtain ⟨a, dx, vs, rfl, h1, hl, rl⟩ := t.obj s1.ret.gh
      obtain ⟨v', h2, h3⟩ := lookup_zip hf rl
      exact ⟨a, _, dx, _, v', rfl, h1, (hc c hm).1, (hc c hm).2, h2, z v' H1 G1 s1 k1 h3⟩
    · cases hf
  | _ => cases hf
theorem isObjC_inv {c : Str} {d : D} (h : isObjC c d = true) : ∃ ns l, d = .obj c ns l := by
  cases d with
  | obj c' ns l =>
    have e : c' = c := of_decide_eq_true h
    subst e
    exact ⟨ns, l, rfl⟩
  | _ => cases h
/-- a call of a def, data alone, by the state -/
theorem callO_D {Φ : Fn} {ds : List D} {vs : List V} {σ : L2.St} {H G : Hp} {e : Env} {q : R → Env → Prop} {Q : VK} {E : XK} (st : Stt X.K cl F e σ H G) (r : RepL X.K cl G ds vs) (h : Post X.K cl F W σ (callO e (Φ (ds.map A.dat) [])) q)
    (hQ : ∀ d v H' G', Stt X.K cl F e σ H' G' → Kp F σ e H G e H' G' → Rep X.K cl G' d v → q (.val d) e → Q v H') (hE : ∀ c d H', W c d σ H' → E c d H') : spD X.K cl Φ vs H Q E := by
  refine ⟨ds.map A.dat, [], [], G, st.ret.gh, argsOk_dat r, ⟨rfl, List.nodup_nil, fun k a d h => by simp at h⟩, ?_⟩
  cases o : Φ (ds.map A.dat) [] with
  | bad => rw [o] at h; exact h.elim
  | ok d j =>
    rw [o] at h
    cases j with
    | cons => exact h.elim
    | nil =>
      intro v H' G' r rv
      obtain ⟨s3, k3⟩ := st.called r
      exact hQ d v H' G' s3 k3 rv h
  | exn x j =>
    rw [o] at h
    cases j with
    | cons => exact h.elim
    | nil =>
      intro cls dd H' G' r ex
      obtain ⟨s3, k3⟩ := st.called r
      exact hE _ _ _ (h cls dd H' G' s3 ex)
variable {k : Nat} {f pr : Addr} {fd : FuncData} {ps : List Str} {Φ : Fn} {c m : Str} {a : Expr} {es : List Expr} {g : M R} {fs : M (List R)} {pos apos : Pos}
theorem re_prop (hc : Cls X.K (cl c)) (hp : PropOf X.K (cl c) m pr f) (Fn : FnOk X.prog X.w X.K X.mg X.base (L2.CX X.prog X.w) k f fd ps (spD X.K cl Φ)) (hr : Room (k + 1) X.A) (hb : Binds X.K fd ps []) (hnx : ∀ d x j, Φ [.dat d] [] ≠ .exn x j)
    (h : RE X cl F W a g) (hab : attributeBase a m X.env (eval a X.env) = eval a X.env := by rfl) : RE X cl F W (.Attribute a m pos) (cProp c Φ g) := by
  refine ⟨PE.imp (pe_prop (E := E0) (dvs := []) h.pe hc hp Fn hr hb .nil passL hab) fun σ H Q ⟨e, G, st, q⟩ => tD_then st q fun r e1 v H1 G1 s1 k1 r1 z => ?_⟩
  cases y : e1.frz r with
  | none => rw [y] at z; exact z.elim
  | some p =>
    obtain ⟨d, e2⟩ := p
    rw [y] at z
    obtain ⟨G2, s2, k2, r2⟩ := frz_ok s1 r1 y
    simp only [propO] at z
    split at z
    · rename_i hi
      obtain ⟨ns, l, rfl⟩ := isObjC_inv hi
      have r2' := r2
      cases r2 with
      | obj h1 hl rl =>
        refine ⟨_, _, _, rfl, s2.ret.gh _ _ h1, ?_⟩
        refine callO_D (Φ := Φ) (W := fun _ _ _ _ => False) (E := E0) (ds := [.obj c ns l]) (q := fun r e' => ∀ v H' G', Stt X.K cl F e' σ H' G' → Kp F σ e H G e' H' G' → RR X.K cl σ G' r v → Q v H') s2 (.cons r2' .nil) ?_ (fun d v H' G' s3 k3 rv hq => hq v H' G' s3 ((k1.trans k2).trans k3) rv) (fun _ _ _ z => z)
        cases o : Φ ([D.obj c ns l].map A.dat) [] with
        | bad => rw [show Φ [.dat (.obj c ns l)] [] = _ from o] at z; exact z.elim
        | exn x j => exact (hnx _ _ _ o).elim
        | ok d j =>
          rw [show Φ [.dat (.obj c ns l)] [] = _ from o] at z
          cases j with
          | cons => exact z.elim
          | nil => exact z
    · exact z.elim
theorem re_meth (hc : Cls X.K (cl c)) (hm : Meth X.K (cl c) m f) (Fn : FnOk X.prog X.w X.K X.mg X.base (L2.CX X.prog X.w) k f fd ps (spD X.K cl Φ)) (hr : Room k X.A) (tk : Takes X W) (hW : SI W) (hb : Binds X.K fd ps [])
    {x : Expr} {xs : List Expr} (h : RE X cl F W a g) (ha : RA X cl F W (x :: xs) fs) {pl : Sem Bool} (hst : starEach (x :: xs) X.env = (false, eval x X.env) :: starEach xs X.env := by rfl) (hpl : (backTo pos (starEach xs X.env)).any (·.1) = false := by rfl)
    (ht : eval (.Call (.Attribute a m apos) (x :: xs) [] pos) X.env = (do
      let ov ← eval a X.env
      standAt apos.atName
      let (f, first) ← holding
                                                                                                              [ov] (getMethod ov m pl)
      callWith pos f first (backTo pos (starEach (x :: xs) X.env)) (backToKw pos (keywordEach [] X.env))) := by rfl) : RE X cl F W (.Call (.Attribute a m apos) (x :: xs) [] pos) (cMeth c m Φ g fs) := by
  refine ⟨PE.imp (pe_meth (pl := pl) (E := fun c d H => ∃ σ, W c d σ H) (dvs := []) h.pe hc hm Fn hr hb .nil (passes_call tk fun c d σ H ⟨σ', z⟩ => hW c d σ' σ H z) ha.pa hst hpl ht) fun σ H Q ⟨e, G, st, q⟩ => tD_then st q fun r e1 v H1 G1 s1 k1 r1 z => ?_⟩
  cases y : e1.frz r with
  | none => rw [y] at z; exact z.elim
  | some p =>
    obtain ⟨d, e2⟩ := p
    rw [y] at z
    obtain ⟨G2, s2, k2, r2⟩ := frz_ok s1 r1 y
    simp only [methO] at z
    split at z
    · rename_i hi
      obtain ⟨hi1, hi2⟩ := Bool.and_eq_true_iff.mp hi
      obtain ⟨ns, l, rfl⟩ := isObjC_inv hi1
      have r2' := r2
      cases r2 with
      | obj h1 hl rl =>
        refine ⟨_, _, _, rfl, s2.ret.gh _ _ h1, lookup_zip_none (by simpa [hasN] using hi2), tA_then s2 z fun rs e3 vs H3 G3 s3 k3 r3 z => ?_⟩
        rw [List.append_nil]
        cases y3 : e3.frzs rs with
        | none => rw [y3] at z; exact z.elim
        | some p3 =>
          obtain ⟨ds, e4⟩ := p3
          rw [y3] at z
          obtain ⟨G4, s4, k4, r4⟩ := frzs_ok s3 r3 y3
          exact callO_D (Φ := Φ) (ds := .obj c ns l :: ds) s4 (.cons ((r2'.mono k3.gg).mono k4.gg) r4) z (fun d v H' G' s5 k5 rv hq => hq v H' G' s5 ((((k1.trans k2).trans k3).trans k4).trans k5) rv) (fun c d H' z => ⟨σ, z⟩)
    · exact z.elim

/-! ### C(..) -/
def makeO (c : Str) (e : Env) (o : OutF) : Out R := match o with
  | .ok .non [.obj c' ns l] => if c' = c then .ok (.val (.obj c ns l)) e else .bad
  | .exn x [_] => .exn x e
  | _ => .bad
def makeD (c : Str) (Φ : Fn) (o : Option (List D × Env)) : Out R := match o with
  | some (ds, e) => makeO c e (Φ (.jar 0 :: ds.map A.dat) [.obj c [] []])
  | none => .bad
def cMake (c : Str) (Φ : Fn) (fs : M (List R)) : M R := fun e => (fs e).bnd fun rs e1 => makeD c Φ (e1.frzs rs)
theorem make_D {ds : List D} {vs : List V} {σ : L2.St} {H G : Hp} {e : Env} {q : R → Env → Prop} {Q : VK} {E : XK} (st : Stt X.K cl F e σ H G) (r : RepL X.K cl G ds vs) (h : Post X.K cl F W σ (makeO c e (Φ (.jar 0 :: ds.map A.dat) [.obj c [] []])) q)
    (hQ : ∀ d v H' G', Stt X.K cl F e σ H' G' → Kp F σ e H G e H' G' → Rep X.K cl G' d v → q (.val d) e → Q v H') (hE : ∀ c d H', W c d σ H' → E c d H') :
    ∀ x dx, H x = none → H dx = none → dx ≠ x → spD X.K cl Φ (.ref x :: vs) (upd (upd H dx (.own x)) x (.ins (cl c) dx [])) (fun v H2 => v = .non ∧ Q (.ref x) H2) E := by
  intro x dx hx hdx ne
  obtain ⟨lx, x0⟩ := st.fresh hx
  have hx1 : upd H dx (.own x) x = none := by rw [upd_ne ne.symm]; exact hx
  have s1 := (st.layL (o := .own x) hdx).layL (o := .ins (cl c) dx []) hx1
  have g1 : G x = none := st.ret.gh.free hx
  have kp1 : ∀ b o, H b = some o → upd (upd H dx (.own x)) x (.ins (cl c) dx []) b = some o := fun b o q => by rw [upd_ne (ne_of_none q hx), upd_ne (ne_of_none q hdx)]; exact q
  refine ⟨.jar 0 :: ds.map A.dat, [.obj c [] []], [x], G, s1.ret.gh, .jar rfl (argsOk_dat r), ⟨rfl, by simp, fun k a d h1 h2 => ?_⟩, ?_⟩
  · cases k with
    | zero => cases h1; cases h2; exact ⟨g1, dx, [], upd_same, rfl, .nil⟩
    | succ k => simp at h1
  · cases o : Φ (.jar 0 :: ds.map A.dat) [.obj c [] []] with
    | bad => rw [o] at h; exact h.elim
    | ok d j =>
      rw [o] at h
      intro v H' G' r rv
      cases d with
      | non =>
        match j, h, r with
        | [.obj c' ns l], h, r =>
          simp only [makeO] at h
          split at h
          · rename_i ec
            subst ec
            cases rv
            obtain ⟨s2, k2⟩ := s1.calledL lx x0 r
            obtain ⟨gx, dx', us, hx2, hl, ru⟩ := r.jars.at_ 0 x _ rfl rfl
            refine ⟨rfl, hQ _ (.ref x) H' _ (s2.addG hx2 gx x0 lx) ⟨r.g0.trans (same_upd gx), fun b o q l => ?_, fun i d h => ⟨d, h⟩⟩ (.obj upd_same hl (ru.mono (same_upd gx))) h⟩
            have nb := ne_of_none q hx
            obtain ⟨q1, q2⟩ := k2 b o nb (kp1 b o q)
            exact ⟨q1, fun g => by rw [upd_ne nb]; exact q2 g⟩
          · exact h.elim
        | [], h, r => exact h.elim
        | [.non], h, r | [.bl _], h, r | [.int _], h, r | [.str _], h, r | [.tup _], h, r | [.lst _], h, r | [.dct _ _], h, r | [.dcT _ _], h, r | [.scr _], h, r => exact h.elim
        | .non :: _ :: _, h, r | .bl _ :: _ :: _, h, r | .int _ :: _ :: _, h, r | .str _ :: _ :: _, h, r | .tup _ :: _ :: _, h, r | .lst _ :: _ :: _, h, r | .dct _ _ :: _ :: _, h, r | .dcT _ _ :: _ :: _, h, r | .scr _ :: _ :: _, h, r | .obj _ _ _ :: _ :: _, h, r => exact h.elim
      | _ => exact h.elim
    | exn y j =>
      rw [o] at h
      intro cls dd H' G' r ex
      match j, h, r with
      | [d], h, r =>
        obtain ⟨s2, k2⟩ := s1.calledL lx x0 r
        exact hE _ _ _ (h cls dd H' G' s2 ex)
      | [], h, r => exact h.elim
      | _ :: _ :: _, h, r => exact h.elim
theorem re_make {x : Expr} {xs : List Expr} {p : Pos} (M : Mk X.K (cl c) f) (Fn : FnOk X.prog X.w X.K X.mg X.base (L2.CX X.prog X.w) k f fd ps (spD X.K cl Φ)) (hr : Room (k + 1) X.A) (tk : Takes X W) (hW : SI W) (hg : Gl X c) (hm : X.mg c = some (.ref (cl c))) (hb : Binds X.K fd ps [])
    (ha : RA X cl F W (x :: xs) fs) (hdb : (c == ("__debug__" : Str)) = false := by decide) (he : starEach (x :: xs) X.env = (false, eval x X.env) :: starEach xs X.env := by rfl) (hpl : (backTo pos (starEach xs X.env)).any (·.1) = false := by rfl) : RE X cl F W (.Call (.Name c p) (x :: xs) [] pos) (cMake c Φ fs) := by
  refine ⟨PE.imp (pe_make (E := fun c d H => ∃ σ, W c d σ H) (dvs := []) M Fn hr hg hm hb .nil (passes_call tk fun c d σ H ⟨σ', z⟩ => hW c d σ' σ H z) ha.pa hdb he hpl) fun σ H Q ⟨e, G, st, q⟩ => tA_then st q fun rs e1 vs H1 G1 s1 k1 r1 z => ?_⟩
  cases y : e1.frzs rs with
  | none => rw [y] at z; exact fun _ _ _ _ _ => z.elim
  | some pr =>
    obtain ⟨ds, e2⟩ := pr
    rw [y] at z
    obtain ⟨G2, s2, k2, r2⟩ := frzs_ok s1 r1 y
    intro x dx hx hdx ne
    have := make_D (Q := Q) (E := fun c d H => ∃ σ, W c d σ H) s2 r2 z (fun d v H' G' s5 k5 rv hq => hq v H' G' s5 ((k1.trans k2).trans k5) rv) (fun c d H' z => ⟨σ, z⟩) x dx hx hdx ne
    rw [List.append_nil]
    exact this
/-- self.f = e, self lent or owned -/
def putN (f : Str) (d : D) : List Str → List D → List Str × List D
  | n :: ns, x :: xs => if n = f then (n :: ns, d :: xs) else (n :: (putN f d ns xs).1, x :: (putN f d ns xs).2)
  | _, _ => ([f], [d])
def fldSet (cs : List Str) (i : Nat) (f : Str) (d : D) (e : Env) : Out Fl := match e.rd (.whole i) with
  | some (.obj c ns l) => if c ∈ cs ∧ ns.length < 1000 then outE (e.put i (.obj c (putN f d ns l).1 (putN f d ns l).2)) fun e3 => .ok .nx e3 else .bad
  | _ => .bad
def fldSetO (cs : List Str) (i : Nat) (f : Str) (o : Option (D × Env)) : Out Fl := match o with
  | some (d, e) => fldSet cs i f d e
  | none => .bad
def sFldSet (cs : List Str) (i : Nat) (f : Str) (g : M R) : M Fl := fun e => (g e).bnd fun r e1 => fldSetO cs i f (e1.frz r)
theorem putN_zip {K : PySem.W.Frag} {G : Hp} {f : Str} {d : D} {v : V} (r : Rep K cl G d v) : ∀ {ns : List Str} {l : List D} {vs : List V}, ns.length = vs.length → RepL K cl G l vs → ∃ us, putF f v (ns.zip vs) = (putN f d ns l).1.zip us ∧ (putN f d ns l).1.length = us.length ∧ RepL K cl G (putN f d ns l).2 us
  | [], [], [], _, _ => ⟨[v], rfl, rfl, .cons r .nil⟩
  | [], _ :: _, [], _, t => by cases t
  | [], _, _ :: _, h, _ => by simp at h
  | _ :: _, _, [], h, _ => by simp at h
  | _ :: _, [], _ :: _, _, t => by cases t
  | n :: ns, x :: l, w :: vs, h, .cons rw t => by
    have hl : ns.length = vs.length := by simpa using h
    by_cases hn : n = f
    · subst hn
      refine ⟨v :: vs, ?_, ?_, ?_⟩
      · show (if n = n then (n, v) :: ns.zip vs else _) = _
        rw [if_pos rfl]; simp [putN]
      · simp [putN, hl]
      · simp only [putN, if_true]; exact .cons r t
    · obtain ⟨us, e1, e2, e3⟩ := putN_zip (f := f) r hl t
      refine ⟨w :: us, ?_, ?_, ?_⟩
      · show (if n = f then (n, v) :: ns.zip vs else (n, w) :: putF f v (ns.zip vs)) = _
        rw [if_neg hn, e1]; simp [putN, hn]
      · simp [putN, hn, e2]
      · simp only [putN, hn, if_false]; exact .cons rw e3
theorem rs_fld (i : Nat) {x : Str} {b : Expr} {f : Str} {g : M R} {p pos pos' : Pos} {cs : List Str} (hc : ∀ c ∈ cs, Cls X.K (cl c) ∧ NoAttr X.K (cl c) f) (h : RE X cl F W b g) (hN : X.N[i]? = some x := by rfl) (hvis : Vis X.env.scope x := by first | exact Or.inl rfl | exact Or.inr (Or.inl rfl) | exact Or.inr (Or.inr rfl)) (hd : (x == ("__debug__" : Str)) = false := by decide)
    (hcd : (x == ("__classdict__" : Str)) = false := by decide) (hs : swapsWith b (some (.Attribute (.Name x p) f pos')) pos.line X.env = pure false := by rfl) : RS X cl F W (.Assign [.Attribute (.Name x p) f pos'] b pos) (sFldSet cs i f g) := by
  refine ⟨PS.imp (ps_fld (pe_var hN hvis hd hcd) h.pe hs) fun D σ H ⟨e, G, st, q⟩ => tD_st st q fun r e1 v H1 G1 s1 k1 r1 z => ?_⟩
  cases y : e1.frz r with
  | none => rw [y] at z; exact z.elim
  | some pq =>
    obtain ⟨d, e2⟩ := pq
    rw [y] at z
    obtain ⟨G2, s2, k2, r2⟩ := frz_ok s1 r1 y
    simp only [fldSetO, fldSet] at z
    cases h0 : e2.rd (.whole i) with
    | none => rw [h0] at z; exact z.elim
    | some d0 =>
      rw [h0] at z
      obtain ⟨a0, hs0, o0⟩ := s2.ref_at h0
      cases d0 with
      | obj c ns l =>
        simp only at z
        split at z
        · rename_i hcs
          obtain ⟨dx, vs, hv, hl, rv⟩ := o0
          obtain ⟨us, eu, el, ru⟩ := putN_zip (f := f) r2 hl rv
          cases hp : e2.put i (.obj c (putN f d ns l).1 (putN f d ns l).2) with
          | none => rw [hp] at z; exact z.elim
          | some e4 =>
            rw [hp] at z
            refine ⟨_, hs0, a0, _, dx, _, rfl, hv, (hc c hcs.1).1, (hc c hcs.1).2, by rw [List.length_zip, ← hl, Nat.min_self]; exact hcs.2, ?_⟩
            obtain ⟨s4, k4⟩ := s2.put (o := .ins (cl c) dx (putF f v (ns.zip vs))) hs0 h0 hp fun H' h => ⟨dx, us, by rw [h, eu], el, ru⟩
            exact z σ _ _ s4 k2.gg
        · exact z.elim
      | _ => exact z.elim
end
end DL

namespace DL
open PySem L2 PySem.Spec PyProof.Rows

/-! ### the in of an own class -/
def askOwn (c : Str) (Φ : Fn) (o x : D) : Option Bool := if isObjC c o then (match Φ [.dat o, .dat x] [] with
  | .ok (.bl b) [] => some b
  | _ => none) else none
def inOwn (c : Str) (Φ : Fn) (x o : D) : Option D := (askOwn c Φ o x).map D.bl
def notInOwn (c : Str) (Φ : Fn) (x o : D) : Option D := (askOwn c Φ o x).map fun b => D.bl (!b)
section
variable {X : Cx} {cl : Str → Addr} {F : Fra} {W : WX} {k : Nat} {f : Addr} {fd : FuncData} {ps : List Str} {Φ : Fn} {c : Str}
theorem askOwn_ok {H G : Hp} {x y : V} {dx o : D} {b : Bool} (g : Same G H) (tx : Top X.K cl H G dx x) (ty : Top X.K cl H G o y) (h : askOwn c Φ o dx = some b) :
    ∃ a dd fs, y = .ref a ∧ H a = some (.ins (cl c) dd fs) ∧ spD X.K cl Φ [.ref a, x] H (fun v H' => v = .bl b ∧ Same H H') E0 := by
  unfold askOwn at h
  split at h
  · rename_i hi
    obtain ⟨ns, l, rfl⟩ := isObjC_inv hi
    have ry := ty.rep g
    obtain ⟨a, dd, vs, rfl, ha, _, _⟩ := ty.obj g
    refine ⟨a, dd, _, rfl, ha, [.dat (.obj c ns l), .dat dx], [], [], H, .refl _, .dat ry (.dat (tx.rep g) .nil), ⟨rfl, List.nodup_nil, fun k a d h => by simp at h⟩, ?_⟩
    split at h
    · rename_i b' e
      cases h
      rw [e]
      intro v H' G' r rv
      cases rv
      exact ⟨rfl, fun b o q => r.fr b o q (by simp)⟩
    · cases h
  · cases h
theorem spD.mono {K : PySem.W.Frag} {vs : List V} {H : Hp} {Q Q' : VK} {E : XK} (h : spD K cl Φ vs H Q E) (i : ∀ v H', Q v H' → Q' v H') : spD K cl Φ vs H Q' E := by
  obtain ⟨as, j, js, G, g1, g2, g3, g4⟩ := h
  refine ⟨as, j, js, G, g1, g2, g3, ?_⟩
  cases o : Φ as j with
  | bad => rw [o] at g4; exact g4.elim
  | ok d j' => rw [o] at g4; exact fun v H' G' r rv => i _ _ (g4 v H' G' r rv)
  | exn y j' => rw [o] at g4; exact g4
/-- what x in o does, o of an own class -/
def rOwn (X : Cx) (cl : Str → Addr) (c : Str) (Φ : Fn) (nt : Bool) : R2 := fun x y H Q => ∃ a dd fs, y = .ref a ∧ H a = some (.ins (cl c) dd fs) ∧ spD X.K cl Φ [.ref a, x] H (fun v H' => ∃ b, v = .bl b ∧ Q (.bl (b != nt)) H') E0
theorem op_own (hs : PySem.W.findIn X.K (.ref (cl c)) "__contains__" = some (some (.ref f))) (hf : PySem.W.isFn X.K (.ref f) = true) (Fn : FnOk X.prog X.w X.K X.mg X.base (L2.CX X.prog X.w) k f fd ps (spD X.K cl Φ)) (hr : Room k X.A) (hb : Binds X.K fd ps [])
    {pins : List (Addr × Obj)} {s : Shared} {σ : L2.St} {H : Hp} {x : V} {v : Value} {a dd : Addr} {fs : List (Str × V)} {P : Bool → Shared → Prop} (I : Inv X pins σ H s) (rx : RelV x v) (ha : H a = some (.ins (cl c) dd fs)) {b : Bool}
    (q : spD X.K cl Φ [.ref a, x] H (fun v H' => v = .bl b ∧ ∀ s', Inv X pins σ H' s' → P b s') E0) : wpAny (model X.prog X.w) X.A (contains (.ref a) v) P X.xe s := by
  obtain ⟨mA, O, _, _, _, _⟩ := ins_get I.hok ha
  obtain ⟨od, J, _⟩ := O.look
  have Xi := I.kIn
  unfold contains
  refine wpAny_holding (wpAny_bind (wpAny_bind (J.type.here ((PySem.W.looks_findIn Xi hs).here ?_))))
  rw [if_neg (by simp)]
  refine wpAny_bind (PySem.W.unlessNone_K Xi J hs hf (wpAny_mono (run_fn (dvs := []) (ds := []) (E := E0) Fn hr hb .nil passL I (.cons (show RelV (.ref a) (.ref a) from rfl) (.cons rx .nil)) q) (fun u s' z => ?_) fun _ _ z => z))
  obtain ⟨w, H', I', rw_, e, z⟩ := z
  subst e
  cases rw_
  exact wpAny_truthy_bool (z s' I')
theorem od_inOwn (hs : PySem.W.findIn X.K (.ref (cl c)) "__contains__" = some (some (.ref f))) (hf : PySem.W.isFn X.K (.ref f) = true) (Fn : FnOk X.prog X.w X.K X.mg X.base (L2.CX X.prog X.w) k f fd ps (spD X.K cl Φ)) (hr : Room k X.A) (hb : Binds X.K fd ps []) :
    OpD X cl (compareOp .In) (inOwn c Φ) := by
  refine ⟨fun x y H Q => ∃ b a dd fs, y = .ref a ∧ H a = some (.ins (cl c) dd fs) ∧ spD X.K cl Φ [.ref a, x] H (fun v H' => v = .bl b ∧ Same H H') E0 ∧ ∀ H', Same H H' → Q (.bl b) H', ?_, ?_⟩
  · intro pins s σ H x y v u Q I rx ry h
    obtain ⟨b, a, dd, fs, rfl, ha, sp, q⟩ := h
    cases ry
    refine wpAny_bind (wpAny_mono (op_own (P := fun b' s' => b' = b ∧ ∃ H', Inv X pins σ H' s' ∧ Same H H') (b := b) hs hf Fn hr hb I rx ha (spD.mono sp fun v H' ⟨e, sm⟩ => ⟨e, fun s' I' => ⟨rfl, H', I', sm⟩⟩)) (fun r s' z => ?_) fun _ _ z => z)
    obtain ⟨rfl, H', I', sm⟩ := z
    exact wpAny_pure ⟨.bl r, H', I', rfl, q H' sm⟩
  · intro H G x y dx dy dz Q g tx ty hg q
    obtain ⟨b, hb1, rfl⟩ := Option.map_eq_some_iff.mp hg
    obtain ⟨a, dd, fs, rfl, ha, sp⟩ := askOwn_ok g tx ty hb1
    exact ⟨b, a, dd, fs, rfl, ha, sp, fun H' sm => q _ H' G (.grow .refl sm) .bl⟩
theorem od_notInOwn (hs : PySem.W.findIn X.K (.ref (cl c)) "__contains__" = some (some (.ref f))) (hf : PySem.W.isFn X.K (.ref f) = true) (Fn : FnOk X.prog X.w X.K X.mg X.base (L2.CX X.prog X.w) k f fd ps (spD X.K cl Φ)) (hr : Room k X.A) (hb : Binds X.K fd ps []) :
    OpD X cl (compareOp .NotIn) (notInOwn c Φ) := by
  refine ⟨fun x y H Q => ∃ b a dd fs, y = .ref a ∧ H a = some (.ins (cl c) dd fs) ∧ spD X.K cl Φ [.ref a, x] H (fun v H' => v = .bl b ∧ Same H H') E0 ∧ ∀ H', Same H H' → Q (.bl (!b)) H', ?_, ?_⟩
  · intro pins s σ H x y v u Q I rx ry h
    obtain ⟨b, a, dd, fs, rfl, ha, sp, q⟩ := h
    cases ry
    refine wpAny_bind (wpAny_mono (op_own (P := fun b' s' => b' = b ∧ ∃ H', Inv X pins σ H' s' ∧ Same H H') (b := b) hs hf Fn hr hb I rx ha (spD.mono sp fun v H' ⟨e, sm⟩ => ⟨e, fun s' I' => ⟨rfl, H', I', sm⟩⟩)) (fun r s' z => ?_) fun _ _ z => z)
    obtain ⟨rfl, H', I', sm⟩ := z
    exact wpAny_pure ⟨.bl (!r), H', I', rfl, q H' sm⟩
  · intro H G x y dx dy dz Q g tx ty hg q
    obtain ⟨b, hb1, rfl⟩ := Option.map_eq_some_iff.mp hg
    obtain ⟨a, dd, fs, rfl, ha, sp⟩ := askOwn_ok g tx ty hb1
    exact ⟨b, a, dd, fs, rfl, ha, sp, fun H' sm => q _ H' G (.grow .refl sm) .bl⟩
end

/-! ### keywords -/
structure RK (X : Cx) (cl : Str → Addr) (F : Fra) (W : WX) (ks : List Keyword) (f : M (List R)) : Prop where
  pk : PK X ks (tA X.K cl F W f)
def prm {α : Type} (p : List Nat) (l : List α) : List α := p.filterMap (l[·]?)
section
variable {X : Cx} {cl : Str → Addr} {F : Fra} {W : WX}
theorem PK.imp {ks : List Keyword} {t t' : TA} (h : PK X ks t) (i : ∀ σ H Q, t' σ H Q → t σ H Q) : PK X ks t' := ⟨fun pos pins s σ H Q I q => h.run pos pins s σ H Q I (i σ H Q q)⟩
theorem rk_nil : RK X cl F W [] cNil := ⟨PK.imp pk_nil fun σ H Q ⟨e, G, st, q⟩ => q [] H G st .refl .nil⟩
theorem rk_cons {nm : Option Str} {kpos : Pos} {x : Expr} {ks : List Keyword} {f : M R} {g : M (List R)} (h : RE X cl F W x f) (t : RK X cl F W ks g) : RK X cl F W (⟨nm, x, kpos⟩ :: ks) (cCons f g) := by
  refine ⟨PK.imp (pk_cons h.pe t.pk) fun σ H Q ⟨e, G, st, q⟩ => ?_⟩
  exact tD_then st q fun r e1 v H1 G1 s1 k1 r1 z => tA_then s1 z fun rs e2 vs H2 G2 s2 k2 r2 z => z (v :: vs) H2 G2 s2 (k1.trans k2) (.cons (r1.mono k2.gg) r2)
theorem vals_get : ∀ {vs : List V} {us : List Value} (i : Nat), Vals vs us → (∃ v u, vs[i]? = some v ∧ us[i]? = some u ∧ RelV v u) ∨ vs[i]? = none ∧ us[i]? = none
  | _, _, _, .nil => .inr ⟨rfl, rfl⟩
  | _, _, 0, .cons r _ => .inl ⟨_, _, rfl, rfl, r⟩
  | _, _, i + 1, .cons _ t => by simpa using vals_get i t
theorem vals_prm {vs : List V} {us : List Value} (r : Vals vs us) : ∀ p : List Nat, Vals (prm p vs) (prm p us)
  | [] => .nil
  | i :: p => by
    rcases vals_get i r with ⟨v, u, h1, h2, h3⟩ | ⟨h1, h2⟩
    · have e1 : prm (i :: p) vs = v :: prm p vs := by unfold prm; rw [List.filterMap_cons, h1]
      have e2 : prm (i :: p) us = u :: prm p us := by unfold prm; rw [List.filterMap_cons, h2]
      rw [e1, e2]; exact .cons h3 (vals_prm r p)
    · have e1 : prm (i :: p) vs = prm p vs := by unfold prm; rw [List.filterMap_cons, h1]
      have e2 : prm (i :: p) us = prm p us := by unfold prm; rw [List.filterMap_cons, h2]
      rw [e1, e2]; exact vals_prm r p
theorem repL_get {K : PySem.W.Frag} {G : Hp} : ∀ {ds : List D} {vs : List V} (i : Nat), RepL K cl G ds vs → (∃ d v, ds[i]? = some d ∧ vs[i]? = some v ∧ Rep K cl G d v) ∨ ds[i]? = none ∧ vs[i]? = none
  | _, _, _, .nil => .inr ⟨rfl, rfl⟩
  | _, _, 0, .cons r _ => .inl ⟨_, _, rfl, rfl, r⟩
  | _, _, i + 1, .cons _ t => by simpa using repL_get i t
theorem repL_prm {K : PySem.W.Frag} {G : Hp} {ds : List D} {vs : List V} (r : RepL K cl G ds vs) : ∀ p : List Nat, RepL K cl G (prm p ds) (prm p vs)
  | [] => .nil
  | i :: p => by
    rcases repL_get i r with ⟨v, u, h1, h2, h3⟩ | ⟨h1, h2⟩
    · have e1 : prm (i :: p) ds = v :: prm p ds := by unfold prm; rw [List.filterMap_cons, h1]
      have e2 : prm (i :: p) vs = u :: prm p vs := by unfold prm; rw [List.filterMap_cons, h2]
      rw [e1, e2]; exact .cons h3 (repL_prm r p)
    · have e1 : prm (i :: p) ds = prm p ds := by unfold prm; rw [List.filterMap_cons, h1]
      have e2 : prm (i :: p) vs = prm p vs := by unfold prm; rw [List.filterMap_cons, h2]
      rw [e1, e2]; exact repL_prm r p
/-- a call with n positional values and the keywords ks; p: their order -/
abbrev KBp (K : PySem.W.Frag) (fd : FuncData) (ps : List Str) (n : Nat) (ks : List Str) (p : List Nat) : Prop := KBn K fd ps n ks (fun us ws => prm p (us ++ ws)) (fun vs zs => prm p (vs ++ zs))
theorem kb_p {K : PySem.W.Frag} {x qual : Str} {params : Arguments} {body : List Stmt} {scope : Scope} {kws : List (Str × V)} {f : Addr} {fd : FuncData} {ps : List Str} (F : FunD K x qual params body scope [] kws f fd) (n : Nat) (ks : List Str) (p : List Nat)
    (h : ∀ (kV doc pm : Value) (an : Option Addr) (cdv ct : Value) (us ws : List Value), us.length = n → ws.length = ks.length → bindArgs (PySem.W.fnOf x qual params body scope .none kV doc pm an cdv ct) ⟨us, ks.zip ws⟩ = pure (ps.zip (prm p (us ++ ws)))) : KBp K fd ps n ks p := by
  obtain ⟨oc, od, dV, kV, doc, pm, an, cdv,
                                                                                                              ct, osl, rfl, lk, hcd, hD, hK⟩ := F.ex
  rcases hD with
                                                                                                              ⟨_, rfl⟩ | ⟨e, _⟩
  · exact ⟨fun s us ws _ l1 l2 => .of_eq (h kV doc pm an cdv ct us ws l1 l2), fun r1 r2 => vals_prm (r1.append r2) p⟩
  · exact absurd rfl e
def cCat (fs gs : M (List R)) : M (List R) := fun e => (fs e).bnd fun rs e1 => (gs e1).bnd fun qs e2 => .ok (rs ++ qs) e2
variable {k : Nat} {f pr : Addr} {fd : FuncData} {ps ks : List Str} {Φ : Fn} {c m : Str} {a : Expr} {es : List Expr} {kws : List Keyword} {g : M R} {fs gs : M (List R)} {pos apos : Pos} {n : Nat} {p : List Nat}
/-- o.m(.., k = v, ..) of an object of class c -/
def methKO (c m : Str) (Φ : Fn) (n nk : Nat) (p : List Nat) (o : Option (D × Env)) (fs gs : M (List R)) : Out R := match o with
  | some (d, e) => if isObjC c d && !hasN m d then (fs e).bnd fun rs e1 => (match e1.frzs rs with
    | some (ds, e2) => (gs e2).bnd fun qs e3 => (match e3.frzs qs with
      | some (zs, e4) => if ds.length = n ∧ zs.length = nk then callO e4 (Φ ((prm p (d :: ds ++ zs)).map A.dat) []) else .bad
      | none => .bad)
    | none => .bad) else .bad
  | none => .bad
def cMethK (c m : Str) (Φ : Fn) (n nk : Nat) (p : List Nat) (g : M R) (fs gs : M (List R)) : M R := fun e => (g e).bnd fun r e1 => methKO c m Φ n nk p (e1.frz r) fs gs
theorem run_fnNS {E : L2.St → XK} {pins : List (Addr × Obj)} {σ : L2.St} {H : Hp} {s : Shared} {Q : VK} {us ws : List Value} {vs zs : List V} {sp : Sp} {CX : CXT} {gg : List Value → List Value → List Value} {gV : List V → List V → List V} (F : FnOk X.prog X.w X.K X.mg X.base CX k f fd ps sp) (hr : Room k X.A) (hb : KBn X.K fd ps n ks gg gV) (hx : PassesAt CX X σ (E σ))
    (I : Inv X pins σ H s) (r : Vals vs us) (rz : Vals zs ws) (l1 : vs.length = n) (l2 : zs.length = ks.length) (h : sp (gV vs zs) H Q (E σ)) : wpAny (model X.prog X.w) X.A (PySem.call (.ref f) us (ks.zip ws)) (EP X pins σ Q) X.xe s := by
  have r2 := hb.rel r rz
  refine wpAny_call (codeAny_mono (F.run X.A X.stack s H ⟨us, ks.zip ws⟩ (gg us ws) (gV vs zs) Q (E σ) hr I.env0 (hb.to s us ws I.kIn (r.length.symm.trans l1) (rz.length.symm.trans l2)) r2 h) fun r s' hq => ?_)
  cases r with
  | error e =>
                                                                                                              exact hx pins H s e s' I hq
  | ok fl =>
    cases fl with
    | ret u => exact I.after hq
    | next => exact False.elim hq
    | brk => exact False.elim hq
    | cont => exact False.elim hq
/-- o.m(e, .., k = v, ..) -/
def tMethN (C : Addr) (m : Str) (n nk : Nat) (sp : Sp) (gV : List V → List V → List V) (E : XK) (ta : TE) (t tk : TA) : TE := fun σ H Q => ta σ H fun x H1 => ∃ a dx fs, x = .ref a ∧ H1 a = some (.ins C dx fs) ∧ fs.lookup m = none ∧ t σ H1 fun vs H2 => tk σ H2 fun zs H3 => vs.length = n ∧ zs.length = nk ∧ sp (gV (.ref a :: vs) zs) H3 Q E
variable {x : Expr} {xs : List Expr} {t tk : TA} {ta : TE} {C : Addr} {E : XK} {sp : Sp} {CX : CXT} {gg : List Value → List Value → List Value} {gV : List V → List V → List V}
theorem pe_methN {pl : Sem Bool} (he : PE X a ta) (hc : Cls X.K C) (hm : Meth X.K C m f) (Fn : FnOk X.prog X.w X.K X.mg X.base CX k f fd ps sp) (hr : Room k X.A) (hb : KBn X.K fd ps (n + 1) ks gg gV) (hx : Passes CX X E) (ha : PA X (x :: xs) t) (hk : PK X kws tk)
    (hall : (backToKw pos (keywordEach kws X.env)).all (·.1.isSome) = true) (hks : (backToKw pos (keywordEach kws X.env)).filterMap (·.1) = ks) (hst : starEach (x :: xs) X.env = (false, eval x X.env) :: starEach xs X.env)
    (hpl : ((backTo pos (starEach (x :: xs) X.env)).any (·.1) || (backToKw pos (keywordEach kws X.env)).any (·.1.isNone)) = false)
    (ht : eval (.Call (.Attribute a m apos) (x :: xs) kws pos) X.env = (do
      let ov ← eval a X.env
      standAt apos.atName
      let (f, first) ← holding
                                                                                                              [ov] (getMethod ov m pl)
      callWith pos f first (backTo pos (starEach (x :: xs) X.env)) (backToKw pos (keywordEach kws X.env)))) : PE X (.Call (.Attribute a m apos) (x :: xs) kws pos) (tMethN C m n ks.length sp gV E ta t tk) := by
  refine ⟨fun pins s
                                                                                                              σ H Q I h => ?_⟩
  refine PySem.W.methodCall_KW (pl := pl) (thn (he.run pins s σ H _ I h) fun u s1 ⟨y, H1, I1, rx, b, dx, fs, ex, eb, l, q⟩ => ?_) ht
  subst ex
  obtain rfl : u = Value.ref b := rx
  refine getmeth_ok I1 eb hc hm l ?_
  refine PySem.W.callWith_KW (first := [.ref b]) (h₀ := X.base) I.ok.mod.kin hm.kp hall (thn (ha.run pos pins s1 σ H1 _ I1 q) fun us s2 ⟨vs, H2, I2, r, q2⟩ => ?_) hpl hst
  refine thn (hk.run pos pins s2 σ H2 _ I2 q2) fun ws s3 ⟨zs, H3, I3, rz, l1, l2, q3⟩ => ⟨I3.kIn, ?_⟩
  rw [hks]
  exact run_fnN (us := .ref b :: us) (vs := .ref b :: vs) Fn hr hb hx I3 (.cons rfl r) rz (congrArg (· + 1) l1) l2 q3
theorem pe_methN0 {pl : Sem Bool} (he : PE X a ta) (hc : Cls X.K C) (hm : Meth X.K C m f) (Fn : FnOk X.prog X.w X.K X.mg X.base CX k f fd ps sp) (hr : Room k X.A) (hb : KBn X.K fd ps 1 ks gg gV) (hx : Passes CX X E) (hk : PK X kws tk)
    (hall : (backToKw pos (keywordEach kws X.env)).all (·.1.isSome) = true) (hks : (backToKw pos (keywordEach kws X.env)).filterMap (·.1) = ks)
    (hpl : ((backTo pos (starEach [] X.env)).any (·.1) || (backToKw pos (keywordEach kws X.env)).any (·.1.isNone)) = false)
    (ht : eval (.Call (.Attribute a m apos) [] kws pos) X.env = (do
      let ov ← eval a X.env
      standAt apos.atName
      let (f, first) ← holding
                                                                                                              [ov] (getMethod ov m pl)
      callWith pos f first (backTo pos (starEach [] X.env)) (backToKw pos (keywordEach kws X.env)))) : PE X (.Call (.Attribute a m apos) [] kws pos) (tMethN C m 0 ks.length sp gV E ta tNil tk) := by
  refine ⟨fun pins s
                                                                                                              σ H Q I h => ?_⟩
  refine PySem.W.methodCall_KW (pl := pl) (thn (he.run pins s σ H _ I h) fun u s1 ⟨y, H1, I1, rx, b, dx, fs, ex, eb, l, q⟩ => ?_) ht
  subst ex
  obtain rfl : u = Value.ref b := rx
  refine getmeth_ok I1 eb hc hm l ?_
  refine PySem.W.callWith_KW0 (first := [.ref b]) (h₀ := X.base) I.ok.mod.kin hm.kp hall ?_ hpl
  refine thn (hk.run pos pins s1 σ H1 _ I1 q) fun ws s3 ⟨zs, H3, I3, rz, l1, l2, q3⟩ => ⟨I3.kIn, ?_⟩
  rw [hks]
  exact run_fnN (us := [.ref b]) (vs := [.ref b]) Fn hr hb hx I3 (.cons rfl .nil) rz rfl l2 q3
theorem methK_D {σ : L2.St} {H : Hp} {Q : VK} (h : tD X.K cl F W (cMethK c m Φ n ks.length p g fs gs) σ H Q) :
    tMethN (cl c) m n ks.length (spD X.K cl Φ) (fun vs zs => prm p (vs ++ zs)) (fun c d H => ∃ σ, W c d σ H) (tD X.K cl F W g) (tA X.K cl F W fs) (tA X.K cl F W gs) σ H Q := by
  obtain ⟨e, G, st, q⟩ := h
  refine tD_then st q fun r e1 v H1 G1 s1 k1 r1 z => ?_
  cases y : e1.frz r with
  | none => rw [y] at z; exact z.elim
  | some pr =>
    obtain ⟨d, e2⟩ := pr
    rw [y] at z
    obtain ⟨G2, s2, k2, r2⟩ := frz_ok s1 r1 y
    simp only [methKO] at z
    split at z
    · rename_i hi
      obtain ⟨hi1, hi2⟩ := Bool.and_eq_true_iff.mp hi
      obtain ⟨ns, l, rfl⟩ := isObjC_inv hi1
      have r2' := r2
      cases r2 with
      | obj h1 hl rl =>
        refine ⟨_, _, _, rfl, s2.ret.gh _ _ h1, lookup_zip_none (by simpa [hasN] using hi2), tA_then s2 z fun rs e3 vs H3 G3 s3 k3 r3 z => ?_⟩
        cases y3 : e3.frzs rs with
        | none => rw [y3] at z; exact z.elim
        | some p3 =>
          obtain ⟨ds, e4⟩ := p3
          rw [y3] at z
          obtain ⟨G4, s4, k4, r4⟩ := frzs_ok s3 r3 y3
          refine tA_then s4 z fun qs e5 zs H5 G5 s5 k5 r5 z => ?_
          cases y5 : e5.frzs qs with
          | none => rw [y5] at z; exact z.elim
          | some p5 =>
            obtain ⟨es, e6⟩ := p5
            rw [y5] at z
            obtain ⟨G6, s6, k6, r6⟩ := frzs_ok s5 r5 y5
            simp only at z
            split at z
            · rename_i hl2
              refine ⟨r4.length.symm.trans hl2.1, r6.length.symm.trans hl2.2, ?_⟩
              have g46 : Same G4 G6 := fun b o q => k6.gg b o (k5.gg b o q)
              have rr : RepL X.K cl G6 (D.obj c ns l :: ds ++ es) (V.ref _ :: vs ++ zs) := RepL.append (.cons (((r2'.mono k3.gg).mono k4.gg).mono g46) (r4.mono g46)) r6
              exact callO_D (Φ := Φ) (ds := prm p (D.obj c ns l :: ds ++ es)) s6 (repL_prm rr p) z (fun d v H' G' s7 k7 rv hq => hq v H' G' s7 ((((((k1.trans k2).trans k3).trans k4).trans k5).trans k6).trans k7) rv) (fun c d H' z => ⟨σ, z⟩)
            · exact z.elim
    · exact z.elim
theorem re_methK {pl : Sem Bool} (hc : Cls X.K (cl c)) (hm : Meth X.K (cl c) m f) (Fn : FnOk X.prog X.w X.K X.mg X.base (L2.CX X.prog X.w) k f fd ps (spD X.K cl Φ)) (hr : Room k X.A) (tk : Takes X W) (hW : SI W) (hb : KBp X.K fd ps (n + 1) ks p)
    (h : RE X cl F W a g) (ha : RA X cl F W (x :: xs) fs) (hkw : RK X cl F W kws gs)
    (hall : (backToKw pos (keywordEach kws X.env)).all (·.1.isSome) = true := by rfl) (hks : (backToKw pos (keywordEach kws X.env)).filterMap (·.1) = ks := by rfl) (hst : starEach (x :: xs) X.env = (false, eval x X.env) :: starEach xs X.env := by rfl)
    (hpl : ((backTo pos (starEach (x :: xs) X.env)).any (·.1) || (backToKw pos (keywordEach kws X.env)).any (·.1.isNone)) = false := by rfl)
    (ht : eval (.Call (.Attribute a m apos) (x :: xs) kws pos) X.env = (do
      let ov ← eval a X.env
      standAt apos.atName
      let (f, first) ← holding
                                                                                                              [ov] (getMethod ov m pl)
      callWith pos f first (backTo pos (starEach (x :: xs) X.env)) (backToKw pos (keywordEach kws X.env))) := by rfl) : RE X cl F W (.Call (.Attribute a m apos) (x :: xs) kws pos) (cMethK c m Φ n ks.length p g fs gs) :=
  ⟨PE.imp (pe_methN (pl := pl) (E := fun c d H => ∃ σ, W c d σ H) h.pe hc hm Fn hr hb (passes_call tk fun c d σ H ⟨σ', z⟩ => hW c d σ' σ H z) ha.pa hkw.pk hall hks hst hpl ht) fun σ H Q z => methK_D z⟩
theorem re_methK0 {pl : Sem Bool} (hc : Cls X.K (cl c)) (hm : Meth X.K (cl c) m f) (Fn : FnOk X.prog X.w X.K X.mg X.base (L2.CX X.prog X.w) k f fd ps (spD X.K cl Φ)) (hr : Room k X.A) (tk : Takes X W) (hW : SI W) (hb : KBp X.K fd ps 1 ks p)
    (h : RE X cl F W a g) (hkw : RK X cl F W kws gs)
    (hall : (backToKw pos (keywordEach kws X.env)).all (·.1.isSome) = true := by rfl) (hks : (backToKw pos (keywordEach kws X.env)).filterMap (·.1) = ks := by rfl)
    (hpl : ((backTo pos (starEach [] X.env)).any (·.1) || (backToKw pos (keywordEach kws X.env)).any (·.1.isNone)) = false := by rfl)
    (ht : eval (.Call (.Attribute a m apos) [] kws pos) X.env = (do
      let ov ← eval a X.env
      standAt apos.atName
      let (f, first) ← holding
                                                                                                              [ov] (getMethod ov m pl)
      callWith pos f first (backTo pos (starEach [] X.env)) (backToKw pos (keywordEach kws X.env))) := by rfl) : RE X cl F W (.Call (.Attribute a m apos) [] kws pos) (cMethK c m Φ 0 ks.length p g cNil gs) := by
  refine ⟨PE.imp (pe_methN0 (pl := pl) (E := fun c d H => ∃ σ, W c d σ H) h.pe hc hm Fn hr hb (passes_call tk fun c d σ H ⟨σ', z⟩ => hW c d σ' σ H z) hkw.pk hall hks hpl ht) fun σ H Q z => ?_⟩
  have z := methK_D z
  obtain ⟨e, G, st, q⟩ := z
  refine ⟨e, G, st, post_imp q fun r e1 q v H1 G1 s1 k1 r1 => ?_⟩
  obtain ⟨b, dx, fs, ex, eb, l, z⟩ := q v H1 G1 s1 k1 r1
  refine ⟨b, dx, fs, ex, eb, l, ?_⟩
  obtain ⟨e', G', st', q'⟩ := z
  exact q' [] H1 G' st' .refl .nil
end
end DL

namespace DL
open PySem L2 PySem.Spec PyProof.Rows

/-! ### t[::-1] -/
section
open HT
variable {prog : Program} {w : World} {A :
                                                                                                              Around} {E : Value → Shared → Prop} {s : Shared}
theorem applied_rev {sl : Addr} {w1st w2nd vs : Value} {n : Nat} {Q : Int × Int × Nat → Shared → Prop} (hslice : s.heap.IsSliceOf sl w1st w2nd vs) (p1st : IsPart w1st none) (p2nd : IsPart w2nd none) (p3rd : IsPart vs (some (-1)))
    (h : Q (((n : Nat) : Int) - 1, -1, n) s) : wpAny (model prog w) A (Builtin.Slice.sliceApplied (.ref sl) (pure (n : Int))) Q E s := by
  obtain ⟨slo, hslo, hslc, hsld⟩ := id hslice
  unfold Builtin.Slice.sliceApplied
                                                                                                              Builtin.Slice.sliceFields
  refine wpAny_bind (wpAny_bind (wpAny_field hslo hsld (x := w1st) rfl (wpAny_bind (wpAny_field hslo hsld (x := w2nd) rfl (wpAny_bind (wpAny_field hslo hsld (x := vs) rfl (wpAny_pure ?_)))))))
  refine wpAny_bind (slicePart_ p3rd ?_)
  show wpAny _ _ (if ((-1 : Int) == 0) = true then _ else _) _ _ s
  rw [if_neg (by decide)]
  refine wpAny_bind (slicePart_ p1st (wpAny_bind (slicePart_ p2nd (wpAny_bind (wpAny_pure ?_)))))
  have e : Builtin.Slice.sliceAdjust none none (-1) (n : Int) = ((n : Int) - 1, -1) := by
    unfold
                                                                                                              Builtin.Slice.sliceAdjust
    simp
  show wpAny _ _ (match Builtin.Slice.sliceAdjust none none (-1) (n : Int) with | (lo, hi) => pure (lo, (-1 : Int), Builtin.Slice.slicePlaces lo hi (-1))) _ _ s
  rw [e]
  have e2 : Builtin.Slice.slicePlaces ((n : Int) - 1) (-1) (-1) = n := by
    unfold
                                                                                                              Builtin.Slice.slicePlaces
    have h1 : ¬ ((-1 : Int) > 0) := by omega
    simp only [h1, if_false]
    split
    · simp
    · omega
  show wpAny _ _ (pure ((n : Int) - 1, (-1 : Int), Builtin.Slice.slicePlaces ((n : Int) - 1) (-1) (-1))) _ _ s
  rw [e2]
  exact wpAny_pure h
theorem fm_some {α β : Type} {f : α → Option β} {g : α → β} : ∀ {l : List α}, (∀ m ∈ l, f m = some (g m)) → l.filterMap f = l.map g
  | [], _ => rfl
  | a :: l, h => by rw [List.filterMap_cons, h a List.mem_cons_self, List.map_cons, fm_some fun m hm => h m (List.mem_cons_of_mem _ hm)]
theorem pick_rev (xs : Array Value) : ((List.range xs.size).filterMap fun (m : Nat) => xs[(((xs.size : Nat) : Int) - 1 + (m : Int) * (-1)).toNat]?).toArray = xs.toList.reverse.toArray := by
  congr 1
  refine List.ext_getElem? fun i => ?_
  have e : (List.range xs.size).filterMap (fun (m : Nat) => xs[(((xs.size : Nat) : Int) - 1 + (m : Int) * (-1)).toNat]?) = (List.range xs.size).map (fun m => xs[xs.size - 1 - m]?.getD .none) := by
    refine fm_some fun m hm => ?_
    have hm := List.mem_range.mp hm
    have e1 : (((xs.size : Nat) : Int) - 1 + (m : Int) * (-1)).toNat = xs.size - 1 - m := by omega
    have hl : xs.size - 1 - m < xs.size := by omega
    simp only [e1]
    rw [Array.getElem?_eq_getElem hl]
    rfl
  rw [e, List.getElem?_map]
  by_cases hi : i < xs.size
  · rw [List.getElem?_range hi, List.getElem?_reverse (by simpa using hi)]
    have hl : xs.size - 1 - i < xs.size := by omega
    simp [hl]
  · rw [List.getElem?_eq_none (by simpa using hi), List.getElem?_eq_none (by simpa using hi)]
    rfl
theorem getItem_tuple_rev {t sl : Addr} {elts : Array Value} {w1st w2nd vs : Value} {Q : Value → Shared → Prop} (htup : IsTup s.heap t elts) (hslice : s.heap.IsSliceOf sl w1st w2nd vs) (p1st : IsPart w1st none) (p2nd : IsPart w2nd none) (p3rd : IsPart vs (some (-1)))
    (h : Q (.ref s.heap.objs.size) { s with heap := s.heap.push { cls := .type "tuple", data := .seq elts.toList.reverse.toArray } })
    (hsize : elts.size ≤ sizeLine) : wpAny (model prog w) A (getItem (.ref t) (.ref sl)) Q E s := by
  have hfits : sizeOk (.seq elts.toList.reverse.toArray) := by
    show elts.toList.reverse.toArray.size ≤ sizeLine
    simpa using hsize
  obtain ⟨slo, hslo, hslc, hsld⟩ := id hslice
  have hslt : s.TypeIs (.ref sl) "slice" := ⟨slo, hslo, hslc⟩
  unfold getItem
  try with_reducible
                                                                                                              refine wpAny_holding ?_
  first | refine wpAny_bind
                                                                                                              (wpAny_pure ?_) | skip
  refine wpAny_bind (wpAny_sequenceKey htup.typeIs (by decide) ?_)
  refine wpAny_bind (wpAny_callSpecial?_slot (name := Str.ofString "__getitem__") htup.typeIs PyProof.Rows.slot_tuple_getitem
    (wpAny_call_entry PyProof.Rows.slot_tuple_getitem htup.typeIs entry_tuple_getitem ?_ (args_tuple_getitem _ _)))
  show wpAny _ _ (Builtin.Tuple.tupleItemsOf
                                                                                                              (.ref t) >>= _) _ _ s
  refine wpAny_bind (tupleItemsOf_ htup ?_)
  refine wpAny_bind (wpAny_typeOf hslt ?_)
  rw [if_pos (by decide)]
  refine wpAny_bind (applied_rev hslice p1st p2nd p3rd ?_)
  have hnot : ¬ (((((elts.size : Nat) : Int) - 1) == 0 && (-1 : Int) == 1 && elts.size == elts.size) = true) := by
    intro q
    rw [Bool.and_eq_true,
                                                                                                              Bool.and_eq_true] at q
    exact absurd q.1.2 (by decide)
  show wpAny _ _ (if ((((elts.size : Nat) : Int) - 1) == 0 && (-1 : Int) == 1 && elts.size == elts.size) = true then _ else _) _ _ s
  rw [if_neg hnot, pick_rev]
  first
    | exact wpAny_bind (m := Builtin.Tuple.tupleExact _) (wpAny_newObj_type (wpAny_pure ⟨_, rfl, wpAny_pure h⟩) hfits)
    | exact wpAny_bind (m := Builtin.Tuple.tupleExact _) (wpAny_newObj_type (wpAny_bind (wpAny_pure (wpAny_pure ⟨_, rfl, wpAny_pure h⟩))) hfits)
    | exact wpAny_bind (wpAny_bind (m := Builtin.Tuple.tupleExact _) (wpAny_newObj_type (wpAny_pure (wpAny_pure ⟨_, rfl, wpAny_pure h⟩)) hfits))
    | exact wpAny_bind (wpAny_bind (m := Builtin.Tuple.tupleExact _) (wpAny_newObj_type (wpAny_pure ⟨_, rfl, wpAny_pure h⟩) hfits))
end
section
variable {X : Cx} {cl : Str → Addr} {F : Fra} {W : WX}
def tRevT (K : PySem.W.Frag) (te : TE) : TE := fun σ H Q => te σ H fun x H1 => ∃ a xs, x = .ref a ∧ SqT K H1 a xs ∧ ∀ p, H1 p = none → Q (.ref p) (upd H1 p (.tup xs.reverse))
theorem pe_revT {e : Expr} {te : TE} {k : Nat} {p1 p2 p3 pos : Pos} (he : PE X e te) : PE X (.Subscript e (.Slice none none (some (.UnaryOp .USub (.Constant (.int 1) k p1) p2)) p3) pos) (tRevT X.K te) := by
  refine ⟨fun pinned s σ H Q I h => ?_⟩
  refine Subscript_ (thn (he.run pinned s σ H _ I h) fun v s1 ⟨x, H1, J1, rel1, wish1⟩ => ?_)
  obtain ⟨a, xs, ex, hx, q⟩ := wish1
  subst ex
  cases rel1
  have hstep : PO X (some (.UnaryOp .USub (.Constant (.int 1) k p1) p2)) (tPart (tUn (rU fun i => .int (-i)) (tC (.int 1)))) := po_some (pe_un un_neg pe_int)
  refine wpAny_Slice (thn (po_none.run pinned s1 σ H1 (fun o H2 => o = none ∧ H2 = H1) J1 ⟨rfl, rfl⟩) fun w1st s2 ⟨l, H2, J2, p1st, el, e2⟩ => ?_)
  subst el e2
  refine thn (po_none.run pinned s2 σ H2 (fun o H3 => o = none ∧ H3 = H2) J2 ⟨rfl, rfl⟩) fun w2nd s3 ⟨u, H3, J3, p2nd, eu, e3⟩ => ?_
  subst eu e3
  refine thn (hstep.run pinned s3 σ H3 (fun o H4 => o = some (-1) ∧ H4 = H3) J3 ⟨1, rfl, -1, rfl, rfl, rfl⟩) fun vs s4 ⟨o, H4, J4, ps, eo, e4⟩ => ?_
  subst eo e4
  have J5 : Inv X pinned σ H4 { s4 with heap := s4.heap.push { cls := .type "slice", data := .fields #[w1st, w2nd, vs] } } := J4.kept (t' := s4.toks) fun b ob q => Heap.get?_push_of_some _ q
  obtain ⟨its, r, htup, hz⟩ := J5.tuple hx
  have hlen := r.length
  show wpAny (model X.prog X.w) X.A (subscriptTail e (.Slice none none (some (.UnaryOp .USub (.Constant (.int 1) k p1) p2)) p3) (.ref a) (.ref s4.heap.objs.size)) (EP X pinned σ Q) X.xe { s4 with heap := s4.heap.push { cls := .type "slice", data := .fields #[w1st, w2nd, vs] } }
  refine tail_any (ops := [.ref a, .ref s4.heap.objs.size]) htup.typeIs (PyProof.Rows.slot_tuple_getitem.lookup) ?_ (by with_unfolding_all rfl)
  refine getItem_tuple_rev htup (Heap.IsSliceOf.new _ w1st w2nd vs) p1st p2nd ps ?_ (by rw [List.size_toArray]; omega)
  refine ⟨.ref _, _, J5.laid (t' := s4.toks) (o := .tup xs.reverse) (fun b ob q => Heap.get?_push_of_some _ q) (Nat.le_refl _) ?_, rfl, q _ (J5.hok.fresh (Nat.le_refl _))⟩
  exact ⟨by rw [List.length_reverse]; exact hz, _, r.reverse, IsTup.new _ _⟩
def revD : D → Option D
  | .tup l => some (.tup l.reverse)
  | _ => none
def cRevT (f : M R) : M R := fun e => (f e).bnd fun r e1 => opt ((e1.rd r).bind revD) e1
theorem re_revT {x : Expr} {f : M R} {k : Nat} {p1 p2 p3 pos : Pos} (h : RE X cl F W x f) : RE X cl F W (.Subscript x (.Slice none none (some (.UnaryOp .USub (.Constant (.int 1) k p1) p2)) p3) pos) (cRevT f) := by
  refine ⟨PE.imp (pe_revT h.pe) fun σ H Q ⟨e, G, st, q⟩ => tD_then st q fun r e1 v H1 G1 s1 k1 r1 z => ?_⟩
  obtain ⟨dz, z1, z⟩ := post_opt z
  obtain ⟨d, hd, hz⟩ := Option.bind_eq_some_iff.mp z1
  have t := s1.top r1 hd
  cases d with
  | tup l =>
    cases hz
    obtain ⟨a, vs, rfl, h1, r⟩ := t.tup s1.ret.gh
    refine ⟨a, vs, rfl, h1, fun p hp => ?_⟩
    have sp : Step H1 G1 (upd H1 p (.tup vs.reverse)) (upd G1 p (.tup vs.reverse)) := .lay .refl hp
    exact z _ _ _ (s1.step sp) (k1.trans (Kp.step s1 sp)) (Rep.tup (.inl (.inl upd_same)) ((RepL.reverse r).mono (sp.same s1.ret.gh).2.1))
  | _ => cases hz
end
end DL

namespace DL
open PySem L2 PySem.Spec PyProof.Rows

/-! ### sorted -/
def srtLe (a b : D) : Bool := PySem.W.dataLe false D.py a b
def sortD (l : List D) : List D := l.mergeSort srtLe
def tupC : D → Bool
  | .tup (_ :: _) => true
  | _ => false
def othC : D → Bool
  | .int _ | .str _ | .bl _ | .lst _ => true
  | _ => false
/-- they can be sorted -/
def srtOk (l : List D) : Bool := D.plL l && (l.all fun a => l.all fun b => PySem.W.alike a.py b.py) && (l.all tupC || l.all othC) && l.all fun a => decide (a.py.depth ≤ 60)
def sortedD : List D → Option D
  | [.lst l] => if srtOk l then some (.lst (sortD l)) else none
  | _ => none
theorem pyL_map : ∀ l : List D, D.pyL l = l.map D.py
  | [] => rfl
  | d :: l => by rw [D.pyL, List.map_cons, pyL_map l]
theorem plL_all : ∀ {l : List D}, D.plL l = true → ∀ d ∈ l, d.pl = true
  | d :: l, h, x, hx => by
    obtain ⟨h1, h2⟩ := Bool.and_eq_true_iff.mp (show (d.pl && D.plL l) = true from h)
    rcases List.mem_cons.mp
                                                                                                              hx with rfl | hx
    · exact h1
    · exact plL_all h2 x hx
section
variable {X : Cx} {cl : Str → Addr} {F : Fra} {W : WX}
theorem each_zip {K : PySem.W.Frag} {H : Hp} : ∀ {ds : List D} {vs : List V} {us : List Value}, RepL K cl H ds vs → Vals vs us → PySem.W.EachIs (fun (u : Value) (p : D × V) => Rep K cl H p.1 p.2 ∧ RelV p.2 u) us (ds.zip vs)
  | [], _, _, .nil, .nil =>
                                                                                                              .nil
  | _ :: _, _, _, .cons r t, .cons q s => .cons ⟨r, q⟩ (each_zip t s)
theorem each_all {α β : Type} {R : α → β → Prop} : ∀ {us : List α} {bs : List β}, PySem.W.EachIs R us bs → ∀ b ∈ bs, ∃ u ∈ us, R u b
  | _, _, .cons r t, b, hb => by
    rcases List.mem_cons.mp
                                                                                                              hb with rfl | hb
    · exact ⟨_, List.mem_cons_self, r⟩
    · obtain ⟨u, h1, h2⟩ := each_all t b hb
      exact ⟨u, List.mem_cons_of_mem _ h1, h2⟩
theorem each_vals {K : PySem.W.Frag} {H : Hp} : ∀ {us : List Value} {ps : List (D × V)}, PySem.W.EachIs (fun (u : Value) (p : D × V) => Rep K cl H p.1 p.2 ∧ RelV p.2 u) us ps → Vals (ps.map (·.2)) us ∧ RepL K cl H (ps.map (·.1)) (ps.map (·.2))
  | _, _, .nil => ⟨.nil, .nil⟩
  | _, _, .cons r t => ⟨.cons r.2 (each_vals t).1, .cons r.1 (each_vals t).2⟩
theorem each_mem {α β : Type} {R R' : α → β → Prop} : ∀ {us : List α} {bs : List β}, PySem.W.EachIs R us bs → (∀ u b, b ∈ bs → R u b → R' u b) → PySem.W.EachIs R' us bs
  | _, _, .nil, _ => .nil
  | _, _, .cons r t, h => .cons (h _ _ List.mem_cons_self r) (each_mem t fun u b hb => h u b (List.mem_cons_of_mem _ hb))
theorem repL_pairs {K : PySem.W.Frag} {H : Hp} : ∀ {ps : List (D × V)}, (∀ p ∈ ps, Rep K cl H p.1 p.2) → RepL K cl H (ps.map (·.1)) (ps.map (·.2))
  | [], _ => .nil
  | p :: ps, h => .cons (h p List.mem_cons_self) (repL_pairs fun q hq => h q (List.mem_cons_of_mem _ hq))
theorem repL_zip {K : PySem.W.Frag} {H : Hp} : ∀ {ds : List D} {vs : List V}, RepL K cl H ds vs → ∀ p ∈ ds.zip vs, Rep K cl H p.1 p.2
  | [], _, .nil, p, hp => by simp at hp
  | _ :: _, _, .cons r t, p, hp => by
    rcases List.mem_cons.mp (show p ∈ (_, _) :: List.zip _ _ from hp) with rfl | hp
    · exact r
    · exact repL_zip t p hp
theorem zip_fst {K : PySem.W.Frag} {H : Hp} : ∀ {ds : List D} {vs : List V}, RepL K cl H ds vs → (ds.zip vs).map (·.1) = ds
  | [], _, .nil => rfl
  | _ :: _, _, .cons r t => by rw [List.zip_cons_cons, List.map_cons, zip_fst t]
/-- the pairs, sorted -/
def sortP (ds : List D) (vs : List V) : List (D × V) := (ds.zip vs).mergeSort (PySem.W.dataLe false fun p => p.1.py)
theorem sortP_fst {K : PySem.W.Frag} {H : Hp} {ds : List D} {vs : List V} (r : RepL K cl H ds vs) : (sortP ds vs).map (·.1) = sortD ds := by
  unfold sortP sortD
  have e : ((ds.zip vs).mergeSort (PySem.W.dataLe false fun p => p.1.py)).map (·.1) = ((ds.zip vs).map (·.1)).mergeSort srtLe := List.map_mergeSort fun a _ b _ => rfl
  rw [e, zip_fst r]
theorem cr_sortD (hu : X.A.units + 64 < cLine) : CallR X (.builtin "sorted") fun xs H Q => ∃ a ds vs, xs = [V.ref a] ∧ SqL X.K H a vs ∧ RepL X.K cl H ds vs ∧ srtOk ds = true ∧ ∀ p, H p = none → Q (.ref p) (upd H p (.lst ((sortP ds vs).map (·.2)))) := by
  intro pins s σ
                                                                                                              H xs us Q I r h
  obtain ⟨a, ds, vs, rfl, hs, rp, ok, q⟩ := h
  obtain ⟨its, rv, hl,
                                                                                                              hz⟩ := I.list hs
  rw [Vals.ref1 r]
  unfold srtOk at ok
  simp only [Bool.and_eq_true, Bool.or_eq_true, List.all_eq_true, decide_eq_true_eq] at ok
  obtain ⟨⟨⟨pl, al⟩, kd⟩, dp⟩ := ok
  have hlen : (ds.zip vs).length = vs.length := by rw [List.length_zip, rp.length, Nat.min_self]
  have hm : (ds.zip vs).map (fun p => p.1.py) = ds.map D.py := by
    rw [show (fun p : D × V => p.1.py) = D.py ∘ (·.1) from rfl, ← List.map_map, zip_fst rp]
  have e := each_zip rp rv
  refine PySem.W.sorted_data (bs := ds.zip vs) (enc := fun p => p.1.py) (R := fun u p => Rep X.K cl H p.1 p.2 ∧ RelV p.2 u) hl.isList e ?_ ?_ ?_ ?_ ?_ fun out l1 e2 => ?_
  · refine each_mem e fun u p hp hq => ?_
    obtain ⟨as, hr⟩ := Dp.reads I p.1.py p.2 u (hq.1.dp (plL_all pl _ (List.of_mem_zip hp).1)) hq.2
    exact ⟨as, hr⟩
  · rw [hm]
    intro d hd d' hd'
    obtain ⟨x, hx, rfl⟩ := List.mem_map.mp hd
    obtain ⟨y, hy, rfl⟩ := List.mem_map.mp hd'
    exact al x hx y hy
  · rw [hm]
    rcases kd with kd | kd
    · refine .inl fun d hd => ?_
      obtain ⟨x, hx, rfl⟩ := List.mem_map.mp hd
      have k := kd x hx
      unfold tupC at k
      split at k
      · exact ⟨_, _, by rw [D.py, D.pyL]⟩
      · cases k
    · refine .inr fun d hd => ?_
      obtain ⟨x, hx, rfl⟩ := List.mem_map.mp hd
      have k := kd x hx
      cases x <;> first | cases k; done | (refine ⟨?_, fun xs => ?_⟩ <;> (rw [D.py]; intro z; cases z))
  · rw [hlen]; exact hz
  · intro p hp
    have := dp p.1 (List.of_mem_zip hp).1
    omega
  · obtain ⟨v1, _⟩ := each_vals e2
    have l2 : ((sortP ds vs).map (·.2)).length = vs.length := by rw [List.length_map, sortP, List.length_mergeSort, hlen]
    exact ⟨.ref _, _, I.laid (t' := s.toks) (o := .lst ((sortP ds vs).map (·.2))) (fun b o => sortedAll_old) (Nat.le_succ _) ⟨by rw [l2]; exact hz, out, _, v1, (sortedAll_at s.heap its out.toArray).choose_spec⟩, rfl, q _ (I.hok.fresh (Nat.le_succ _))⟩
theorem cd_sorted (hu : X.A.units + 64 < cLine) : CallD X cl (.builtin "sorted") sortedD := by
  refine ⟨_, cr_sortD (cl := cl) hu, fun H G xs ds dz Q gh t e k => ?_⟩
  unfold sortedD at e
  split at e
  · split at e
    · rename_i ok
      cases e
      obtain ⟨v, rfl, tv⟩ := topL1 t
      obtain ⟨a, vs, rfl, h1, r⟩ := tv.lst gh
      refine ⟨a, _, vs, rfl, SqL.of h1, r.mono gh, ok, fun p hp => k _ _ _ (.lay .refl hp) (.lst upd_same ?_)⟩
      rw [← sortP_fst r]
      refine (repL_pairs fun p hp => ?_).mono (same_upd (gh.free hp))
      exact repL_zip r p (List.mem_mergeSort.mp hp)
    · cases e
  · cases e
end
end DL

namespace DL
open PySem L2 PySem.Spec PyProof.Rows

/-! ### {k: v for .. in ..} -/
def kD : D → Option Key
  | .int i => some (.inl i)
  | .str s => some (.inr s)
  | _ => none
def putDv (ks : List Key) (l : List D) (k : Key) (d : D) : List Key × List D :=
  if (ks.any fun j => decide (j = k)) = true then (ks, (ks.zip l).map fun p => if p.1 = k then d else p.2) else (ks ++ [k], l ++ [d])
def dcL (vs : List Nat) (g : Tg) (t : M Bool) (fk fv : M R) : List D → List Key → List D → M (List Key × List D)
  | [], ak, al, e => .ok (ak, al) e
  | d :: ds, ak, al, e => match g d (e.wipe vs) with
    | none => .bad
    | some e1 => match t e1 with
      | .ok true e2 => (match fk e2 with
        | .ok r e3 => (match (e3.rd r).bind kD with
          | some k => (match fv e3 with
            | .ok q e4 => (match e4.frz q with
              | some (y, e5) => if ak.length < sizeLine then dcL vs g t fk fv ds (putDv ak al k y).1 (putDv ak al k y).2 e5 else .bad
              | none => .bad)
            | _ => .bad)
          | none => .bad)
        | _ => .bad)
      | .ok false e2 => dcL vs g t fk fv ds ak al e2
      | _ => .bad
def cDc (vs : List Nat) (fi : M (List D)) (g : Tg) (t : M Bool) (fk fv : M R) : M R := fun e => (fi e).bnd fun ds e1 => if plainAt e1 vs then (match dcL vs g t fk fv ds [] [] e1 with
  | .ok out e2 => .ok (.val (.dct out.1 out.2)) (e1.back e2 vs)
  | _ => .bad) else .bad
section
variable {K : PySem.W.Frag} {cl : Str → Addr} {F : Fra} {e e' : Env} {σ : L2.St} {H G H' G' : Hp}
theorem any_zip {k : Key} : ∀ {ks : List Key} {us : List V}, ks.length = us.length → ((ks.zip us).any fun kv => decide (kv.1 = k)) = ks.any fun j => decide (j = k)
  | [], [], _ => rfl
  | [], _ :: _, h =>
                                                                                                              by simp at h
  | _ :: _, [], h =>
                                                                                                              by simp at h
  | a :: ks, u :: us, h => by rw [List.zip_cons_cons, List.any_cons, List.any_cons, any_zip (by simpa using h)]
theorem map_zip {k : Key} {d : D} {v : V} (rv : Rep K cl G d v) : ∀ {ks : List Key} {l : List D} {us : List V}, ks.length = us.length → RepL K cl G l us →
    ∃ us', (ks.zip us).map (fun kv => if kv.1 = k then (kv.1, v) else kv) = ks.zip us' ∧ ks.length = us'.length ∧ RepL K cl G ((ks.zip l).map fun p => if p.1 = k then d else p.2) us'
  | [], [], [], _, _ => ⟨[], rfl, rfl, .nil⟩
  | [], _, _ :: _, h, _ => by simp at h
  | _ :: _, _, [], h, _ => by simp at h
  | [], _ :: _, [], _, t => by cases t
  | a :: ks, x :: l, u :: us, h, .cons r t => by
    obtain ⟨us', h1, h2, h3⟩ := map_zip (k := k) rv (by simpa using h) t
    by_cases ha : a = k
    · refine ⟨v :: us', ?_, by simp [h2], ?_⟩
      · rw [List.zip_cons_cons, List.map_cons, if_pos ha, h1]; rfl
      · rw [List.zip_cons_cons, List.map_cons, if_pos ha]; exact .cons rv h3
    · refine ⟨u :: us', ?_, by simp [h2], ?_⟩
      · rw [List.zip_cons_cons, List.map_cons, if_neg ha, h1]; rfl
      · rw [List.zip_cons_cons, List.map_cons, if_neg ha]; exact .cons r h3
theorem put_zip {k : Key} {d : D} {v : V} (rv : Rep K cl G d v) {ks : List Key} {l : List D} {us : List V} (hl : ks.length = us.length) (r : RepL K cl G l us) :
    ∃ us', putK (ks.zip us) k v = (putDv ks l k d).1.zip us' ∧ (putDv ks l k d).1.length = us'.length ∧ RepL K cl G (putDv ks l k d).2 us' := by
  unfold putK putDv
  rw [any_zip hl]
  by_cases h : (ks.any fun j => decide (j = k)) = true
  · rw [if_pos h, if_pos h]
    exact map_zip rv hl r
  · rw [if_neg h, if_neg h]
    refine ⟨us ++ [v], ?_, by simp [hl], r.append (.cons rv .nil)⟩
    show ks.zip us ++ [(k, v)] = (ks ++ [k]).zip (us ++ [v])
    rw [List.zip_append hl]
    rfl
theorem kD_top {d : D} {v : V} {k : Key} (t : Top K cl H G d v) (h : kD d = some k) : v = kV k := by
  cases d with
  | int i => cases h; rcases t with t | ⟨_, _, _, t⟩; · cases t; rfl
             exact t.elim
  | str s => cases h; rcases t with t | ⟨_, _, _, t⟩; · cases t; rfl
             exact t.elim
  | _ => cases h
/-- through the turns of a comprehension: e1 at the beginning, e now -/
structure DcI (K : PySem.W.Frag) (cl : Str → Addr) (F : Fra) (σ : L2.St) (vs : List Nat) (p : Addr) (e1 : Env) (H1 G1 : Hp) (e : Env) (ak : List Key) (al : List D) (H G : Hp) : Prop where
  st : Stt K cl F (e.wipe vs) (L2.wipe σ vs) H G
  gg : Same G1 G
  hd : ∃ us, H p = some (.dK (ak.zip us)) ∧ ak.length = us.length ∧ RepL K cl G al us
  gd : G p = none
  kp : ∀ a o, H1 a = some o → Loose F e1 σ a → H a = some o ∧ (G1 a = none → G a = none)
  ow : ∀ (i : Nat) (d : D), i ∉ vs → e.s[i]? = some (.own d) → ∃ d', e1.s[i]? = some (.own d')
/-- one turn's target: the state within the turn -/
theorem DcI.turn {vs ws : List Nat} {p : Addr} {e1 e3 : Env} {H1 G1 H2 G2 : Hp} {ak : List Key} {al : List D} {σ2 : L2.St} (L : DcI K cl F σ vs p e1 H1 G1 e ak al H G) (hp : Loose F e1 σ p) (sp : Step H G H2 G2) (hw : ∀ i ∈ ws, i ∈ vs)
    (ag : Agr ws (L2.wipe σ vs) σ2) (ea : EAgr ws (e.wipe vs) e3) :
    Sub vs e1 σ e3 σ2 ∧ Same G1 G2 ∧ (∃ us, H2 p = some (.dK (ak.zip us)) ∧ ak.length = us.length ∧ RepL K cl G2 al us) ∧ G2 p = none ∧ (∀ a o, H1 a = some o → Loose F e1 σ a → H2 a = some o ∧ (G1 a = none → G2 a = none)) := by
  obtain ⟨a1, a2, a3⟩ := sp.same L.st.ret.gh
  obtain ⟨us, h1, hln, h2⟩ := L.hd
  refine ⟨⟨fun i d h => ?_, fun i hi => ?_⟩, L.gg.trans a2, ⟨us, a1 _ _ h1, hln, h2.mono a2⟩, sp.none L.st.ret.gh h1 L.gd, fun a o q l => ?_⟩
  · by_cases hiw : i ∈ ws
    · have := ea.pl i hiw _ h; cases this
    · rw [ea.out i hiw] at h
      by_cases hiv : i ∈ vs
      · cases wipe_in vs e hiv h
      · rw [wipe_out vs e hiv] at h
        exact ⟨hiv, L.ow i d hiv h⟩
  · rw [ag.2 i (fun z => hi (hw i z)), wipeσ_out vs σ hi]
  · obtain ⟨q1, q2⟩ := L.kp a o q l
    exact ⟨a1 _ _ q1, fun g => sp.none L.st.ret.gh q1 (q2 g)⟩
theorem dc_D {W : WX} {vs ws : List Nat} {fi : M (List D)} {g : Tg} {ft : M Bool} {fk fv : M R} {Q : VK} (hw : ∀ i ∈ ws, i ∈ vs) (hfr : ∀ d e e', g d e = some e' → EAgr ws e e') (h : tD K cl F W (cDc vs fi g ft fk fv) σ H Q) :
    tDc (fun σ H Q => ∃ e G, Stt K cl F e σ H G ∧ Post K cl F W σ (fi e) fun ds e' => ∀ J H' G', Stt K cl F e' σ H' G' → Kp F σ e H G e' H' G' → ItOk K cl G' J ds → Q J H') (tG K cl F ws g) (tB' K cl F W0 ft) (tD K cl F W0 fk) (tD K cl F W0 fv) vs σ H Q := by
  obtain ⟨e0, G0, st, q⟩ := h
  refine tI_then st q fun ds e1 J H1 G1 s1 k1 it z p hp => ?_
  by_cases pl : plainAt e1 vs = true
  · rw [if_pos pl] at z
    cases hl : dcL vs g ft fk fv ds [] [] e1 with
    | bad => rw [hl] at z; exact z.elim
    | exn x e2 => rw [hl] at z; exact z.elim
    | ok out e2 =>
      rw [hl] at z
      obtain ⟨lp, hp0⟩ := s1.fresh hp
      refine ⟨fun i m H => ∃ e ak al G, DcI K cl F σ vs p e1 H1 G1 e ak al H G ∧ m = ds.length - i ∧ i ≤ ds.length ∧ dcL vs g ft fk fv (ds.drop i) ak al e = .ok out e2, ⟨ds.length, e1, [], [], G1, ?_, by omega, Nat.zero_le _, by simpa using hl⟩, ?_⟩
      · have g1p : G1 p = none := s1.ret.gh.free hp
        exact ⟨(s1.layL hp).wipe vs, .refl _, ⟨[], upd_same, rfl, .nil⟩, g1p, fun a o h1 _ => ⟨by rw [upd_ne (ne_of_none h1 hp)]; exact h1, fun g => g⟩, fun i d _ h => ⟨d, h⟩⟩
      · rintro i m H ⟨e, ak, al, G, L, rfl, hi, hl⟩
        obtain ⟨it1, it2⟩ := it H G L.gg L.st.ret.gh
        by_cases hlt : i < ds.length
        · have hd : ds[i]? = some ds[i] := List.getElem?_eq_getElem hlt
          obtain ⟨hgo, hy⟩ := it1 i _ hd
          refine .inr ⟨hgo, fun H' => ∃ e ak al G, DcI K cl F σ vs p e1 H1 G1 e ak al H' G ∧ dcL vs g ft fk fv (ds.drop (i + 1)) ak al e = .ok out e2, fun H' ⟨e', ak', al', G', L', hl'⟩ => ⟨ds.length - (i + 1), by omega, e', ak', al', G', L', rfl, hlt, hl'⟩, fun x H2 y => ?_⟩
          obtain ⟨G2, sp, rx⟩ := hy x H2 y
          rw [List.drop_eq_getElem_cons hlt] at hl
          have hl : (match g ds[i] (e.wipe vs) with
            | none => Out.bad
            | some e1 => match ft e1 with
              | .ok true e2 => (match fk e2 with
                | .ok r e3 => (match (e3.rd r).bind kD with
                  | some k => (match fv e3 with
                    | .ok q e4 => (match e4.frz q with
                      | some (y, e5) => if ak.length < sizeLine then dcL vs g ft fk fv (ds.drop (i + 1)) (putDv ak al k y).1 (putDv ak al k y).2 e5 else .bad
                      | none => .bad)
                    | _ => .bad)
                  | none => .bad)
                | _ => .bad)
              | .ok false e2 => dcL vs g ft fk fv (ds.drop (i + 1)) ak al e2
              | _ => .bad) = .ok out e2 := hl
          cases hg : g ds[i] (e.wipe vs) with
          | none => rw [hg] at hl; cases hl
          | some e3 =>
            rw [hg] at hl
            refine ⟨e.wipe vs, e3, G2, _, L.st.step sp, rx, hg, fun σ2 ag s2 => ⟨wipe_agr ag hw, e3, G2, s2, ?_⟩⟩
            obtain ⟨sub, gg2, ⟨us, hu1, hul, hu2⟩, gp2, kp2⟩ := L.turn lp sp hw ag (hfr _ _ _ hg)
            have wag := wipe_agr ag hw
            cases ht : ft e3 with
            | bad => simp only [ht] at hl; cases hl
            | exn x e4 => simp only [ht] at hl; cases hl
            | ok b e4 =>
              simp only [ht] at hl
              cases b with
              | false =>
                intro H3 G3 s3 k3
                refine iteF ⟨e4, ak, al, G3, ⟨?_, gg2.trans k3.gg, ⟨us, (k3.kp p _ hu1 (lp.sub sub)).1, hul, hu2.mono k3.gg⟩, (k3.kp p _ hu1 (lp.sub sub)).2 gp2, fun a o h1 l => ?_, fun j d _ h => ?_⟩, hl⟩
                · have := s3.wipe vs; rw [wag] at this; exact this
                · obtain ⟨q1, q2⟩ := kp2 a o h1 l
                  obtain ⟨q3, q4⟩ := k3.kp a o q1 (l.sub sub)
                  exact ⟨q3, fun g => q4 (q2 g)⟩
                · obtain ⟨d', h'⟩ := k3.ow j d h
                  exact (sub.ow j d' h').2
              | true =>
                intro H3 G3 s3 k3
                refine iteT ⟨e4, G3, s3, ?_⟩
                cases hf : fk e4 with
                | bad => simp only [hf] at hl; cases hl
                | exn x e5 => simp only [hf] at hl; cases hl
                | ok r e5 =>
                  simp only [hf] at hl
                  intro y H4 G4 s4 k4 r4
                  cases hk : (e5.rd r).bind kD with
                  | none => simp only [hk] at hl; cases hl
                  | some k =>
                    simp only [hk] at hl
                    obtain ⟨dk, hk1, hk2⟩ := Option.bind_eq_some_iff.mp hk
                    have ek := kD_top (s4.top r4 hk1) hk2
                    refine ⟨e5, G4, s4, ?_⟩
                    cases hf2 : fv e5 with
                    | bad => simp only [hf2] at hl; cases hl
                    | exn x e6 => simp only [hf2] at hl; cases hl
                    | ok q e6 =>
                      simp only [hf2] at hl
                      intro z H5 G5 s5 k5 r5
                      cases hz : e6.frz q with
                      | none => simp only [hz] at hl; cases hl
                      | some py =>
                        obtain ⟨dy, e7⟩ := py
                        simp only [hz] at hl
                        by_cases hsz : ak.length < sizeLine
                        · rw [if_pos hsz] at hl
                          obtain ⟨G6, s6, k6, r6⟩ := frz_ok s5 r5 hz
                          have kk := ((k3.trans k4).trans k5).trans k6
                          obtain ⟨h5p, g6p⟩ := kk.kp p _ hu1 (lp.sub sub)
                          have g6p := g6p gp2
                          obtain ⟨us', p1, p2, p3⟩ := put_zip (k := k) r6 hul (hu2.mono kk.gg)
                          refine ⟨ak.zip us, k, ek, h5p, by rw [List.length_zip, ← hul, Nat.min_self]; exact hsz, e7, _, _, G6, ⟨?_, gg2.trans kk.gg, ⟨us', by rw [upd_same, p1], p2, p3⟩, g6p, fun a o h1 l => ?_, fun j d _ h => ?_⟩, hl⟩
                          · have := s6.wipe vs
                            rw [wag] at this
                            refine this.updL h5p g6p hp0 ⟨lp.1, fun j d hj => ?_⟩
                            by_cases hjv : j ∈ vs
                            · cases wipe_in vs e7 hjv hj
                            · rw [wipe_out vs e7 hjv] at hj
                              obtain ⟨d', h'⟩ := kk.ow j d hj
                              obtain ⟨_, d2, h2⟩ := sub.ow j d' h'
                              rw [wipeσ_out vs σ hjv]
                              exact lp.2 j d2 h2
                          · obtain ⟨q1, q2⟩ := kp2 a o h1 l
                            obtain ⟨q3, q4⟩ := kk.kp a o q1 (l.sub sub)
                            exact ⟨by rw [upd_ne (ne_of_none h1 hp)]; exact q3, fun g => q4 (q2 g)⟩
                          · obtain ⟨d', h'⟩ := kk.ow j d h
                            exact (sub.ow j d' h').2
                        · rw [if_neg hsz] at hl; cases hl
        · have e3 : i = ds.length := by omega
          subst e3
          rw [List.drop_length] at hl
          cases hl
          obtain ⟨us, hu1, hul, hu2⟩ := L.hd
          have sb : Stt K cl F (e1.back e2 vs) σ H G := s1.back pl L.gg L.st
          have lb : Loose F (e1.back e2 vs) σ p := ⟨lp.1, fun j d hj => by
            by_cases hjv : j ∈ vs
            · rw [back_in vs e1 e2 (by rw [← s1.len, ← wipe_len vs e2, ← L.st.len, wipe_length]) hjv] at hj
              exact lp.2 j d hj
            · rw [back_out vs e1 e2 hjv] at hj
              obtain ⟨d', h'⟩ := L.ow j d hjv hj
              exact lp.2 j d' h'⟩
          refine .inl ⟨it2, z _ H _ (sb.addG hu1 L.gd hp0 lb) (k1.trans ⟨L.gg.trans (same_upd L.gd), fun a o h1 l => ?_, fun j d hj => ?_⟩) (Rep.dct (.inl upd_same) hul (hu2.mono (same_upd L.gd)))⟩
          · obtain ⟨q1, q2⟩ := L.kp a o h1 l
            exact ⟨q1, fun g => by rw [upd_ne (ne_of_none h1 hp)]; exact q2 g⟩
          · by_cases hjv : j ∈ vs
            · rw [back_in vs e1 e2 (by rw [← s1.len, ← wipe_len vs e2, ← L.st.len, wipe_length]) hjv] at hj
              exact ⟨d, hj⟩
            · rw [back_out vs e1 e2 hjv] at hj
              exact L.ow j d hjv hj
  · rw [if_neg pl] at z; exact z.elim
end
section
variable {X : Cx} {cl : Str → Addr} {F : Fra} {W : WX}
theorem re_dc {kx vx tg iter : Expr} {ifs : List Expr} {scope : Scope} {own : List (Str × Nat)} {ws : List Nat} {pos : Pos} {fi : M (List D)} {g : Tg} {ft : M Bool} {fk fv : M R} (hc : X.calm = true) (hN : X.N.Nodup) (hi : RI X cl F W tg iter fi) (ok : BlkOk X.N X.env.scope scope own)
    (hg : ∀ (s : Shared) (H : Hp) (C : Addr) (cs : List (Str × Addr)) (fp : List Addr), RG (X.blk s H scope (compEnvC scope cs C X.env) fp) cl F ws tg g)
    (ht : ∀ (s : Shared) (H : Hp) (C : Addr) (cs : List (Str × Addr)) (fp : List Addr), RTs (X.blk s H scope (compEnvC scope cs C X.env) fp) cl F W0 ifs ft)
    (hk : ∀ (s : Shared) (H : Hp) (C : Addr) (cs : List (Str × Addr)) (fp : List Addr), RE (X.blk s H scope (compEnvC scope cs C X.env) fp) cl F W0 kx fk)
    (he : ∀ (s : Shared) (H : Hp) (C : Addr) (cs : List (Str × Addr)) (fp : List Addr), RE (X.blk s H scope (compEnvC scope cs C X.env) fp) cl F W0 vx fv)
    (hw : ∀ i ∈ ws, i ∈ own.map (·.2) := by decide) (hs : ∀ x, foldedSetIterable iter X.env x = pure x := by intro _; rfl) : RE X cl F W (.DictComp kx vx [⟨tg, iter, ifs, 0⟩] scope pos) (cDc (own.map (·.2)) fi g ft fk fv) :=
  ⟨⟨fun pins s σ H Q I h => (pe_dc hc hN hi.pi ok (fun s H C cs fp => (hg s H C cs fp).pg) (fun s H C cs fp => (ht s H C cs fp).pts) (fun s H C cs fp => (hk s H C cs fp).pe) (fun s H C cs fp => (he s H C cs fp).pe) hs).run pins s σ H Q I (dc_D hw (hg s H 0 [] []).fr h)⟩⟩
end
end DL

namespace DL
open PySem L2 PySem.Spec PyProof.Rows

/-! ### repr: within a call by a caller that is in no repr -/
/-- a def's promise at such calls -/
structure FnG (P : Program) (w : World) (K : PySem.W.Frag) (mg : Str → Option Value) (base : Heap)
    (k : Nat) (f : Addr) (fd : FuncData) (ps : List Str) (sp : Sp) : Prop where
  len : ∀ ys H Q E, sp ys H Q E → ys.length = ps.length
  run : ∀ (A : Around) (out : List PySem.Env) (s : Shared) (H : Hp) (g : Args) (us : List Value) (ys : List V) (Q : VK) (E : XK),
    Room k A → A.guards = some [] → Env0 P w K mg base A out s H → BindsTo s fd g (ps.zip us) → Vals ys us → sp ys H Q E →
    codeAny (model P w) A (.call (.ref f) g) (CR (L2.CX P w) out P w H s Q E) s
section
variable {P : Program} {w : World} {K : PySem.W.Frag} {mg : Str → Option Value} {base : Heap} {k : Nat} {f : Addr} {fd : FuncData} {ps : List Str} {sp sp' : Sp} {cl : Str → Addr}
theorem FnG.of (Fn : FnOk P w K mg base (L2.CX P w) k f fd ps sp) : FnG P w K mg base k f fd ps sp :=
  ⟨Fn.len, fun A out s H g us ys Q E hr _ => Fn.run A out s H g us ys Q E hr⟩
theorem FnG.mono {j : Nat} (Fn : FnG P w K mg base j f fd ps sp) (h : j ≤ k) : FnG P w K mg base k f fd ps sp :=
  ⟨Fn.len, fun A out s H g us ys Q E hr => Fn.run A out s H g us ys Q E (hr.mono h)⟩
theorem FnG.imp (Fn : FnG P w K mg base k f fd ps sp) (i : ∀ ys H Q E, sp' ys H Q E → sp ys H Q E) : FnG P w K mg base k f fd ps sp' :=
  ⟨fun ys H Q E q => Fn.len ys H Q E (i _ _ _ _ q), fun A out s H g us ys Q E hr hg e0 b r q => Fn.run A out s H g us ys Q E hr hg e0 b r (i _ _ _ _ q)⟩
theorem FnG.by {Φ Ψ : Fn} (h : FnG P w K mg base k f fd ps (spD K cl Φ)) (e : ∀ as j, Ψ as j ≠ .bad → Φ as j = Ψ as j) : FnG P w K mg base k f fd ps (spD K cl Ψ) :=
  h.imp fun vs H Q E ⟨as, j, js, G, gh, ao, jr, q⟩ => ⟨as, j, js, G, gh, ao, jr, by
    rw [e as j fun z => by rw [z] at q; exact q]
    exact q⟩
/-- the def's rule, by the body's own wish -/
theorem fnG_of {x qual : Str} {params : Arguments} {body : List Stmt} {scope : Scope} {dV kV doc pm cdv ct oc : Value} {an od : Option Addr} {osl : Array (Option Value)} {N : List Str}
    (look : K.lookup f = some ⟨oc, od, .func (PySem.W.fnOf x qual params body scope dV kV doc pm an cdv ct), osl⟩) (hcode : PySem.W.codeIn K cdv qual = true) (S : FnScope N ps scope) (len : ∀ ys H Q E, sp ys H Q E → ys.length = ps.length)
    (walk : ∀ (A : Around) (out : List PySem.Env) (s : Shared) (H : Hp) (ys : List V) (Q : VK) (E : XK),
      Room k (A.deeper (envOfC qual scope s.heap.objs.size f cdv)) → (A.deeper (envOfC qual scope s.heap.objs.size f cdv)).guards = some [] → sp ys H Q E →
      ∃ t, PSs (cxOf (L2.CX P w) P w K mg base N qual scope f cdv A out s H E) body t ∧ t { nx := fun _ H' => Q .non H', rt := Q } (start N ys) H) :
    FnG P w K mg base (k + 1) f (PySem.W.fnOf x qual params body scope dV kV doc pm an cdv ct) ps sp := by
  refine ⟨len, fun A out s H g us ys Q E hr hg env bnd rel pr => ?_⟩
  have hlen := len _ _ _ _ pr
  have frag : K.In s.heap := env.mod.kin.keeps fun p o z => (env.bs p o z).1
  have nolim : s.heap.NoLimit := env.mod.nolimit.keeps fun p o z => (env.bs p o z).1
  have kinds : ∀ y ∈ ps.zip us, scope.names.lookup y.1 = some .local ∨
      (scope.names.lookup y.1 = some .cell ∧ ((cellsFrom (s.heap.objs.size + 1) scope.names []).lookup y.1).isSome = true) := by
    rintro ⟨n, v⟩ hy
    cases S.par n (List.of_mem_zip hy).1 with
    | inl q => exact .inl q
    | inr q => exact .inr ⟨q, PySem.W.cellsFrom_some _ _ _ (.inl q)⟩
  refine codeAny_call_function hr.depth (frag _ _ look) rfl S.co S.gen rfl (PySem.W.codeRec_of frag hcode) (bnd _ _ _ _ ?_)
  refine wpAny_newFunctionEnv_cells S.kind kinds fun env' ee s1 new => ?_
  subst ee
  refine ⟨nolim.keeps new.toInCall.keep, codeAny_func ?_⟩
  obtain ⟨t, walked, hq⟩ := walk A out s H ys Q E (hr.deeper _) hg pr
  have inv : Inv (cxOf (L2.CX P w) P w K mg base N qual scope f cdv A out s H E) [] (start N ys) H s1 := inv_start S hr.hd env hlen rel new
  refine wpAny_mono (walked.run [] s1 (start N ys) H _ inv hq) (fun fl s' ends => ?_) fun _ _ z => z
  have back : ∀ {σ' : L2.St} {H' : Hp} {v : V} {u : Value}, Inv (cxOf (L2.CX P w) P w K mg base N qual scope f cdv A out s H E) [] σ' H' s' → RelV v u → Q v H' → CE out P w H s Q u s' :=
    fun {σ' H' v u} J rv q => ⟨v, H',
                                                                                                              J.os, J.bare, J.base, J.hok, rv, q⟩
  cases fl with
  | brk => obtain ⟨_, _, _, q⟩ := ends; exact q.elim
  | cont => obtain ⟨_, _, _, q⟩ := ends; exact q.elim
  | next => obtain ⟨σ', H', J, q⟩ := ends; exact back (v := .non) (u := .none) J rfl q
  | ret u => obtain ⟨v, σ', H', J, rv, q⟩ := ends; exact back J rv q
/-- THE RULE for a def that uses repr -/
theorem fnG_D {x qual : Str} {params : Arguments} {body : List Stmt} {scope : Scope} {kws : List (Str × V)} {dvs : List V} {N : List Str} {g : M Fl}
    (Fn : FunD K x qual params body scope dvs kws f fd) (S : FnScope N ps scope)
    (hbody : ∀ (F : Fra) (cdv : Value) (A : Around) (out : List PySem.Env) (s : Shared) (H : Hp) (E : XK), Room k (A.deeper (envOfC qual scope s.heap.objs.size f cdv)) →
      (A.deeper (envOfC qual scope s.heap.objs.size f cdv)).guards = some [] →
      RSs (cxOf (L2.CX P w) P w K mg base N qual scope f cdv A out s H E) cl F (fun c d _ H => E c d H) body g) :
    FnG P w K mg base (k + 1) f fd ps (spD K cl (fnOf N.length ps.length g)) := by
  obtain ⟨oc, od, dV, kV, doc, pm, an, cdv, ct, osl, rfl, lk, hcd, _, _⟩ := Fn.ex
  refine fnG_of lk hcd S (fun ys H Q E h => ?_) fun A out s H ys Q E hr hg h => ?_
  · obtain ⟨as, j, js, G, gh, ao, jr, q⟩ := h
    unfold fnOf at q
    split at q
    · rename_i hl; rw [← ao.length, hl]
    · exact q.elim
  · obtain ⟨as, j, js, G, gh, ao, jr, q⟩ := h
    refine ⟨_, (hbody ⟨H, G, js⟩ cdv A out s H E hr hg).pss, _, _, stt_start gh ao jr, ?_⟩
    unfold fnOf at q
    split at q
    · exact PostFn.of (K := K) q
    · exact q.elim
end
section
variable {X : Cx} {cl : Str → Addr} {F : Fra} {W : WX} {k : Nat} {f : Addr} {fd : FuncData} {ps : List Str} {Φ : Fn} {x : Str} {p pos : Pos} {a : Expr} {es : List Expr} {fs : M (List R)} {sp : Sp} {t : TA} {E : L2.St → XK}
theorem pe_callG (Fn : FnG X.prog X.w X.K X.mg X.base k f fd ps sp) (hG : X.A.guards = some []) (hr : Room k X.A) (hg : Gl X x) (hm : X.mg x = some (.ref f)) (hk : PySem.W.keepIn X.K (.ref f) = true) (hb : Binds X.K fd ps [])
    (hx : ∀ σ, PassesAt (L2.CX X.prog X.w) X σ (E σ)) (ha : PA X (a :: es) t) (hdb : (x == ("__debug__" : Str)) = false)
    (he : starEach (a :: es) X.env = (false, eval a X.env) :: starEach es X.env) (hpl : (backTo pos (starEach es X.env)).any (·.1) = false) : PE X (.Call (.Name x p) (a :: es) [] pos) (tCallS sp E t) := by
  refine ⟨fun pins s σ H Q inv h => wpAny_Call_Name_kw (ld_glob inv hg hm ?_ hdb)⟩
  refine PySem.W.callWith_K (h₀ := X.base) inv.ok.mod.kin hk (thn (ha.run pos pins s σ H _ inv h) fun us s1 ⟨ys, H1, J, r, q⟩ => ⟨J.kIn, ?_⟩) he hpl
  have hlen : us.length = ps.length := by rw [← r.length]; exact Fn.len _ _ _ _ q
  have bnd := hb s1 us J.kIn (by rw [List.append_nil]; exact hlen)
  rw [List.append_nil] at bnd
  refine wpAny_call (codeAny_mono (Fn.run X.A X.stack s1 H1 ⟨us, []⟩ us ys Q (E σ) hr hG J.env0 bnd r q) fun res s' z => ?_)
  cases res with
  | error er => exact hx σ pins H1 s1 er s' J z
  | ok fl =>
    cases fl with
    | next => exact z.elim
    | brk => exact z.elim
    | cont => exact z.elim
    | ret u => exact J.after z
theorem re_callG (Fn : FnG X.prog X.w X.K X.mg X.base k f fd ps (spD X.K cl Φ)) (hG : X.A.guards = some []) (hr : Room k X.A) (tk : Takes X W) (hg : Gl X x) (hm : X.mg x = some (.ref f)) (hk : PySem.W.keepIn X.K (.ref f) = true) (hb : Binds X.K fd ps [])
    (ha : RA X cl F W (a :: es) fs) (hdb : (x == ("__debug__" : Str)) = false := by decide) (he : starEach (a :: es) X.env = (false, eval a X.env) :: starEach es X.env := by rfl) (hpl : (backTo pos (starEach es X.env)).any (·.1) = false := by rfl) :
    RE X cl F W (.Call (.Name x p) (a :: es) [] pos) (cCall Φ fs) :=
  ⟨PE.imp (pe_callG Fn hG hr hg hm hk hb (fun σ => passAt tk σ) ha.pa hdb he hpl) fun σ H Q h => call_D h⟩
theorem re_callGJ (Fn : FnG X.prog X.w X.K X.mg X.base k f fd ps (spD X.K cl Φ)) (hG : X.A.guards = some []) (hr : Room k X.A) (tk : Takes X W) (hg : Gl X x) (hm : X.mg x = some (.ref f)) (hk : PySem.W.keepIn X.K (.ref f) = true) (hb : Binds X.K fd ps [])
    (ha : RA X cl F W (a :: es) fs) (hdb : (x == ("__debug__" : Str)) = false := by decide) (he : starEach (a :: es) X.env = (false, eval a X.env) :: starEach es X.env := by rfl) (hpl : (backTo pos (starEach es X.env)).any (·.1) = false := by rfl) :
    RE X cl F W (.Call (.Name x p) (a :: es) [] pos) (cCallJ Φ fs) :=
  ⟨PE.imp (pe_callG Fn hG hr hg hm hk hb (fun σ => passAt tk σ) ha.pa hdb he hpl) fun σ H Q h => callJ_D h⟩
def isSeqD : D → Bool
  | .tup _ | .lst _ => true
  | _ => false
def reprD : List D → Option D
  | [d] => if isSeqD d && d.pl && d.py.showable && decide (d.py.depth ≤ 60) && decide (d.py.shown.length ≤ sizeLine) && !d.py.hasDict then some (.str d.py.shown) else none
  | _ => none
theorem cd_repr (hG : X.A.guards = some []) (hu : X.A.units + 64 < cLine) : CallD X cl (.builtin "repr") reprD := by
  refine ⟨fun xs H Q => ∃ a d, xs = [V.ref a] ∧ Dp X.K H (.ref a) d ∧ d.showable = true ∧ d.depth ≤ 60 ∧ d.shown.length ≤ sizeLine ∧ d.hasDict = false ∧ Q (.str d.shown) H, ?_, fun H G xs ds dz Q gh t e k => ?_⟩
  · intro pins s σ H xs us Q I r h
    obtain ⟨a, d, rfl, hd, h1, h2, h3, h4, q⟩ := h
    rw [Vals.ref1 r]
    obtain ⟨as, rd⟩ := Dp.reads I d _ (.ref a) hd rfl
    exact repr_of_reads' rd h1 (PyData.noDict_hsm h4) hG (by omega) (fun _ _ z => z) (fun h' u tk kp => ⟨.str d.shown, H, I.kept kp, ⟨u, rfl⟩, q⟩) h3
  · unfold reprD at e
    split at e
    · rename_i d
      split at e
      · rename_i hc
        cases e
        simp only [Bool.and_eq_true, decide_eq_true_eq, Bool.not_eq_true'] at hc
        obtain ⟨⟨⟨⟨⟨c0, c1⟩, c2⟩, c3⟩, c4⟩, c5⟩ := hc
        obtain ⟨v, rfl, tv⟩ := topL1 t
        have rv := tv.rep gh
        cases d with
        | tup l => cases rv with
          | tup h1 h2 => exact ⟨_, _, rfl, Rep.dp (.tup h1 h2) c1, c2, c3, c4, c5, k _ H G .refl .str⟩
        | lst l => cases rv with
          | lst h1 h2 => exact ⟨_, _, rfl, Rep.dp (.lst h1 h2) c1, c2, c3, c4, c5, k _ H G .refl .str⟩
        | _ => cases c0
      · cases e
    · cases e
end
end DL

namespace DL
open PySem L2 PySem.Spec PyProof.Rows

/-! ### defs that tell a new list, their callers' own -/
def PostNew (K : PySem.W.Frag) (cl : Str → Addr) (F : Fra) (Q : VK) (E : XK) (o : OutF) : Prop := match o with
  | .ok d j => ∀ a H' G', Ret K cl F H' G' j → Own K cl H' G' a d → G' a = none → F.H0 a = none → Q (.ref a) H'
  | .exn x j => ∀ cls dd H' G', Ret K cl F H' G' j → ExcAt K cl x cls dd H' G' → E cls dd H'
  | .bad => False
def spN (K : PySem.W.Frag) (cl : Str → Addr) (Φ : Fn) : Sp := fun vs H Q E => ∃ (as : List A) (j : List D) (js : List Addr) (G : Hp),
  Same G H ∧ ArgsOk K cl js G as vs ∧ Jars K cl js H G j ∧ PostNew K cl ⟨H, G, js⟩ Q E (Φ as j)
def outN (o : Out D) : OutF := match o with
  | .ok d e => .ok d e.j
  | .exn x e => .exn x e.j
  | .bad => .bad
def newOf (n np : Nat) (g : M D) : Fn := fun as j => if as.length = np then outN (g (env0 n as j)) else .bad
/-- statements that end by the return of a new list -/
def tNw (K : PySem.W.Frag) (cl : Str → Addr) (F : Fra) (W : WX) (g : M D) : TS := fun D σ H => ∃ e G, Stt K cl F e σ H G ∧ match g e with
  | .ok d e' => ∀ a H' G', Ret K cl F H' G' e'.j → Own K cl H' G' a d → G' a = none → F.H0 a = none → D.rt (.ref a) H'
  | .exn x e' => ∀ cls dd σ' H' G', Stt K cl F e' σ' H' G' → ExcAt K cl x cls dd H' G' → W cls dd σ' H'
  | .bad => False
structure RN (X : Cx) (cl : Str → Addr) (F : Fra) (W : WX) (xs : List Stmt) (g : M D) : Prop where
  pss : PSs X xs (tNw X.K cl F W g)
def nSeq (f : M Fl) (g : M D) : M D := fun e => (f e).bnd fun fl e1 => match fl with
  | .nx => g e1
  | _ => .bad
def callN (e : Env) (o : OutF) : Out D := match o with
  | .ok d [] => .ok d e
  | .exn x [] => .exn x e
  | _ => .bad
def nCallO (Φ : Fn) (o : Option (List D × Env)) : Out D := match o with
  | some (ds, e) => callN e (Φ (ds.map A.dat) [])
  | none => .bad
def nCall (Φ : Fn) (fs : M (List R)) : M D := fun e => (fs e).bnd fun rs e1 => nCallO Φ (e1.frzs rs)
def callT (e : Env) (o : OutF) : Out R := match o with
  | .ok d [_] => .ok (.val d) e
  | .exn x [_] => .exn x e
  | _ => .bad
def cCallT (Φ : Fn) (f : M D) : M R := fun e => (f e).bnd fun d e1 => callT e1 (Φ [.jar 0] [d])
section
variable {X : Cx} {cl : Str → Addr} {F : Fra} {W : WX}
theorem rn_ret {x : Expr} {f : M D} {pos : Pos} (h : RF X cl F W x f) : RN X cl F W [.Return (some x) pos] f := by
  refine ⟨pss_one (PS.imp (ps_ret h.pe) fun D σ H ⟨e, G, st, q⟩ => ⟨e, G, st, ?_⟩)⟩
  cases o : f e with
  | bad => rw [o] at q; exact q
  | exn x e1 => rw [o] at q; exact fun cls dd H' G' s z => q cls dd σ H' G' s z
  | ok d e1 => rw [o] at q; exact fun a H' G' s k ow g h0 l n => q a H' G' s.ret ow g h0
theorem rn_cons {s : Stmt} {ss : List Stmt} {f : M Fl} {g : M D} (h : RS X cl F W s f) (t : RN X cl F W ss g) : RN X cl F W (s :: ss) (nSeq f g) := by
  refine ⟨PSs.imp (pss_cons h.ps t.pss) fun D σ H ⟨e, G, st, q⟩ => ⟨e, G, st, ?_⟩⟩
  unfold nSeq at q
  cases o : f e with
  | bad => rw [o] at q; exact q
  | exn x e1 => rw [o] at q; exact q
  | ok fl e1 =>
    rw [o] at q
    cases fl with
    | nx => exact fun σ' H' G' s _ => ⟨e1, G', s, q⟩
    | rt d => exact q.elim
    | bk => exact q.elim
    | ct => exact q.elim
theorem fn_N {K : PySem.W.Frag} {P : Program} {w : World} {mg : Str → Option Value} {base : Heap} {x qual : Str} {params : Arguments} {body : List Stmt} {scope : Scope} {kws : List (Str × V)} {dvs : List V} {f : Addr} {fd : FuncData} {N ps : List Str} {k : Nat} {g : M D}
    (Fn : FunD K x qual params body scope dvs kws f fd) (S : FnScope N ps scope)
    (hbody : ∀ (F : Fra) (cdv : Value) (A : Around) (outer : List PySem.Env) (s : Shared) (H : Hp) (E : XK), Room k (A.deeper (envOfC qual scope s.heap.objs.size f cdv)) →
      RN (cxOf (L2.CX P w) P w K mg base N qual scope f cdv A outer s H E) cl F (fun c d _ H => E c d H) body g) :
    FnOk P w K mg base (L2.CX P w) (k + 1) f fd ps (spN K cl (newOf N.length ps.length g)) := by
  refine FunD.ok Fn S (fun vs H Q E h => ?_) fun cdv A outer s H vs Q E hr h => ?_
  · obtain ⟨as, j, js, G, gh, ao, jr, q⟩ := h
    unfold newOf at q
    split at q
    · rename_i hl; rw [← ao.length, hl]
    · exact q.elim
  · obtain ⟨as, j, js, G, gh, ao, jr, q⟩ := h
    refine ⟨_, (hbody ⟨H, G, js⟩ cdv A outer s H E hr).pss, _, _, stt_start gh ao jr, ?_⟩
    unfold newOf at q
    split at q
    · cases o : g (env0 N.length as j) with
      | bad => rw [o] at q; exact q
      | exn x e => rw [o] at q; exact fun cls dd σ' H' G' s z => q cls dd H' G' s.ret z
      | ok d e => rw [o] at q; exact q
    · exact q.elim
variable {k : Nat} {f : Addr} {fd : FuncData} {ps : List Str} {Φ : Fn} {x : Str} {p pos : Pos} {a : Expr} {es : List Expr} {fs : M (List R)} {fx : M D}
theorem rf_call (Fn : FnOk X.prog X.w X.K X.mg X.base (L2.CX X.prog X.w) k f fd ps (spN X.K cl Φ)) (hr : Room k X.A) (tk : Takes X W) (hg : Gl X x) (hm : X.mg x = some (.ref f)) (hk : PySem.W.keepIn X.K (.ref f) = true) (hb : Binds X.K fd ps [])
    (ha : RA X cl F W (a :: es) fs) (hdb : (x == ("__debug__" : Str)) = false := by decide) (he : starEach (a :: es) X.env = (false, eval a X.env) :: starEach es X.env := by rfl) (hpl : (backTo pos (starEach es X.env)).any (·.1) = false := by rfl) :
    RF X cl F W (.Call (.Name x p) (a :: es) [] pos) (nCall Φ fs) := by
  refine ⟨PE.imp (pe_callS Fn hr hg hm hk hb (fun σ => passAt tk σ) ha.pa hdb he hpl) fun σ H Q ⟨e, G, st, q⟩ => tA_then st q fun rs e1 vs H1 G1 s1 k1 r1 z => ?_⟩
  cases y : e1.frzs rs with
  | none => rw [y] at z; exact z.elim
  | some pr =>
    obtain ⟨ds, e2⟩ := pr
    rw [y] at z
    obtain ⟨G2, s2, k2, r2⟩ := frzs_ok s1 r1 y
    have z : Post X.K cl F W σ (callN e2 (Φ (ds.map A.dat) [])) _ := z
    refine ⟨ds.map A.dat, [], [], G2, s2.ret.gh, argsOk_dat r2, ⟨rfl, List.nodup_nil, fun k a d h => by simp at h⟩, ?_⟩
    cases o : Φ (ds.map A.dat) [] with
    | bad => rw [o] at z; exact z.elim
    | ok d j =>
      rw [o] at z
      cases j with
      | cons => exact z.elim
      | nil =>
        intro a H' G' r ow ga h0
        obtain ⟨s3, k3⟩ := s2.called r
        obtain ⟨l, h00⟩ := s2.fresh h0
        exact z a H' G' s3 ((k1.trans k2).trans k3) ow ga h00 l fun b o q lb => ne_of_none ((k1.trans k2).kp b o q lb).1 h0
    | exn y j =>
      rw [o] at z
      cases j with
      | cons => exact z.elim
      | nil =>
        intro cls dd H' G' r ex
        obtain ⟨s3, k3⟩ := s2.called r
        exact z cls dd H' G' s3 ex
theorem callT_D {σ : L2.St} {H : Hp} {Q : VK} (h : tD X.K cl F W (cCallT Φ fx) σ H Q) : tCons (tFr X.K cl F W fx) tNil σ H fun vs H1 => spD X.K cl Φ vs H1 Q (fun c d H => W c d σ H) := by
  obtain ⟨e, G, st, q⟩ := h
  refine ⟨e, G, st, ?_⟩
  unfold cCallT at q
  cases o : fx e with
  | bad => rw [o] at q; exact q
  | exn y e1 => rw [o] at q; exact q
  | ok d e1 =>
    rw [o] at q
    intro a H1 G1 s1 k1 ow ga h0 l n
    refine ⟨[.jar 0], [d], [a], G1, s1.ret.gh, .jar rfl .nil, ⟨rfl, by simp, fun k b d' e1 e2 => ?_⟩, ?_⟩
    · cases k with
      | zero => cases e1; cases e2; exact ⟨ga, ow⟩
      | succ k => simp at e1
    have q : Post X.K cl F W σ (callT e1 (Φ [.jar 0] [d])) _ := q
    cases o2 : Φ [.jar 0] [d] with
    | bad => rw [o2] at q; exact q
    | ok r j =>
      rw [o2] at q
      match j, q with
      | [d'], q =>
        intro v H' G' rt rv
        obtain ⟨s2, k2⟩ := s1.calledL l h0 rt
        refine q v H' G' s2 ⟨fun b u z => rt.g0 b u (k1.gg b u z), fun b u z lb => ?_, fun i d h => k1.ow i d h⟩ rv
        obtain ⟨z1, z2⟩ := k1.kp b u z lb
        obtain ⟨z3, z4⟩ := k2 b u (n b u z lb) z1
        exact ⟨z3, fun g => z4 (z2 g)⟩
      | [], q => exact q.elim
      | _ :: _ :: _, q => exact q.elim
    | exn y j =>
      rw [o2] at q
      match j, q with
      | [d'], q =>
        intro cls dd H' G' rt ex
        obtain ⟨s2, k2⟩ := s1.calledL l h0 rt
        exact q cls dd H' G' s2 ex
      | [], q => exact q.elim
      | _ :: _ :: _, q => exact q.elim
theorem re_callT (Fn : FnOk X.prog X.w X.K X.mg X.base (L2.CX X.prog X.w) k f fd ps (spD X.K cl Φ)) (hr : Room k X.A) (tk : Takes X W) (hg : Gl X x) (hm : X.mg x = some (.ref f)) (hk : PySem.W.keepIn X.K (.ref f) = true) (hb : Binds X.K fd ps [])
    (ha : RF X cl F W a fx) (hdb : (x == ("__debug__" : Str)) = false := by decide) (he : starEach [a] X.env = (false, eval a X.env) :: starEach [] X.env := by rfl) (hpl : (backTo pos (starEach [] X.env)).any (·.1) = false := by rfl) :
    RE X cl F W (.Call (.Name x p) [a] [] pos) (cCallT Φ fx) :=
  ⟨PE.imp (pe_callS Fn hr hg hm hk hb (fun σ => passAt tk σ) (pa_cons ha.pe pa_nil he) hdb he hpl) fun σ H Q h => callT_D h⟩
theorem re_callGT (Fn : FnG X.prog X.w X.K X.mg X.base k f fd ps (spD X.K cl Φ)) (hG : X.A.guards = some []) (hr : Room k X.A) (tk : Takes X W) (hg : Gl X x) (hm : X.mg x = some (.ref f)) (hk : PySem.W.keepIn X.K (.ref f) = true) (hb : Binds X.K fd ps [])
    (ha : RF X cl F W a fx) (hdb : (x == ("__debug__" : Str)) = false := by decide) (he : starEach [a] X.env = (false, eval a X.env) :: starEach [] X.env := by rfl) (hpl : (backTo pos (starEach [] X.env)).any (·.1) = false := by rfl) :
    RE X cl F W (.Call (.Name x p) [a] [] pos) (cCallT Φ fx) :=
  ⟨PE.imp (pe_callG Fn hG hr hg hm hk hb (fun σ => passAt tk σ) (pa_cons ha.pe pa_nil he) hdb he hpl) fun σ H Q h => callT_D h⟩
/-- -i -/
def cNeg (f : M R) : M R := fun e => (f e).bnd fun r e1 => match r with
  | .val (.int i) => .ok (.val (.int (-i))) e1
  | _ => .bad
theorem re_neg {f : M R} (h : RE X cl F W a f) : RE X cl F W (.UnaryOp .USub a pos) (cNeg f) := by
  refine ⟨PE.imp (pe_un un_neg h.pe) fun σ H Q ⟨e, G, st, q⟩ => tD_then st q fun r e1 v H1 G1 s1 k1 r1 z => ?_⟩
  cases r with
  | whole i => exact z.elim
  | val d =>
    cases d with
    | int i => cases r1; exact ⟨i, rfl, z _ H1 G1 s1 k1 .int⟩
    | _ => exact z.elim
end

/-! ### the head -/
section
variable {P : Program} {w : World} {K : PySem.W.Frag} {mg mb : Str → Option Value} {cl : Str → Addr}
/-- the law's call, from its def's promise at such calls -/
theorem law_run {k : Nat} {fa a : Addr} {fd : FuncData} {x : Str} {Φ : Fn} {s₁ : Shared} {vs : List Value} {ns : List Int}
    (KX : K.In s₁.heap) (hns : s₁.heap.Ns mainGlobals mg) (hbu : s₁.heap.Ns builtinsNs mb) (hbb : ∀ x : Str, x ≠ "__name__" → mb x = bootBuiltins x) (hlim : s₁.heap.NoLimit) (hgen : s₁.gens = #[])
    (obj : s₁.heap.get? a = some { cls := .type "list", data := .seq vs.toArray }) (whole : IntsAre vs ns) (hl : ns.length ≤ sizeLine) (hr : Room k callerA)
    (Fn : ∀ base : Heap, K.In base → base.Ns mainGlobals mg → FnG P w K mg base k fa fd [x] (spD K cl Φ)) (hbind : ∀ (s : Shared) (u : Value), BindsTo s fd ⟨[u], []⟩ [(x, u)])
    (holds : Φ [.dat (.scr ns)] [] = .ok (.bl true) []) :
    codeAny (model P w) callerA (.call (.ref fa) ⟨[.ref a], []⟩) (fun r s' => r = .ok
                                                                                                              (.ret (.bool true)) ∧ OldK s₁.heap s'.heap ∧ s'.os = s₁.os ∧ AllBare s'.gens) s₁ := by
  have rel := vals_ints whole
  have len := whole.length
  have mid : ∀ H : Hp, Only H → SqL K H a (ns.map V.int) → HOk P w H s₁.heap → (∀ p, H p ≠ none → p = a) → (H a ≠ none → K.lookup a = none) →
      codeAny (model P w) callerA (.call (.ref fa) ⟨[.ref a], []⟩) (fun r s' => r = .ok
                                                                                                              (.ret (.bool true)) ∧ OldK s₁.heap s'.heap ∧ s'.os = s₁.os ∧ AllBare s'.gens) s₁ := by
    intro H only script hok one away
    have free_of : ∀ {p : Addr} {o : Obj}, s₁.heap.get? p = some o → H p = none → (hidT s₁.heap H).get? p = some o := fun z n => hidT_get z n
    have untold : ∀ {p : Addr} {o : Obj} {es : Array DictEntry} {ep : Nat}, s₁.heap.get? p = some o → o.data = .dict es ep → H p = none := by
      intro p o es ep z d
      cases q : H p with
      | none => rfl
      | some u =>
        obtain rfl : p = a := one p (by rw [q]; simp)
        rw [obj] at z
        cases z
        cases (show Data.seq vs.toArray _ = Data.dict es ep from d)
    have names : ∀ {p : Addr} {m : Str → Option Value}, s₁.heap.Ns p m → (hidT s₁.heap H).Ns p m := fun {p m} ⟨o, es, ep, z, d, r⟩ => ⟨o, es, ep, free_of z (untold z d), d, r⟩
    have frag : K.In (hidT s₁.heap H) := fun p o z => free_of (KX p o z) (by
      cases q : H p with
      | none => rfl
      | some u =>
        obtain rfl : p = a := one p (by rw [q]; simp)
        rw [away (by rw [q]; simp)] at z
        cases z)
    have md : Mod K mg (hidT s₁.heap H) := ⟨frag, names hns, ⟨mb, names hbu, hbb⟩, by obtain ⟨mc, h1, h2⟩ := hlim; exact ⟨mc, names h1, h2⟩⟩
    have env : Env0 P w K mg (hidT s₁.heap H) callerA [] s₁ H :=
      ⟨rfl, md, fun p o z => of_hidT z, Nat.le_of_eq (hidT_size _ _), trivial, fun p hp => absurd (show p ∈ ([] : List Addr) from hp) (by simp), hok, .of_eq hgen⟩
    have pr : spD K cl Φ [.ref a] H (fun v _ => v = .bl true) fun _ _ _ => False := by
      refine ⟨[.dat (.scr ns)], [], [], H, .refl _, .dat (.scr script) .nil, ⟨rfl, List.nodup_nil, fun k p d z => by simp at z⟩, ?_⟩
      rw [holds]
      intro v H' G' _ rv
      cases rv
      rfl
    refine codeAny_mono ((Fn _ frag (names hns)).run callerA [] s₁ H ⟨[.ref a], []⟩ [.ref a] [.ref a] _ _ hr rfl env (hbind s₁ (.ref a)) (.cons rfl .nil) pr) fun r s' z => ?_
    cases r with
    | error er => obtain ⟨_, _, _, _, _, _, _, _, _, _, _, _, z⟩ := z; exact z.elim
    | ok fl =>
      cases fl with
      | next => exact z.elim
      | brk => exact z.elim
      | cont => exact z.elim
      | ret u =>
        obtain ⟨v, H', os, bare, un, hok', rv, q⟩ := z
        obtain rfl : v = .bl true := q
        obtain rfl : u = Value.bool true := rv
        refine ⟨rfl, OldK.of_keep fun p o z => ?_, os, bare⟩
        cases q : H p with
        | none => exact un.keep p o z q (by intro z; exact absurd (show p ∈ ([] : List Addr) from z) (by simp)) (by simp)
        | some u =>
          rcases only p with y | ⟨ob, xs, y⟩
          · rw [q] at y; cases y
          · have y2 := un.frzs p ob _ y
            obtain ⟨e1, _⟩ := hok p _ y
            obtain ⟨e2, _⟩ := hok' p _ y2
            rw [z] at e1
            cases e1
            exact e2
  cases own : K.lookup a with
  | some o =>
    have z := KX a o own
    rw [obj] at z
    cases z
    exact mid (fun _ => none) (fun _ => .inl rfl) (.inr ⟨_, vs.toArray, _, own, rfl, rfl, rfl, by rw [List.size_toArray, len]; exact hl, by simpa using rel⟩)
      (fun p u z => by cases (show (none : Option HO) = some u from z)) (fun p z => absurd rfl z) fun z => absurd rfl z
  | none =>
    refine mid (fun p => if p = a then some (.frz { cls := .type "list", data := .seq vs.toArray } (.lst (ns.map V.int))) else none) (fun p => ?_)
      (.inl (.inr ⟨{ cls := .type "list", data := .seq vs.toArray }, if_pos rfl⟩)) (fun p u z => ?_) (fun p z => ?_) fun _ => own
    · by_cases hp : p = a
      · exact .inr ⟨_, _, if_pos hp⟩
      · exact .inl (if_neg hp)
    · by_cases hp : p = a
      · cases (if_pos hp).symm.trans z
        subst hp
        exact ⟨obj, by rw [List.length_map]; exact hl, vs, _, rel, obj⟩
      · cases (if_neg hp).symm.trans z
    · by_cases hp : p = a
      · exact hp
      · exact absurd (if_neg hp) z
end
/-- the goal that the head leaves -/
theorem walk_D {l : PySem.W.OpenLaw} {n k : Nat} {q : Program} {loose : List Str} {XP : (Str → Option Value) → Heap → Prop} {YP : World → Heap → Prop} {d : DefRec} {x : Str} {Φ : Fn} (hn : l.most = some n) (hn2 : n ≤ sizeLine) (hdf : d.params.defaults = []) (hr : Room k callerA)
    (Fn : ∀ (w : World) (mg : Str → Option Value) (fa : Addr) (h : Heap), YP w h → h.Ns mainGlobals mg → mg d.name = some (.ref fa) →
      ∃ (K : PySem.W.Frag) (fd : FuncData) (cl : Str → Addr), K.In h ∧ (∀ (s : Shared) (u : Value), BindsTo s fd ⟨[u], []⟩ [(x, u)]) ∧
        ∀ base : Heap, K.In base → base.Ns mainGlobals mg → FnG l.prog w K mg base k fa fd [x] (spD K cl Φ))
    (holds : ∀ ns : List Int, ns.length ≤ n → Φ [.dat (.scr ns)] [] = .ok (.bl true) []) : PySem.W.WalkO q loose XP YP l.row.toRowW d [] (fun f vs => PySem.call f vs) := by
  refine Att.attach_call hn hdf fun w s₀ s₁ mg mb fa o pm
                                                                                                              cd doc a vs ns G Y ho hd hcd hmg hobj hints hlen hg => ?_
  obtain ⟨K, fd, cl, KX, hb, hF⟩ := Fn w mg fa _ Y G.T.g hmg
  exact law_run KX G.T.g G.T.b G.T.builtins G.T.nolimit hg hobj hints (Nat.le_trans hlen hn2) hr hF hb (holds ns hlen)
end DL

namespace DL
open PySem L2 PySem.Spec PyProof.Rows

/-! ### what the head must find -/
/-- where a def stands: a global, a class's method, the getter of a class's property, the def of a classmethod -/
inductive At where
  | g (x : Str) | m (c x : Str) | p (c x : Str)
def recAt (K : PySem.W.Frag) (c x : Str) : Addr := He.ma K (He.ga K c) x
def getterAt (K : PySem.W.Frag) (c x : Str) : Addr := match PySem.W.recIn K (recAt K c x) "property" with
  | some (.ref g :: _) => g
  | _ => 0
def At.ad (K : PySem.W.Frag) : At → Addr
  | .g x => He.ga K x
  | .m c x => He.ma K (He.ga K c) x
  | .p c x => getterAt K c x
structure Df where
  at_ : At
  name : Str
  qual : Str
  params : Arguments
  body : List Stmt
  scope : Scope
abbrev DfV : Type := Option (Str × Str × Arguments × FuncBody × Scope × Addr × List (Str × Addr) × Addr)
def dfV (K : PySem.W.Frag) (a : Addr) : DfV := match K.lookup a with
  | some ⟨_, _, .func fd, _⟩ =>
                                                                                                              some (fd.name, fd.qualname, fd.params, fd.body, fd.scope, fd.globals, fd.closure, fd.builtins)
  | _ => none
def Df.val (d : Df) : DfV := some (d.name, d.qual, d.params, .stmts d.body, d.scope, mainGlobals, [], builtinsNs)
def Df.ok (K : PySem.W.Frag) (d : Df) : Bool := PySem.W.keepIn K (.ref (d.at_.ad K)) && (match K.lookup (d.at_.ad K) with
  | some ⟨_, _, .func fd, _⟩ => PySem.W.codeIn K fd.code d.qual && (He.dflB K fd.defaults [] && He.kwdB K fd.kwdefaults [])
  | _ => false)
theorem Df.funD {K : PySem.W.Frag} {d : Df} (e : dfV K (d.at_.ad K) = d.val) (c : d.ok K = true) : ∃ fd, FunD K d.name d.qual d.params d.body d.scope [] [] (d.at_.ad K) fd := by
  obtain ⟨kp, c2⟩ := Bool.and_eq_true_iff.mp c
  unfold dfV at e
  cases q : K.lookup (d.at_.ad K) with
  | none => rw [q] at c2; cases c2
  | some o =>
    obtain ⟨ocl, odc, dta, slt⟩ := o
    rw [q] at c2 e
    cases dta with
    | func fd =>
      obtain ⟨v1, v2, v3, v4, v5, v6, v7, v8, v9, v10, v11, v12, v13, v14, v15⟩ := fd
      have e : (some (v1, v2, v3, v4, v5, v6, v7, v15) : DfV) = some (d.name, d.qual, d.params, .stmts d.body, d.scope, mainGlobals, [], builtinsNs) := e
      simp only [Option.some.injEq,
                                                                                                              Prod.mk.injEq] at e
      obtain ⟨h1, h2, h3, h4, h5, h6, h7, h8⟩ := e
      subst h1 h2 h3 h4 h5 h6 h7 h8
      obtain ⟨k1, k2⟩ := Bool.and_eq_true_iff.mp (show (PySem.W.codeIn K v13 d.qual && (He.dflB K v8 [] && He.kwdB K v9 [])) = true from c2)
      obtain ⟨k3, k4⟩ := Bool.and_eq_true_iff.mp k2
      exact ⟨_, ⟨ocl, odc, v8, v9, v10, v11, v12, v13, v14, slt, rfl, q, k1, He.dflB_ok k3, He.kwdB_ok k4⟩, kp⟩
    | _ => cases c2
/-- more facts: a property; the classes that isinstance is asked of -/
inductive Fc where
  | prp (c x : Str)
  | ins (c : Str)
  | own (c c' : Str) (b : Bool)
def Fc.ok (K : PySem.W.Frag) : Fc → Bool
  | .prp c x => He.eqO (PySem.W.findIn K (.ref (He.ga K c)) x) (some (some (.ref (recAt K c x)))) && (He.eqO (PySem.W.specialIn K (.ref (recAt K c x)) "__get__") (some (some (.builtin "property.__get__"))) &&
    (decide (PySem.W.takesIn K (.ref (recAt K c x)) = some true) && (match PySem.W.recIn K (recAt K c x) "property" with
      | some (.ref _ :: _) => true
      | _ => false)))
  | .ins c => He.eqO (PySem.W.findIn K (.ref (He.ga K c)) "__class__") (some (some (.builtin "object.__class__"))) && (He.eqO (PySem.W.specialIn K (.builtin "object.__class__") "__get__") (some (some (.builtin "getset_descriptor.__get__"))) &&
    (decide (PySem.W.takesIn K (.builtin "object.__class__") = some true) && (decide (PySem.W.mroIn K (He.ga K c) (.type "object") = some true) &&
    ((["str", "int", "bool", "tuple", "list", "dict"].all fun T => decide (PySem.W.kitOne K (.ref (He.ga K c)) (.type T) = some false)) && kinds.all fun n => decide (PySem.W.kitOne K (.type n) (.ref (He.ga K c)) = some false)))))
  | .own c c' b => decide (PySem.W.kitOne K (.ref (He.ga K c)) (.ref (He.ga K c')) = some b)
section
variable {K : PySem.W.Frag}
theorem and2 {a b : Bool} (h : (a && b) = true) : a = true ∧ b = true := Bool.and_eq_true_iff.mp h
theorem Fc.prp_ok {c x : Str} (h : (Fc.prp c x).ok K = true) : PropOf K (He.ga K c) x (recAt K c x) (getterAt K c x) := by
  obtain ⟨h1, h⟩ := and2 h
  obtain ⟨h2, h⟩ := and2 h
  obtain ⟨h3, h4⟩ := and2 h
  refine ⟨He.eqO_ok h1, He.eqO_ok h2, of_decide_eq_true h3, ?_⟩
  unfold getterAt
  split at h4
  · rename_i g r e
    rw [e]
    exact ⟨r, rfl⟩
  · cases h4
theorem Fc.ins_ok {c : Str} (h : (Fc.ins c).ok K = true) (hc : Cls K (He.ga K c)) : InsOk K (He.ga K c) ∧ (∀ T ∈ ["str", "int", "bool", "tuple", "list", "dict"], PySem.W.kitOne K (.ref (He.ga K c)) (.type T) = some false) ∧
    ∀ n ∈ kinds, PySem.W.kitOne K (.type n) (.ref (He.ga K c)) = some false := by
  obtain ⟨h1, h⟩ := and2 h
  obtain ⟨h2, h⟩ := and2 h
  obtain ⟨h3, h⟩ := and2 h
  obtain ⟨h4, h⟩ := and2 h
  obtain ⟨h5, h6⟩ := and2 h
  exact ⟨⟨hc, He.eqO_ok h1, He.eqO_ok h2, of_decide_eq_true h3, of_decide_eq_true h4⟩, fun T hT => of_decide_eq_true (List.all_eq_true.mp h5 T hT), fun n hn => of_decide_eq_true (List.all_eq_true.mp h6 n hn)⟩
end
abbrev AlX : Type := Bool × List DfV
def obsX (fa : List He.Fa) (fc : List Fc) (fn : List Df) (K : PySem.W.Frag) : AlX := ((fa.all fun f => f.ok K) && ((fc.all fun f => f.ok K) && fn.all fun d => d.ok K), fn.map fun d => dfV K (d.at_.ad K))
def valX (fn : List Df) : AlX := (true, fn.map Df.val)
def SaysX (fa : List He.Fa) (fc : List Fc) (fn : List Df) (K : PySem.W.Frag) : Prop := obsX fa fc fn K = valX fn
def obsXG (n : Nat) (fa : List He.Fa) (fc : List Fc) (fn : List Df) (g : Addr → Option Obj) : AlX := obsX fa fc fn (He.frG g (He.asD g n))
def hookX (n : Nat) (fa : List He.Fa) (fc : List Fc) (fn : List Df) : PySem.W.Hook where
  α := AlX
  obs := fun s => obsXG n fa fc fn s.heap.get?
  val := fun _ => valX fn
  says := fun _ h => ∃ K : PySem.W.Frag, K.In h ∧ SaysX fa fc fn K
  of := fun _ _ e => ⟨_, He.frG_in, e⟩
  keeps := fun _ _ _ ⟨K, hK, c⟩ k =>
                                                                                                              ⟨K, PySem.W.Frag.In.keeps hK k, c⟩
theorem obsXG_eq {n : Nat} {fa : List He.Fa} {fc : List Fc} {fn : List Df} {g : Addr → Option Obj} {s : Shared} (h : ∀ a, g a = s.heap.get? a) : obsXG n fa fc fn g = (hookX n fa fc fn).obs s := by
  obtain rfl : g = s.heap.get? := funext h
  rfl
section
variable {fa : List He.Fa} {fc : List Fc} {fn : List Df} {K : PySem.W.Frag}
theorem SaysX.fact (c : SaysX fa fc fn K) (i : Nat) {f : He.Fa} (h : fa[i]? = some f := by rfl) : f.ok K = true :=
  List.all_eq_true.mp (and2 (show ((fa.all fun f => f.ok K) && ((fc.all fun f => f.ok K) && fn.all fun d => d.ok K)) = true from congrArg (fun z : AlX => z.1) c)).1 f (List.mem_of_getElem? h)
theorem SaysX.more (c : SaysX fa fc fn K) (i : Nat) {f : Fc} (h : fc[i]? = some f := by rfl) : f.ok K = true :=
  List.all_eq_true.mp (and2 (and2 (show ((fa.all fun f => f.ok K) && ((fc.all fun f => f.ok K) && fn.all fun d => d.ok K)) = true from congrArg (fun z : AlX => z.1) c)).2).1 f (List.mem_of_getElem? h)
theorem SaysX.df (c : SaysX fa fc fn K) (i : Nat) {d : Df} (h : fn[i]? = some d := by rfl) : ∃ fd, FunD K d.name d.qual d.params d.body d.scope [] [] (d.at_.ad K) fd := by
  have c2 := (and2 (and2 (show ((fa.all fun f => f.ok K) && ((fc.all fun f => f.ok K) && fn.all fun d => d.ok K)) = true from congrArg (fun z : AlX => z.1) c)).2).2
  have e : fn.map (fun d => dfV K (d.at_.ad K)) = fn.map Df.val := congrArg (fun z : AlX => z.2) c
  have e2 : (fn.map fun d => dfV K (d.at_.ad K))[i]? = (fn.map Df.val)[i]? := by rw [e]
  rw [List.getElem?_map,
                                                                                                              List.getElem?_map, h] at e2
  exact Df.funD (Option.some.inj e2) (List.all_eq_true.mp c2 d (List.mem_of_getElem? h))
end
end DL

namespace DL
open PySem L2 PySem.Spec PyProof.Rows

/-! ### small things for the printed proofs -/
def bodyOf (s : Stmt) : List Stmt := match s with
  | .ClassDef _ _ _ b _ _ _ _ _ _ _ => b
  | _ => []
theorem room64 {k : Nat} {A : Around} (r : Room k A) : A.units + 64 < cLine := r.units
theorem room65 {k : Nat} {A : Around} (r : Room k A) : A.units + 65 < cLine := by have := r.un; omega
theorem room1 {k : Nat} {A : Around} (r : Room k A) : A.units + 1 < cLine := by have := r.un; omega
theorem si0 {E : XK} : SI fun c d _ H => E c d H := fun _ _ _ _ _ z => z
theorem fn_bad {P : Program} {w : World} {K : PySem.W.Frag} {mg : Str → Option Value} {base : Heap} {cl : Str → Addr} {k : Nat} {f : Addr} {fd : FuncData} {ps : List Str} : FnOk P w K mg base (L2.CX P w) k f fd ps (spD K cl fun _ _ => .bad) :=
  ⟨fun _ _ _ _ ⟨_, _, _, _, _, _, _, z⟩ => z.elim, fun _ _ _ _ _ _ _ _ _ _ _ _ _ ⟨_, _, _, _, _, _, _, z⟩ => z.elim⟩
/-- it raises nothing -/
def NX {α : Type} (f : M α) : Prop := ∀ e x e', f e ≠ .exn x e'
theorem nx_bnd {α β : Type} {f : M α} {k : α → Env → Out β} (h : NX f) (hk : ∀ a e x e', k a e ≠ .exn x e') : NX fun e => (f e).bnd k := fun e x e' z => by
  have z : (f e).bnd k = .exn x e' := z
  cases q : f e with
  | ok a e1 => rw [q] at z; exact hk a e1 x e' z
  | exn y e1 => exact h _ _ _ q
  | bad => rw [q] at z; cases z
theorem nx_var {i : Nat} : NX (cVar i) := fun e x e' z => by
  unfold cVar at z
  split at z <;> cases z
theorem nx_c {d : D} : NX (cC d) := fun e x e' z => by cases z
theorem nx_opt {o : Option D} {e : Env} {x : Exc} {e' : Env} : opt o e ≠ .exn x e' := fun z => by cases o <;> cases z
theorem nx_op {g : D → D → Option D} {f1 f2 : M R} (h1 : NX f1) (h2 : NX f2) : NX (cOp g f1 f2) := nx_bnd h1 fun a e x e' z => nx_bnd h2 (fun b e x e' z => nx_opt z) e x e' z
theorem nx_fld {cs : List Str} {n : Str} {f : M R} (h : NX f) : NX (cFld cs n f) := nx_bnd h fun a e x e' z => nx_opt z
theorem nx_ret {f : M R} (h : NX f) : NX (sRet f) := nx_bnd h fun a e x e' z => by
  unfold retF at z
  split at z <;> cases z
theorem nx_fn {n np : Nat} {g : M Fl} (h : NX g) : ∀ d x j, fnOf n np g [.dat d] [] ≠ .exn x j := fun d x j z => by
  unfold fnOf at z
  split at z
  · cases q : g (env0 n [A.dat d] []) with
    | ok fl e => rw [q] at z; cases fl <;> cases z
    | exn y e => exact h _ _ _ q
    | bad => rw [q] at z; cases z
  · cases z
end DL

namespace DL
open PySem L2 PySem.Spec PyProof.Rows

/-! ### what the mirrors do, for simp -/
section
variable {α β : Type} {e e' : Env} {s : List S} {j : List D} {i : Nat} {d : D}
@[simp] theorem v_bnd {a : α} {k : α → Env → Out β} : (Out.ok a e).bnd k = k a e := rfl
@[simp] theorem v_bad {k : α → Env → Out β} : (Out.bad : Out α).bnd k = .bad := rfl
@[simp] theorem v_nx {k : Env → Out Fl} : (Out.ok Fl.nx e).bndF k = k e := rfl
@[simp] theorem v_rt {k : Env → Out Fl} : (Out.ok (Fl.rt d) e).bndF k = .ok (.rt d) e := rfl
@[simp] theorem v_bk {k : Env → Out Fl} : (Out.ok Fl.bk e).bndF k = .ok .bk e := rfl
@[simp] theorem v_ct {k : Env → Out Fl} : (Out.ok Fl.ct e).bndF k = .ok .ct e := rfl
@[simp] theorem v_badF {k : Env → Out Fl} : (Out.bad : Out Fl).bndF k = .bad := rfl
@[simp] theorem v_seq {f g : M Fl} : sSeq f g e = (f e).bndF g := rfl
def varO (i : Nat) (e : Env) : Option S → Out R
  | some (.dat d) => .ok (.val d) e
  | some (.own _) => .ok (.whole i) e
  | some (.jar _) => .ok (.whole i) e
  | _ => .bad
@[simp] theorem v_var : cVar i e = varO i e e.s[i]? := by unfold cVar varO; first | rfl | (split <;> simp_all)
@[simp] theorem v_varD : varO i e (some (.dat d)) = .ok (.val d) e := rfl
@[simp] theorem v_varO : varO i e (some (.own d)) = .ok (.whole i) e := rfl
@[simp] theorem v_varJ {k : Nat} : varO i e (some (.jar k)) = .ok (.whole i) e := rfl
@[simp] theorem v_c : cC d e = .ok (.val d) e := rfl
def rdO (e : Env) : Option S → Option D
  | some (.own d) => some d
  | some (.jar k) => e.j[k]?
  | _ => none
@[simp] theorem v_rdV : e.rd (.val d) = some d := rfl
@[simp] theorem v_rdW : e.rd (.whole i) = rdO e e.s[i]? := by unfold Env.rd rdO; first | rfl | (simp only; done) | (simp only; split <;> simp_all)
@[simp] theorem v_rdOo : rdO e (some (.own d)) = some d := rfl
@[simp] theorem v_rdOj {k : Nat} : rdO e (some (.jar k)) = e.j[k]? := rfl
@[simp] theorem v_rdOd : rdO e (some (.dat d)) = none := rfl
@[simp] theorem v_frzV : e.frz (.val d) = some (d, e) := rfl
def frzO (i : Nat) (e : Env) : Option S → Option (D × Env)
  | some (.own d) => some (d, e.setS i (.dat d))
  | _ => none
@[simp] theorem v_frzW : e.frz (.whole i) = frzO i e e.s[i]? := by unfold Env.frz frzO; first | rfl | (simp only; done) | (simp only; split <;> simp_all)
@[simp] theorem v_frzOo : frzO i e (some (.own d)) = some (d, e.setS i (.dat d)) := rfl
@[simp] theorem v_frzs0 : e.frzs [] = some ([], e) := rfl
def frzC (d : D) : Option (List D × Env) → Option (List D × Env)
  | some (ds, e) => some (d :: ds, e)
  | none => none
def frz2 (rs : List R) : Option (D × Env) → Option (List D × Env)
  | some (d, e) => frzC d (e.frzs rs)
  | none => none
@[simp] theorem v_frzs {r : R} {rs : List R} : e.frzs (r :: rs) = frz2 rs (e.frz r) := by
  unfold frz2 frzC
  show (match e.frz r with | some (d, e1) => _ | none => none) = _
  split <;> rfl
@[simp] theorem v_frz2 {rs : List R} : frz2 rs (some (d, e)) = frzC d (e.frzs rs) := rfl
@[simp] theorem v_frzC {ds : List D} : frzC d (some (ds, e)) = some (d :: ds, e) := rfl
@[simp] theorem v_set {x : S} : Env.setS ⟨s, j⟩ i x = ⟨s.set i x, j⟩ := rfl
@[simp] theorem v_nil : cNil e = .ok [] e := rfl
@[simp] theorem v_cons {f : M R} {g : M (List R)} : cCons f g e = (f e).bnd fun r e1 => (g e1).bnd fun rs e2 => .ok (r :: rs) e2 := rfl
@[simp] theorem v_opt : opt (some d) e = .ok (.val d) e := rfl
@[simp] theorem v_opt0 : opt none e = .bad := rfl
@[simp] theorem v_opt2 {g : D → D → Option D} {a b : D} : opt2 g (some a) (some b) = g a b := rfl
@[simp] theorem v_optB {a : α} : optB (some a) e = .ok a e := rfl
@[simp] theorem v_op {g : D → D → Option D} {f1 f2 : M R} : cOp g f1 f2 e = (f1 e).bnd fun x e1 => (f2 e1).bnd fun y e2 => opt (opt2 g (e2.rd x) (e2.rd y)) e2 := rfl
@[simp] theorem v_rds0 : e.rds [] = some [] := rfl
def rds2 : Option D → Option (List D) → Option (List D)
  | some d, some ds =>
                                                                                                              some (d :: ds)
  | _, _ => none
@[simp] theorem v_rds {r : R} {rs : List R} : e.rds (r :: rs) = rds2 (e.rd r) (e.rds rs) := by
  show (match e.rd r, e.rds rs with | some d, some ds => some (d :: ds) | _, _ => none) = _
  unfold rds2
  cases e.rd r <;> cases e.rds rs <;> rfl
@[simp] theorem v_rds2 {ds : List D} : rds2 (some d) (some ds) = some (d :: ds) := rfl
@[simp] theorem v_cb {g : List D → Option D} {fs : M (List R)} : cCB g fs e = (fs e).bnd fun rs e1 => opt ((e1.rds rs).bind g) e1 := rfl
def tstO (e : Env) : R → Out Bool
  | .val (.bl b) => .ok b e
  | _ => .bad
@[simp] theorem v_tst {f : M R} : cTest f e = (f e).bnd fun r e1 => tstO e1 r := by first | rfl | (unfold cTest tstO; rfl)
@[simp] theorem v_tstO {b : Bool} : tstO e (.val (.bl b)) = .ok b e := rfl
@[simp] theorem v_tru {f : M R} : cTru f e = (f e).bnd fun r e1 => optB ((e1.rd r).bind tru) e1 := rfl
@[simp] theorem v_truB {b : Bool} : tru (.bl b) = some b := rfl
@[simp] theorem v_not {f : M Bool} : cNot f e = (f e).bnd fun b e1 => .ok (!b) e1 := rfl
@[simp] theorem v_and {f g : M Bool} : cAnd f g e = (f e).bnd fun b e1 => if b then g e1 else .ok false e1 := rfl
@[simp] theorem v_or {f g : M Bool} : cOr f g e = (f e).bnd fun b e1 => if b then .ok true e1 else g e1 := rfl
def andO (g : M R) (e : Env) : R → Out R
  | .val (.bl b) => if b then g e else .ok (.val (.bl false)) e
  | _ => .bad
@[simp] theorem v_andV {f g : M R} : cAndV f g e = (f e).bnd fun r e1 => andO g e1 r := rfl
@[simp] theorem v_andO {b : Bool} {g : M R} : andO g e (.val (.bl b)) = if b then g e else .ok (.val (.bl false)) e := rfl
def orO (g : M R) (e : Env) : R → Out R
  | .val (.bl b) => if b then .ok (.val (.bl true)) e else g e
  | _ => .bad
@[simp] theorem v_orV {f g : M R} : cOrV f g e = (f e).bnd fun r e1 => orO g e1 r := rfl
@[simp] theorem v_orO {b : Bool} {g : M R} : orO g e (.val (.bl b)) = if b then .ok (.val (.bl true)) e else g e := rfl
def notO (e : Env) : R → Out R
  | .val (.bl b) => .ok (.val (.bl (!b))) e
  | _ => .bad
@[simp] theorem v_notV {f : M R} : cNotV f e = (f e).bnd fun r e1 => notO e1 r := rfl
@[simp] theorem v_notO {b : Bool} : notO e (.val (.bl b)) = .ok (.val (.bl (!b))) e := rfl
def negO (e : Env) : R → Out R
  | .val (.int i) => .ok (.val (.int (-i))) e
  | _ => .bad
@[simp] theorem v_neg {f : M R} : cNeg f e = (f e).bnd fun r e1 => negO e1 r := rfl
@[simp] theorem v_negO {k : Int} : negO e (.val (.int k)) = .ok (.val (.int (-k))) e := rfl
@[simp] theorem v_if {c : M Bool} {f g : M R} : cIf c f g e = (c e).bnd fun b e1 => if b then f e1 else g e1 := rfl
def chO (g' : D → D → Option D) (fc : M R) (y : R) (e : Env) : Option D → Out R
  | some (.bl true) => (fc e).bnd fun z e3 => opt (opt2 g' (e3.rd y) (e3.rd z)) e3
  | some (.bl false) => .ok (.val (.bl false)) e
  | _ => .bad
@[simp] theorem v_ch {g g' : D → D → Option D} {fa fb fc : M R} : cChain g g' fa fb fc e = (fa e).bnd fun x e1 => (fb e1).bnd fun y e2 => chO g' fc y e2 (opt2 g (e2.rd x) (e2.rd y)) := by first | rfl | (unfold cChain chO; rfl)
@[simp] theorem v_chT {g' : D → D → Option D} {fc : M R} {y : R} : chO g' fc y e (some (.bl true)) = (fc e).bnd fun z e3 => opt (opt2 g' (e3.rd y) (e3.rd z)) e3 := rfl
@[simp] theorem v_chF {g' : D → D → Option D} {fc : M R} {y : R} : chO g' fc y e (some (.bl false)) = .ok (.val (.bl false)) e := rfl
@[simp] theorem v_sNx : sNx e = .ok .nx e := rfl
@[simp] theorem v_sBad : sBad e = .bad := rfl
@[simp] theorem v_sBk : sBk e = .ok .bk e := rfl
@[simp] theorem v_sCt : sCt e = .ok .ct e := rfl
@[simp] theorem v_sExpr {f : M R} : sExpr f e = (f e).bnd fun _ e1 => .ok .nx e1 := rfl
@[simp] theorem v_sIf {c : M Bool} {f g : M Fl} : sIf c f g e = (c e).bnd fun b e1 => if b then f e1 else g e1 := rfl
@[simp] theorem v_ret {f : M R} : sRet f e = (f e).bnd fun r e1 => retF (e1.frz r) := rfl
@[simp] theorem v_retF : retF (some (d, e)) = .ok (.rt d) e := rfl
@[simp] theorem v_retN : sRetN e = .ok (.rt .non) e := rfl
@[simp] theorem v_asg {f : M R} : sAsg i f e = (f e).bnd fun r e1 => asgF i (e1.frz r) := rfl
@[simp] theorem v_asgF : asgF i (some (d, e)) = .ok .nx (e.setS i (.dat d)) := rfl
@[simp] theorem v_own {f : M D} : sOwn i f e = (f e).bnd fun d e1 => .ok .nx (e1.setS i (.own d)) := rfl
@[simp] theorem v_setIx {fk fv : M R} : sSetIx i fk fv e = (fv e).bnd fun r e1 => setV i fk (e1.frz r) := rfl
@[simp] theorem v_setV {fk : M R} : setV i fk (some (d, e)) = if isLst (e.rd (.whole i)) then (fk e).bnd fun rk e3 => setK i d rk e3 else .bad := rfl
@[simp] theorem v_isLst {l : List D} : isLst (some (.lst l)) = true := rfl
@[simp] theorem v_setK {k : Int} : setK i d (.val (.int k)) e = setO i k d e := rfl
def setI (i : Nat) (l : List D) (d : D) (e : Env) : Option Nat → Out Fl
  | some j => outE (e.put i (.lst (l.set j d))) fun e3 => .ok .nx e3
  | none => .bad
def setL (i : Nat) (k : Int) (d : D) (e : Env) : Option D → Out Fl
  | some (.lst l) => setI i l d e (ixN l.length k)
  | _ => .bad
@[simp] theorem v_setO {k : Int} : setO i k d e = setL i k d e (e.rd (.whole i)) := rfl
@[simp] theorem v_setL {k : Int} {l : List D} : setL i k d e (some (.lst l)) = setI i l d e (ixN l.length k) := rfl
@[simp] theorem v_setI {l : List D} {k : Nat} : setI i l d e (some k) = outE (e.put i (.lst (l.set k d))) fun e3 => .ok .nx e3 := rfl
@[simp] theorem v_outE {k : Env → Out α} : outE (some e) k = k e := rfl
def putO (i : Nat) (d : D) (e : Env) : Option S → Option Env
  | some (.own _) => some (e.setS i (.own d))
  | some (.jar k) => some ⟨e.s, e.j.set k d⟩
  | _ => none
@[simp] theorem v_put : e.put i d = putO i d e e.s[i]? := by unfold Env.put putO; first | rfl | (split <;> simp_all)
@[simp] theorem v_putOo {x : D} : putO i d e (some (.own x)) = some (e.setS i (.own d)) := rfl
@[simp] theorem v_putOj {k : Nat} : putO i d e (some (.jar k)) = some ⟨e.s, e.j.set k d⟩ := rfl
def callF (Φ : Fn) : Option (List D × Env) → Out R
  | some (ds, e) => callO e (Φ (ds.map A.dat) [])
  | none => .bad
@[simp] theorem v_call {Φ : Fn} {fs : M (List R)} : cCall Φ fs e = (fs e).bnd fun rs e1 => callF Φ (e1.frzs rs) := by first | rfl | (unfold cCall callF; rfl)
@[simp] theorem v_callF {Φ : Fn} {ds : List D} : callF Φ (some (ds, e)) = callO e (Φ (ds.map A.dat) []) := rfl
@[simp] theorem v_callO : callO e (.ok d []) = .ok (.val d) e := rfl
def callV (Φ : Fn) (i : Nat) (e : Env) (ds : List D) : Option D → Out R
  | some x => callJ e i (Φ (.jar 0 :: ds.map A.dat) [x])
  | none => .bad
def callW (Φ : Fn) (i : Nat) : Option (List D × Env) → Out R
  | some (ds, e) => callV Φ i e ds (e.rd (.whole i))
  | none => .bad
def callY (Φ : Fn) (i : Nat) (e : Env) (rs : List R) : Option D → Out R
  | some _ => callW Φ i (e.frzs rs)
  | none => .bad
def callX (Φ : Fn) (e : Env) : List R → Out R
  | .whole i :: rs => callY Φ i e rs (e.rd (.whole i))
  | _ => .bad
@[simp] theorem v_callJ {Φ : Fn} {fs : M (List R)} : cCallJ Φ fs e = (fs e).bnd fun rs e1 => callX Φ e1 rs := by
  unfold cCallJ
  congr 1
  funext rs e1
  cases rs with
  | nil => rfl
  | cons r rs =>
    cases r with
    | val d => rfl
    | whole i =>
      unfold callX callY callW callV
      simp only
      cases e1.rd (.whole i) with
      | none => rfl
      | some x =>
        cases e1.frzs rs with
        | none => rfl
        | some p => obtain ⟨ds, e2⟩ := p; first | rfl | (simp only; cases e2.rd (.whole i) <;> rfl)
@[simp] theorem v_callX {Φ : Fn} {rs : List R} : callX Φ e (.whole i :: rs) = callY Φ i e rs (e.rd (.whole i)) := rfl
@[simp] theorem v_callY {Φ : Fn} {rs : List R} {x : D} : callY Φ i e rs (some x) = callW Φ i (e.frzs rs) := rfl
@[simp] theorem v_callW {Φ : Fn} {ds : List D} : callW Φ i (some (ds, e)) = callV Φ i e ds (e.rd (.whole i)) := rfl
@[simp] theorem v_callV {Φ : Fn} {ds : List D} {x : D} : callV Φ i e ds (some x) = callJ e i (Φ (.jar 0 :: ds.map A.dat) [x]) := rfl
@[simp] theorem v_callJo {x : D} : callJ e i (.ok d [x]) = outE (e.put i x) fun e' => .ok (.val d) e' := rfl
@[simp] theorem v_cAt {k : Nat} : (A.jar k).s = .jar k := rfl
@[simp] theorem v_dAt : (A.dat d).s = .dat d := rfl
@[simp] theorem v_fn {n np : Nat} {g : M Fl} {as : List A} {js : List D} : fnOf n np g as js = if as.length = np then outF (g (env0 n as js)) else .bad := rfl
@[simp] theorem v_new {n np : Nat} {g : M D} {as : List A} {js : List D} : newOf n np g as js = if as.length = np then outN (g (env0 n as js)) else .bad := rfl
@[simp] theorem v_outN : outN (.ok d e) = .ok d e.j := rfl
@[simp] theorem v_outR : outF (.ok (.rt d) e) = .ok d e.j := rfl
@[simp] theorem v_outX : outF (.ok .nx e) = .ok .non e.j := rfl
@[simp] theorem v_env0 {n : Nat} {as : List A} {js : List D} : env0 n as js = ⟨as.map A.s ++ List.replicate (n - as.length) .un, js⟩ := rfl
@[simp] theorem v_int {k : Int} : intFnD [.int k] = some (.int k) := rfl
@[simp] theorem v_addI {a b : Int} : addD (.int a) (.int b) = some (.int (a + b)) := rfl
@[simp] theorem v_subI {a b : Int} : subD (.int a) (.int b) = some (.int (a - b)) := rfl
theorem v_mulI {a b : Int} (h1 : -18446744073709551616 < b) (h2 : b < 18446744073709551616) : mulD (.int a) (.int b) = some (.int (a * b)) := by
  have : mulOk a b = true := by unfold mulOk; simp; omega
  exact if_pos this
theorem v_mulL {a b : Int} (h1 : -18446744073709551616 < a) (h2 : a < 18446744073709551616) : mulD (.int a) (.int b) = some (.int (a * b)) := by
  have : mulOk a b = true := by unfold mulOk; simp; omega
  exact if_pos this
theorem v_modI {a b : Int} (h : 0 < b) : modD (.int a) (.int b) = some (.int (a % b)) := by unfold modD intOp; simp [h]
theorem v_divI {a b : Int} (h : 0 < b) (h2 : b < 1073741824) : fdivD (.int a) (.int b) = some (.int (a / b)) := by unfold fdivD intOp; simp [h, h2]
@[simp] theorem v_gtI {a b : Int} : gtD (.int a) (.int b) = some (.bl (decide (b < a))) := rfl
@[simp] theorem v_geI {a b : Int} : geD (.int a) (.int b) = some (.bl (decide (b ≤ a))) := rfl
@[simp] theorem v_ltI {a b : Int} : ltD (.int a) (.int b) = some (.bl (decide (a < b))) := rfl
@[simp] theorem v_leI {a b : Int} : leD (.int a) (.int b) = some (.bl (decide (a ≤ b))) := rfl
@[simp] theorem v_ixL {l : List D} {k : Int} : ixD (.lst l) (.int k) = atI l k := rfl
@[simp] theorem v_ixT {l : List D} {k : Int} : ixD (.tup l) (.int k) = atI l k := rfl
@[simp] theorem v_isN : isNotD d .non = some (.bl (!d.isNon)) := rfl
theorem at_nat {l : List D} {k : Nat} (h : l[k]? = some d) : atI l (k : Int) = some d := by
  obtain ⟨hl, _⟩ := List.getElem?_eq_some_iff.mp h
  unfold L2.atI L2.ixN
  rw [if_pos (by omega),
                                                                                                              if_pos (by omega)]
  simpa using h
@[simp] theorem at0 {l : List D} : atI (d :: l) 0 = some d := at_nat (k := 0) rfl
@[simp] theorem at1 {l : List D} {x : D} : atI (x :: d :: l) 1 = some d := at_nat (k := 1) rfl
@[simp] theorem at2 {l : List D} {x y : D} : atI (x :: y :: d :: l) 2 = some d := at_nat (k := 2) rfl
theorem ix_nat {n k : Nat} (h : k < n) : ixN n (k : Int) = some k := by
  unfold L2.ixN
  rw [if_pos (by omega),
                                                                                                              if_pos (by omega)]
  simp
@[simp] theorem ix0 {n : Nat} : ixN (n + 1) 0 = some 0 := ix_nat (k := 0) (by omega)
@[simp] theorem ix1 {n : Nat} : ixN (n + 2) 1 = some 1 := ix_nat (k := 1) (by omega)
@[simp] theorem ix2 {n : Nat} : ixN (n + 3) 2 = some 2 := ix_nat (k := 2) (by omega)
end
end DL

namespace DL
open PySem L2 PySem.Spec PyProof.Rows

/-! ### loops -/
theorem forL_ok {g : Tg} {body : M Fl} (I : List D → Env → Prop) (step : ∀ d ds e, I (d :: ds) e → ∃ e1 e2, g d e = some e1 ∧ (body e1 = .ok .nx e2 ∨ body e1 = .ok .ct e2) ∧ I ds e2) :
    ∀ {ds : List D} {e : Env}, I ds e → ∃ e', forL g body ds e = .ok .nx e' ∧ I [] e'
  | [], e, h => ⟨e, rfl, h⟩
  | d :: ds, e, h => by
    obtain ⟨e1, e2, h1, h2, h3⟩ := step d ds e h
    obtain ⟨e', h4, h5⟩ := forL_ok I step h3
    refine ⟨e', ?_, h5⟩
    rw [forL, h1]
    rcases h2 with h2 | h2 <;> · simp only [h2, v_bnd]; exact h4
/-- a loop that may return -/
theorem forL_ret {g : Tg} {body : M Fl} (I : List D → Env → Prop) (Rt : D → Env → Prop) (step : ∀ d ds e, I (d :: ds) e → ∃ e1 e2, g d e = some e1 ∧ (((body e1 = .ok .nx e2 ∨ body e1 = .ok .ct e2) ∧ I ds e2) ∨ ∃ r, body e1 = .ok (.rt r) e2 ∧ Rt r e2)) :
    ∀ {ds : List D} {e : Env}, I ds e → (∃ e', forL g body ds e = .ok .nx e' ∧ I [] e') ∨ ∃ r e', forL g body ds e = .ok (.rt r) e' ∧ Rt r e'
  | [], e, h => .inl ⟨e, rfl, h⟩
  | d :: ds, e, h => by
    obtain ⟨e1, e2, h1, h2⟩ := step d ds e h
    rcases h2 with ⟨h2, h3⟩ | ⟨r, h2, h3⟩
    · rcases forL_ret I Rt step h3 with ⟨e', h4, h5⟩ | ⟨r, e', h4, h5⟩
      · refine .inl ⟨e', ?_, h5⟩
        rw [forL, h1]
        rcases h2 with h2 | h2 <;> · simp only [h2, v_bnd]; exact h4
      · refine .inr ⟨r, e', ?_, h5⟩
        rw [forL, h1]
        rcases h2 with h2 | h2 <;> · simp only [h2, v_bnd]; exact h4
    · refine .inr ⟨r, e2, ?_, h3⟩
      rw [forL, h1]
      simp only [h2, v_bnd]
@[simp] theorem v_for {fi : M (List D)} {g : Tg} {body : M Fl} {e : Env} : sFor fi g body e = (fi e).bnd fun ds e1 => forL g body ds e1 := rfl
def iterO : Option (D × Env) → Out (List D)
  | some (d, e) => optB (seqItems d) e
  | none => .bad
@[simp] theorem v_iter {f : M R} {e : Env} : cIter f e = (f e).bnd fun r e1 => iterO (e1.frz r) := by first | rfl | (unfold cIter iterO; rfl)
@[simp] theorem v_iterO {d : D} {e : Env} : iterO (some (d, e)) = optB (seqItems d) e := rfl
@[simp] theorem v_itL {l : List D} : seqItems (.lst l) = some l := rfl
@[simp] theorem v_itT {l : List D} : seqItems (.tup l) = some l := rfl
@[simp] theorem v_itS {l : List Int} : seqItems (.scr l) = some (l.map D.int) := rfl
@[simp] theorem v_range1 {fs : M (List R)} {e : Env} : cRange1 fs e = (fs e).bnd fun rs e1 => optB (rngI1 rs) e1 := rfl
theorem v_rng {k : Int} (h1 : -(2 ^ 62) ≤ k) (h2 : k < 2 ^ 62) : rngI1 [.val (.int k)] = some (rng 0 k.toNat) := if_pos ⟨h1, h2⟩
@[simp] theorem v_gN {i : Nat} {d : D} {e : Env} : gN i d e = some (e.setS i (.dat d)) := rfl
theorem rng_cons {lo : Int} {n : Nat} : rng lo (n + 1) = .int lo :: rng (lo + 1) n := by
  unfold rng
  rw [List.range_succ_eq_map,
                                                                                                              List.map_cons, List.map_map]
  congr 1
  · simp
  · refine List.map_congr_left fun i _ => ?_
    simp only [Function.comp]
    congr 1
    omega
/-! ### comprehensions of a pure part -/
theorem lcL_pure {vs : List Nat} {g : Tg} {t : M Bool} {f : M R} {e0 : Env} (E : D → Env) (p : D → Bool) (h : D → D) :
    ∀ {ds acc : List D} {e : Env}, e.wipe vs = e0 → acc.length + ds.length ≤ sizeLine →
      (∀ d ∈ ds, g d e0 = some (E d) ∧ (E d).wipe vs = e0 ∧ t (E d) = .ok (p d) (E d) ∧ (p d = true → f (E d) = .ok (.val (h d)) (E d))) →
      ∃ e', lcL vs g t f ds acc e = .ok (acc ++ (ds.filter p).map h) e' ∧ e'.wipe vs = e0
  | [], acc, e, hw, _, _ => ⟨e, by simp [lcL], hw⟩
  | d :: ds, acc, e, hw, hl, H => by
    obtain ⟨h1, h2, h3, h4⟩ := H d List.mem_cons_self
    have hl' : acc.length + (ds.length + 1) ≤ sizeLine := hl
    rw [lcL, hw, h1]
    simp only [h3]
    cases hp : p d with
    | false =>
      simp only
      obtain ⟨e', q1, q2⟩ := lcL_pure (g := g) (t := t) (f := f) (acc := acc) E p h h2 (by omega) fun x hx => H x (List.mem_cons_of_mem _ hx)
      exact ⟨e', by rw [List.filter_cons, hp]; exact q1, q2⟩
    | true =>
      simp only [h4 hp, v_frzV]
      rw [if_pos (by omega)]
      obtain ⟨e', q1, q2⟩ := lcL_pure (g := g) (t := t) (f := f) (acc := acc ++ [h d]) E p h h2 (by rw [List.length_append]; simp; omega) fun x hx => H x (List.mem_cons_of_mem _ hx)
      refine ⟨e', ?_, q2⟩
      rw [q1, List.filter_cons, hp]
      simp
theorem wipe_slen (vs : List Nat) (e : Env) : (e.wipe vs).s.length = e.s.length := by
  induction vs with
  | nil => rfl
  | cons v vs ih => show (List.set _ _ _).length = _; rw [List.length_set]; exact ih
theorem back_slen (vs : List Nat) (e e' : Env) : (e.back e' vs).s.length = e'.s.length := by
  induction vs with
  | nil => rfl
  | cons v vs ih =>
    unfold Env.back
    split
    · show (List.set _ _ _).length = _; rw [List.length_set]; exact ih
    · exact ih
/-- the slots come back -/
theorem back_wipe {vs : List Nat} {e e' : Env} (h : e'.wipe vs = e.wipe vs) : e.back e' vs = e := by
  have hj : e'.j = e.j := by rw [← wipe_j vs e', h, wipe_j]
  have hl : e'.s.length = e.s.length := by rw [← wipe_slen vs e', h, wipe_slen]
  have hs : (e.back e' vs).s = e.s := by
    refine List.ext_getElem? fun i => ?_
    by_cases hi : i ∈ vs
    · rw [back_in vs e e' hl.symm hi]
    · rw [back_out vs e e' hi, ← wipe_out vs e' hi, h, wipe_out vs e hi]
  have e1 : (e.back e' vs).j = e.j := by rw [back_j, hj]
  cases e
  cases hb : Env.back _ _ _
  rw [hb] at hs e1
  simp only at hs e1
  rw [hs, e1]
theorem v_lc {vs : List Nat} {fi : M (List D)} {g : Tg} {t : M Bool} {f : M R} {e e1 : Env} {ds : List D} (E : D → Env) (p : D → Bool) (h : D → D) (hi : fi e = .ok ds e1) (pl : plainAt e1 vs = true) (hl : ds.length ≤ sizeLine)
    (H : ∀ d ∈ ds, g d (e1.wipe vs) = some (E d) ∧ (E d).wipe vs = e1.wipe vs ∧ t (E d) = .ok (p d) (E d) ∧ (p d = true → f (E d) = .ok (.val (h d)) (E d))) :
    cLc vs fi g t f e = .ok (.val (.lst ((ds.filter p).map h))) e1 := by
  obtain ⟨e', q1, q2⟩ := lcL_pure (g := g) (t := t) (f := f) (acc := []) (e := e1) E p h rfl (by simpa using hl) H
  unfold cLc
  rw [hi, v_bnd, if_pos pl, q1]
  simp only [List.nil_append]
  rw [back_wipe q2]
@[simp] theorem v_wipe1 {i : Nat} {e : Env} : e.wipe [i] = e.setS i .un := rfl
@[simp] theorem v_plU : S.un.plain = true := rfl
@[simp] theorem v_plD {d : D} : (S.dat d).plain = true := rfl
@[simp] theorem v_yes {e : Env} : tYs e = .ok true e := rfl
/-- the same as an outcome of simp's: one slot, all pure -/
theorem v_lc1 {i : Nat} {fi : M (List D)} {t : M Bool} {f : M R} {e e1 : Env} {ds : List D} (p : D → Bool) (h : D → D) (hi : fi e = .ok ds e1) (pl : plainAt e1 [i] = true) (hl : ds.length ≤ sizeLine)
    (H : ∀ d ∈ ds, t ((e1.setS i .un).setS i (.dat d)) = .ok (p d) ((e1.setS i .un).setS i (.dat d)) ∧ (p d = true → f ((e1.setS i .un).setS i (.dat d)) = .ok (.val (h d)) ((e1.setS i .un).setS i (.dat d)))) :
    cLc [i] fi (gN i) t f e = .ok (.val (.lst ((ds.filter p).map h))) e1 := by
  refine v_lc (fun d => (e1.setS i .un).setS i (.dat d)) p h hi pl hl fun d hd => ⟨rfl, ?_, H d hd⟩
  cases e1
  simp [Env.wipe, Env.setS]
/-! ### slices, sums of lists -/
@[simp] theorem v_sl {f : M R} {lo hi : M (Option Int)} {e : Env} : cSl f lo hi e = (f e).bnd fun r e1 => (lo e1).bnd fun l e2 => (hi e2).bnd fun h e3 => opt ((e3.rd r).bind fun d => slD d l h) e3 := rfl
def partO (e : Env) : R → Out (Option Int)
  | .val (.int i) => .ok (some i) e
  | _ => .bad
@[simp] theorem v_part {f : M R} {e : Env} : cPart f e = (f e).bnd fun r e1 => partO e1 r := rfl
@[simp] theorem v_partO {i : Int} {e : Env} : partO e (.val (.int i)) = .ok (some i) e := rfl
@[simp] theorem v_noPart {e : Env} : cNoPart e = .ok none e := rfl
@[simp] theorem v_slL {l : List D} {a b : Option Int} : slD (.lst l) a b = some (.lst (cutL l a b)) := rfl
@[simp] theorem v_slT {l : List D} {a b : Option Int} : slD (.tup l) a b = some (.tup (cutL l a b)) := rfl
@[simp] theorem v_slS {l : List Int} {a b : Option Int} : slD (.scr l) a b = some (.lst ((cutL l a b).map D.int)) := rfl
theorem cut_from {α : Type} {l : List α} {k : Nat} : cutL l (some (k : Int)) none = l.drop k := by
  unfold cutL
  rw [HT.sIx_nat, HT.sIx_none]
  by_cases h : k ≤ l.length
  · rw [Nat.min_eq_left h, List.take_of_length_le (by rw [List.length_drop]; omega)]
  · rw [Nat.min_eq_right (by omega), List.drop_of_length_le (by omega : l.length ≤ k)]
    simp
theorem cut_to {α : Type} {l : List α} {k : Nat} : cutL l none (some (k : Int)) = l.take k := by
  unfold cutL
  rw [HT.sIx_nat, HT.sIx_none, List.drop_zero, Nat.sub_zero]
  by_cases h : k ≤ l.length
  · rw [Nat.min_eq_left h]
  · rw [Nat.min_eq_right (by omega), List.take_of_length_le (by omega : l.length ≤ k), List.take_of_length_le (Nat.le_refl _)]
theorem v_addL {a b : List D} (h : a.length + b.length ≤ 16777216) : addD (.lst a) (.lst b) = some (.lst (a ++ b)) := if_pos (by rw [sizeLine_eq]; exact h)
theorem v_addT {a b : List D} (h : a.length + b.length ≤ 16777216) : addD (.tup a) (.tup b) = some (.tup (a ++ b)) := if_pos (by rw [sizeLine_eq]; exact h)
def lstO : Option (List D × Env) → Out R
  | some (ds, e) => if ds.length ≤ sizeLine then .ok (.val (.lst ds)) e else .bad
  | none => .bad
def tupO : Option (List D × Env) → Out R
  | some (ds, e) => if ds.length ≤ sizeLine then .ok (.val (.tup ds)) e else .bad
  | none => .bad
@[simp] theorem v_lst {f : M (List R)} {e : Env} : cLst f e = (f e).bnd fun rs e1 => lstO (e1.frzs rs) := rfl
@[simp] theorem v_tup {f : M (List R)} {e : Env} : cTup f e = (f e).bnd fun rs e1 => tupO (e1.frzs rs) := rfl
@[simp] theorem v_fLst {f : M (List R)} {e : Env} : fLst f e = (f e).bnd fun rs e1 => (match e1.frzs rs with
  | some (ds, e2) => if ds.length ≤ sizeLine then .ok (.lst ds) e2 else .bad
  | none => .bad) := rfl
theorem v_lstO {ds : List D} {e : Env} (h : ds.length ≤ 1000) : lstO (some (ds, e)) = .ok (.val (.lst ds)) e := if_pos (by rw [sizeLine_eq]; omega)
theorem v_tupO {ds : List D} {e : Env} (h : ds.length ≤ 1000) : tupO (some (ds, e)) = .ok (.val (.tup ds)) e := if_pos (by rw [sizeLine_eq]; omega)
@[simp] theorem v_lstO0 {e : Env} : lstO (some ([], e)) = .ok (.val (.lst [])) e := v_lstO (by simp)
@[simp] theorem v_tupO0 {e : Env} : tupO (some ([], e)) = .ok (.val (.tup [])) e := v_tupO (by simp)
@[simp] theorem v_tupO1 {a : D} {e : Env} : tupO (some ([a], e)) = .ok (.val (.tup [a])) e := v_tupO (by simp)
@[simp] theorem v_tupO2 {a b : D} {e : Env} : tupO (some ([a, b], e)) = .ok (.val (.tup [a, b])) e := v_tupO (by simp)
@[simp] theorem v_lstO1 {a : D} {e : Env} : lstO (some ([a], e)) = .ok (.val (.lst [a])) e := v_lstO (by simp)
@[simp] theorem v_lstO2 {a b : D} {e : Env} : lstO (some ([a, b], e)) = .ok (.val (.lst [a, b])) e := v_lstO (by simp)
@[simp] theorem v_lstO3 {a b c : D} {e : Env} : lstO (some ([a, b, c], e)) = .ok (.val (.lst [a, b, c])) e := v_lstO (by simp)
@[simp] theorem v_par {i j : Nat} {f g : M P} {e : Env} : sPar i j f g e = (f e).bnd fun p e1 => (g e1).bnd fun q e2 => .ok .nx ((e2.setS i p.s).setS j q.s) := rfl
@[simp] theorem v_pV {f : M R} {e : Env} : pV f e = (f e).bnd fun r e1 => pFrz (e1.frz r) := rfl
@[simp] theorem v_pFrz {d : D} {e : Env} : pFrz (some (d, e)) = .ok (.v d) e := rfl
@[simp] theorem v_pN {f : M D} {e : Env} : pN f e = (f e).bnd fun d e1 => .ok (.n d) e1 := rfl
@[simp] theorem v_pSv {d : D} : (P.v d).s = .dat d := rfl
@[simp] theorem v_pSn {d : D} : (P.n d).s = .own d := rfl
@[simp] theorem v_app {i : Nat} {f : M R} {e : Env} : cApp i f e = if isLst (e.rd (.whole i)) then (f e).bnd fun r e1 => appO i (e1.frz r) else .bad := rfl
def appL (i : Nat) (d : D) (e : Env) : Option D → Out R
  | some (.lst l) => if l.length < sizeLine then outE (e.put i (.lst (l ++ [d]))) fun e3 => .ok (.val .non) e3 else .bad
  | _ => .bad
@[simp] theorem v_appO {i : Nat} {d : D} {e : Env} : appO i (some (d, e)) = appL i d e (e.rd (.whole i)) := rfl
theorem v_appL {i : Nat} {d : D} {e : Env} {l : List D} (h : l.length < 16777216) : appL i d e (some (.lst l)) = outE (e.put i (.lst (l ++ [d]))) fun e3 => .ok (.val .non) e3 := if_pos (by rw [sizeLine_eq]; exact h)
def popL (i : Nat) (e : Env) : Option D → Out R
  | some (.lst l) => (match l.getLast? with
    | some d => outE (e.put i (.lst l.dropLast)) fun e3 => .ok (.val d) e3
    | none => .bad)
  | _ => .bad
@[simp] theorem v_pop {i : Nat} {e : Env} : cPop i e = popL i e (e.rd (.whole i)) := rfl
@[simp] theorem v_popL {i : Nat} {e : Env} {l : List D} {d : D} : popL i e (some (.lst (l ++ [d]))) = outE (e.put i (.lst l)) fun e3 => .ok (.val d) e3 := by
  unfold popL
  simp
@[simp] theorem v_revT {f : M R} {e : Env} : cRevT f e = (f e).bnd fun r e1 => opt ((e1.rd r).bind revD) e1 := rfl
@[simp] theorem v_revD {l : List D} : revD (.tup l) = some (.tup l.reverse) := rfl
@[simp] theorem v_asgT {g : Tg} {f : M R} {e : Env} : sAsgT g f e = (f e).bnd fun r e1 => (match e1.frz r with
  | some (d, e2) => (match g d e2 with
    | some e3 => .ok .nx e3
    | none => .bad)
  | none => .bad) := rfl
@[simp] theorem v_gT {gs : List Tg} {ds : List D} {e : Env} : gT gs (.tup ds) e = gTs gs ds e := rfl
@[simp] theorem v_gTs0 {e : Env} : gTs [] [] e = some e := rfl
@[simp] theorem v_gTs {g : Tg} {gs : List Tg} {d : D} {ds : List D} {e : Env} : gTs (g :: gs) (d :: ds) e = (g d e).bind (gTs gs ds) := rfl
@[simp] theorem v_lenL {l : List D} : lenD [.lst l] = some (.int l.length) := rfl
@[simp] theorem v_lenT {l : List D} : lenD [.tup l] = some (.int l.length) := rfl
@[simp] theorem v_lenS {l : List Int} : lenD [.scr l] = some (.int l.length) := rfl
@[simp] theorem v_min {a b : Int} : min2D [.int a, .int b] = some (.int (if b < a then b else a)) := rfl
@[simp] theorem v_max {a b : Int} : max2D [.int a, .int b] = some (.int (if b > a then b else a)) := rfl
@[simp] theorem v_tplL {l : List D} : tupleD [.lst l] = some (.tup l) := rfl
@[simp] theorem v_tplT {l : List D} : tupleD [.tup l] = some (.tup l) := rfl
end DL

namespace DL
open PySem L2 PySem.Spec PyProof.Rows

/-! ### plain data, by levels -/
inductive Sh : Nat → D → Prop
  | int {k : Nat} {i : Int} : Sh k (.int i)
  | bl {k : Nat} {b : Bool} : Sh k (.bl b)
  | non {k : Nat} : Sh k .non
  | str {k : Nat} {s : Str} : PyData.strOk s = true → Sh k (.str s)
  | tup {k : Nat} {l : List D} : (∀ d ∈ l, Sh k d) → Sh (k + 1) (.tup l)
  | lst {k : Nat} {l : List D} : (∀ d ∈ l, Sh k d) → Sh (k + 1) (.lst l)
theorem pyL_all {q : PyData → Bool} {qa : List PyData → Bool} (h0 : qa [] = true) (hc : ∀ x l, qa (x :: l) = (q x && qa l)) : ∀ {l : List D}, (∀ d ∈ l, q d.py = true) → qa (D.pyL l) = true
  | [], _ => h0
  | d :: l, h => by
    rw [D.pyL, hc, h d List.mem_cons_self, pyL_all h0 hc fun x hx => h x (List.mem_cons_of_mem _ hx)]
    rfl
theorem plL_of : ∀ {l : List D}, (∀ d ∈ l, d.pl = true) → D.plL l = true
  | [], _ => rfl
  | d :: l, h => by
    rw [D.plL, h d List.mem_cons_self, plL_of fun x hx => h x (List.mem_cons_of_mem _ hx)]
    rfl
theorem depth_of {k : Nat} : ∀ {l : List D}, (∀ d ∈ l, d.py.depth ≤ k) → PyData.depthAll (D.pyL l) ≤ k
  | [], _ => Nat.zero_le _
  | d :: l, h => by
    rw [D.pyL, PyData.depthAll]
    exact Nat.max_le.mpr ⟨h d List.mem_cons_self, depth_of fun x hx => h x (List.mem_cons_of_mem _ hx)⟩
theorem Sh.facts : ∀ {k : Nat} {d : D}, Sh k d → d.pl = true ∧ d.py.canLay0 = true ∧ d.py.depth ≤ k ∧ d.py.hasDict = false
  | _, _, .int => ⟨rfl, rfl, Nat.zero_le _, rfl⟩
  | _, _, .bl => ⟨rfl, rfl, Nat.zero_le _, rfl⟩
  | _, _, .non => ⟨rfl, rfl, Nat.zero_le _, rfl⟩
  | _, _, .str h => ⟨rfl, h, Nat.zero_le _, rfl⟩
  | _, _, .tup (l := l) h => by
    have f := fun d hd => Sh.facts (h d hd)
    refine ⟨plL_of fun d hd => (f d hd).1, pyL_all (q := PyData.canLay0) (qa := PyData.canLayAll0) (by simp [PyData.canLayAll0]) (fun x l => by simp [PyData.canLayAll0]) fun d hd => (f d hd).2.1, ?_, ?_⟩
    · rw [D.py, PyData.depth]; exact Nat.succ_le_succ (depth_of fun d hd => (f d hd).2.2.1)
    · have : (!PyData.hasDictAll (D.pyL l)) = true := pyL_all (q := fun d => !d.hasDict) (qa := fun l => !PyData.hasDictAll l) (by simp [PyData.hasDictAll]) (fun x l => by simp [PyData.hasDictAll]) fun d hd => by rw [(f d hd).2.2.2]; rfl
      rw [D.py, PyData.hasDict]; simpa using this
  | _, _, .lst (l := l) h => by
    have f := fun d hd => Sh.facts (h d hd)
    refine ⟨plL_of fun d hd => (f d hd).1, pyL_all (q := PyData.canLay0) (qa := PyData.canLayAll0) (by simp [PyData.canLayAll0]) (fun x l => by simp [PyData.canLayAll0]) fun d hd => (f d hd).2.1, ?_, ?_⟩
    · rw [D.py, PyData.depth]; exact Nat.succ_le_succ (depth_of fun d hd => (f d hd).2.2.1)
    · have : (!PyData.hasDictAll (D.pyL l)) = true := pyL_all (q := fun d => !d.hasDict) (qa := fun l => !PyData.hasDictAll l) (by simp [PyData.hasDictAll]) (fun x l => by simp [PyData.hasDictAll]) fun d hd => by rw [(f d hd).2.2.2]; rfl
      rw [D.py, PyData.hasDict]; simpa using this
theorem Sh.shp {k : Nat} {d : D} (h : Sh k d) (hk : k ≤ 64) : shp d = true := by
  obtain ⟨h1, h2, h3, _⟩ := h.facts
  unfold DL.shp SeqAt.shaped
  simp [h1, h2]
  omega
theorem Sh.mono {k j : Nat} {d : D} (h : Sh k d) (hj : k ≤ j) : Sh j d := by
  induction h generalizing j with
  | int => exact .int
  | bl => exact .bl
  | non => exact .non
  | str h => exact .str h
  | tup h ih =>
    obtain ⟨i, rfl⟩ : ∃ i, j = i + 1 := ⟨j - 1, by omega⟩
    exact .tup fun d hd => ih d hd (by omega)
  | lst h ih =>
    obtain ⟨i, rfl⟩ : ∃ i, j = i + 1 := ⟨j - 1, by omega⟩
    exact .lst fun d hd => ih d hd (by omega)
theorem eqD_of {k : Nat} {a b : D} (ha : Sh k a) (hb : Sh k b) (hk : k ≤ 64) : eqD a b = some (.bl (eqB a b)) := by
  unfold eqD
  rw [ha.shp hk, hb.shp hk]
  rfl
theorem neD_of {k : Nat} {a b : D} (ha : Sh k a) (hb : Sh k b) (hk : k ≤ 64) : neD a b = some (.bl (!eqB a b)) := by
  unfold neD
  rw [ha.shp hk, hb.shp hk]
  rfl
@[simp] theorem v_eqI {a b : Int} : eqD (.int a) (.int b) = some (.bl (decide (a = b))) := by
  rw [eqD_of (k := 0) .int .int (by omega)]
  have : eqB (.int a) (.int b) = decide (a = b) := by
    show (a == b) = _
    by_cases h : a = b <;> simp [h]
  rw [this]
theorem eqB_str {a b : Str} : eqB (.str a) (.str b) = decide (a = b) := by
  show (a == b) = _
  by_cases h : a = b <;> simp [h]
theorem v_eqS {a b : Str} (ha : PyData.strOk a = true) (hb : PyData.strOk b = true) : eqD (.str a) (.str b) = some (.bl (decide (a = b))) := by
  rw [eqD_of (k := 0) (.str ha) (.str hb) (by omega), eqB_str]
theorem v_neS {a b : Str} (ha : PyData.strOk a = true) (hb : PyData.strOk b = true) : neD (.str a) (.str b) = some (.bl (!decide (a = b))) := by
  rw [neD_of (k := 0) (.str ha) (.str hb) (by omega), eqB_str]
theorem eqvAll_cons (x y : D) (l m : List D) : PyData.eqvAll (D.pyL (x :: l)) (D.pyL (y :: m)) = (eqB x y && PyData.eqvAll (D.pyL l) (D.pyL m)) := by
  rw [D.pyL, D.pyL, PyData.eqvAll]
  rfl
theorem eqB_tup (l m : List D) : eqB (.tup l) (.tup m) = PyData.eqvAll (D.pyL l) (D.pyL m) := by
  show PyData.eqv _ _ = _
  rw [D.py, D.py, PyData.eqv]
theorem eqB_lst (l m : List D) : eqB (.lst l) (.lst m) = PyData.eqvAll (D.pyL l) (D.pyL m) := by
  show PyData.eqv _ _ = _
  rw [D.py, D.py, PyData.eqv]
theorem eqvAll_strs : ∀ (l m : List Str), PyData.eqvAll (D.pyL (l.map D.str)) (D.pyL (m.map D.str)) = decide (l = m)
  | [], [] => by simp [D.pyL, PyData.eqvAll]
  | [], _ :: _ => by simp [D.pyL, PyData.eqvAll]
  | _ :: _, [] => by simp [D.pyL, PyData.eqvAll]
  | a :: l, b :: m => by
    rw [List.map_cons, List.map_cons, eqvAll_cons, eqB_str, eqvAll_strs l m]
    by_cases h : a = b <;> by_cases h2 : l = m <;> simp [h, h2]
theorem eqB_row (l m : List Str) : eqB (.tup (l.map D.str)) (.tup (m.map D.str)) = decide (l = m) := by rw [eqB_tup, eqvAll_strs]
theorem Sh.refl : ∀ {k : Nat} {d : D}, Sh k d → eqB d d = true
  | _, _, .int => by simp [eqB, D.py, PyData.eqv]
  | _, _, .bl => by simp [eqB, D.py, PyData.eqv]
  | _, _, .non => by simp [eqB, D.py, PyData.eqv]
  | _, _, .str h => by simp [eqB, D.py, PyData.eqv]
  | _, _, .tup (l := l) h => by
    rw [eqB_tup]
    have r := fun d hd => Sh.refl (h d hd)
    clear h
    induction l with
    | nil => simp [D.pyL, PyData.eqvAll]
    | cons x l ih => rw [eqvAll_cons, r x List.mem_cons_self, ih fun d hd => r d (List.mem_cons_of_mem _ hd)]; rfl
  | _, _, .lst (l := l) h => by
    rw [eqB_lst]
    have r := fun d hd => Sh.refl (h d hd)
    clear h
    induction l with
    | nil => simp [D.pyL, PyData.eqvAll]
    | cons x l ih => rw [eqvAll_cons, r x List.mem_cons_self, ih fun d hd => r d (List.mem_cons_of_mem _ hd)]; rfl
/-- x in a list, a tuple -/
theorem inD_tup {k : Nat} {a : D} {l : List D} (ha : Sh k a) (hl : Sh k (.tup l)) (hk : k ≤ 64) : inD a (.tup l) = some (.bl (memB a l)) := by
  unfold inD inB
  simp only [ha.shp hk, hl.shp hk]
  rfl
theorem inD_lst {k : Nat} {a : D} {l : List D} (ha : Sh k a) (hl : Sh k (.lst l)) (hk : k ≤ 64) : inD a (.lst l) = some (.bl (memB a l)) := by
  unfold inD inB
  simp only [ha.shp hk, hl.shp hk]
  rfl
theorem notInD_tup {k : Nat} {a : D} {l : List D} (ha : Sh k a) (hl : Sh k (.tup l)) (hk : k ≤ 64) : notInD a (.tup l) = some (.bl (!memB a l)) := by
  unfold notInD inB
  simp only [ha.shp hk, hl.shp hk]
  rfl
theorem notInD_lst {k : Nat} {a : D} {l : List D} (ha : Sh k a) (hl : Sh k (.lst l)) (hk : k ≤ 64) : notInD a (.lst l) = some (.bl (!memB a l)) := by
  unfold notInD inB
  simp only [ha.shp hk, hl.shp hk]
  rfl
theorem memB_nil {x : D} : memB x [] = false := by simp [memB, D.pyL]
theorem memB_cons {x y : D} {l : List D} : memB x (y :: l) = (eqB y x || memB x l) := by
  unfold memB
  rw [D.pyL, List.any_cons]
  rfl
theorem memB_str {a : Str} : ∀ {l : List Str}, memB (.str a) (l.map D.str) = decide (a ∈ l)
  | [] => by simp [memB_nil]
  | b :: l => by
    rw [List.map_cons, memB_cons, memB_str, eqB_str]
    by_cases h : b = a
    · simp [h]
    · have h2 : ¬ a = b := fun z => h z.symm
      simp [h, h2]
/-- rows of texts -/
def rowD (l : List Str) : D := .tup (l.map D.str)
theorem sh_row {k : Nat} {l : List Str} (h : ∀ s ∈ l, PyData.strOk s = true) : Sh (k + 1) (rowD l) := .tup fun d hd => by
  obtain ⟨s, hs, rfl⟩ := List.mem_map.mp hd
  exact .str (h s hs)
theorem sh_rows {k : Nat} {l : List (List Str)} (h : ∀ r ∈ l, ∀ s ∈ r, PyData.strOk s = true) : Sh (k + 2) (.lst (l.map rowD)) := .lst fun d hd => by
  obtain ⟨s, hs, rfl⟩ := List.mem_map.mp hd
  exact sh_row (h s hs)
theorem sh_rowsT {k : Nat} {l : List (List Str)} (h : ∀ r ∈ l, ∀ s ∈ r, PyData.strOk s = true) : Sh (k + 2) (.tup (l.map rowD)) := .tup fun d hd => by
  obtain ⟨s, hs, rfl⟩ := List.mem_map.mp hd
  exact sh_row (h s hs)
end DL

namespace DL
open PySem L2 PySem.Spec PyProof.Rows

/-! ### webs, plain -/
def allPairs : List Str → List (Str × Str)
  | [] => []
  | a :: r => r.map (fun o => (a, o)) ++ allPairs r
def tieD (p : Str × Str) : D := .tup [.str p.1, .str p.2]
/-- ties among the places ws: of two different places, no two of the same -/
structure Lk (ws : List Str) (ls : List (Str × Str)) : Prop where
  on : ∀ p ∈ ls, p.1 ∈ ws ∧ p.2 ∈ ws ∧ p.1 ≠ p.2
  dif : ls.Pairwise fun p q => q ≠ p ∧ q ≠ p.swap
theorem dif_symm : ∀ {p q : Str × Str}, (q ≠ p ∧ q ≠ p.swap) → (p ≠ q ∧ p ≠ q.swap) := fun {p q} ⟨h1, h2⟩ => ⟨h1.symm, fun z => h2 (by rw [z, Prod.swap_swap])⟩
theorem Lk.perm {ws : List Str} {ls ms : List (Str × Str)} (h : Lk ws ls) (p : ls.Perm ms) : Lk ws ms :=
  ⟨fun x hx => h.on x (p.mem_iff.mpr hx), (p.pairwise_iff dif_symm).mp h.dif⟩
theorem Lk.swap {ws : List Str} {p : Str × Str} {ls : List (Str × Str)} (h : Lk ws (p :: ls)) : Lk ws (p.swap :: ls) := by
  obtain ⟨h1, h2⟩ := List.pairwise_cons.mp h.dif
  refine ⟨fun x hx => ?_, List.pairwise_cons.mpr ⟨fun q hq => ?_, h2⟩⟩
  · rcases List.mem_cons.mp hx with rfl | hx
    · obtain ⟨a, b, c⟩ := h.on p List.mem_cons_self
      exact ⟨b, a, c.symm⟩
    · exact h.on x (List.mem_cons_of_mem _ hx)
  · obtain ⟨a, b⟩ := h1 q hq
    exact ⟨b, by rw [Prod.swap_swap]; exact a⟩
theorem Lk.sub {ws : List Str} {ls ms : List (Str × Str)} (h : Lk ws ls) (s : ms.Sublist ls) : Lk ws ms := ⟨fun x hx => h.on x (s.subset hx), h.dif.sublist s⟩
theorem allPairs_on : ∀ {l : List Str} {p : Str × Str}, p ∈ allPairs l → p.1 ∈ l ∧ p.2 ∈ l
  | a :: r, p, h => by
    rcases List.mem_append.mp
                                                                                                              h with h | h
    · obtain ⟨o, ho, rfl⟩ := List.mem_map.mp h
      exact ⟨List.mem_cons_self, List.mem_cons_of_mem _ ho⟩
    · obtain ⟨h1, h2⟩ := allPairs_on h
      exact ⟨List.mem_cons_of_mem _ h1, List.mem_cons_of_mem _ h2⟩
theorem allPairs_lk : ∀ {l : List Str}, l.Nodup → Lk l (allPairs l)
  | [], _ => ⟨fun p h => by simp [allPairs] at h, List.Pairwise.nil⟩
  | a :: r, h => by
    obtain ⟨ha, hr⟩ := List.nodup_cons.mp h
    have ih := allPairs_lk hr
    refine ⟨fun p hp => ?_, List.pairwise_append.mpr ⟨?_, ih.dif, fun p hp q hq => ?_⟩⟩
    · rcases List.mem_append.mp
                                                                                                              hp with hp | hp
      · obtain ⟨o, ho, rfl⟩ := List.mem_map.mp hp
        exact ⟨List.mem_cons_self, List.mem_cons_of_mem _ ho, fun z => ha (by have z : a = o := z; rw [z]; exact ho)⟩
      · obtain ⟨h1, h2, h3⟩ := ih.on p hp
        exact ⟨List.mem_cons_of_mem _ h1, List.mem_cons_of_mem _ h2, h3⟩
    · refine List.pairwise_map.mpr (hr.imp_of_mem fun {x y} hx hy n => ?_)
      refine ⟨fun z => n (congrArg Prod.snd z).symm, fun z => ?_⟩
      have z1 : a = x := congrArg Prod.fst z
      exact ha (z1 ▸ hx)
    · obtain ⟨o, ho, rfl⟩ := List.mem_map.mp hp
      obtain ⟨q1, q2⟩ := allPairs_on hq
      refine ⟨fun z => ha ?_, fun z => ha ?_⟩
      · rw [z] at q1; exact q1
      · rw [z] at q2; exact q2
theorem allPairs_len : ∀ {l : List Str}, (allPairs l).length ≤ l.length * l.length
  | [] => Nat.le_refl _
  | a :: r => by
    have := allPairs_len (l := r)
    rw [allPairs, List.length_append, List.length_map, List.length_cons]
    have e : (r.length + 1) * (r.length + 1) = r.length * r.length + 2 * r.length + 1 := by rw [Nat.add_mul, Nat.mul_add]; omega
    omega
theorem allPairs_pos {l : List Str} (h : 2 ≤ l.length) : 0 < (allPairs l).length := by
  match l, h with
  | a :: b :: r, _ => simp [allPairs]
end DL

namespace DL
open PySem L2 PySem.Spec PyProof.Rows

/-! ### the order of texts, of rows -/
def ltS (a b : Str) : Bool := decide (a.cps.toList < b.cps.toList)
def ltR : List Str → List Str → Bool
  | [], [] => false
  | [], _ :: _ => true
  | _ :: _, [] => false
  | a :: l, b :: m => if a = b then ltR l m else ltS a b
theorem srt_tot (a b : D) : (srtLe a b || srtLe b a) = true := by
  rcases (PySem.W.sortLe_total (listOrd itemOrd) false fun d : D => PySem.W.keyToks d.py).total a b with h | h
  · exact Bool.or_eq_true_iff.mpr (.inl h)
  · exact Bool.or_eq_true_iff.mpr (.inr h)
theorem srt_trans (a b c : D) (h1 : srtLe a b = true) (h2 : srtLe b c = true) : srtLe a c = true := (PySem.W.sortLe_total (listOrd itemOrd) false fun d : D => PySem.W.keyToks d.py).trans a b c h1 h2
theorem srt_str (a b : Str) : srtLe (.str a) (.str b) = !ltS b a := by
  show (!PySem.W.dataLt (.str b) (.str a)) = _
  rw [PySem.W.dataLt_str]
  rfl
theorem row_lt : ∀ l m : List Str, PyProof.Rows.lexLt itemOrd (PySem.W.keyToksAll (D.pyL (l.map D.str))) (PySem.W.keyToksAll (D.pyL (m.map D.str))) = ltR l m
  | [], [] => by
    simp only [List.map_nil, D.pyL]
    exact lex_irrefl _
  | [], b :: m => by
    rw [List.map_nil, List.map_cons, D.pyL, D.pyL, PySem.W.keyToksAll, PySem.W.keyToksAll]
    exact lex_true.mpr (.inl (by rfl))
  | a :: l, [] => by
    rw [List.map_nil, List.map_cons, D.pyL, D.pyL, PySem.W.keyToksAll, PySem.W.keyToksAll]
    exact lex_false.mpr ⟨by rfl, .inl (by rfl)⟩
  | a :: l, b :: m => by
    rw [List.map_cons, List.map_cons, D.pyL, D.pyL, PySem.W.dataLt_cons (by rfl), row_lt l m]
    have e1 : PyData.eqv (D.str a).py (D.str b).py = decide (a = b) := eqB_str
    rw [e1]
    have e2 : PySem.W.dataLt (D.str a).py (D.str b).py = ltS a b := PySem.W.dataLt_str a b
    rw [e2]
    by_cases h : a = b <;> simp [ltR, h]
theorem srt_row (l m : List Str) : srtLe (rowD l) (rowD m) = !ltR m l := by
  show (!PySem.W.dataLt (rowD m).py (rowD l).py) = _
  rw [rowD, rowD, D.py, D.py, PySem.W.dataLt_tuple, row_lt]
theorem ltR_pre : ∀ (c a b : List Str), ltR (c ++ a) (c ++ b) = ltR a b
  | [], _, _ => rfl
  | x :: c, a, b => by
    show (if x = x then ltR (c ++ a) (c ++ b) else _) = _
    rw [if_pos rfl, ltR_pre c a b]
theorem ltS_asym {a b : Str} (h : ltS a b = true) : ltS b a = false := by
  unfold ltS at h ⊢
  have h := of_decide_eq_true h
  exact decide_eq_false fun z => absurd (List.lt_trans h z) (List.lt_irrefl _)
theorem ltS_ne {a b : Str} (h : ltS a b = true) : a ≠ b := fun z => by
  subst z
  have := ltS_asym h
  rw [h] at this
  cases this
theorem ltS_tot {a b : Str} (h : a ≠ b) (h2 : ltS b a = false) : ltS a b = true := by
  unfold ltS at h2 ⊢
  have h2 := of_decide_eq_false h2
  refine decide_eq_true ?_
  by_cases q : a.cps.toList < b.cps.toList
  · exact q
  · exact absurd (PySem.W.str_of_cps (List.le_antisymm (show a.cps.toList ≤ b.cps.toList from h2) (show b.cps.toList ≤ a.cps.toList from q))) h
theorem ltR_asym : ∀ {a b : List Str}, ltR a b = true → ltR b a = false
  | [], [], h => by cases h
  | [], _ :: _, _ => rfl
  | _ :: _, [], h => by cases h
  | x :: a, y :: b, h => by
    unfold ltR at h ⊢
    by_cases e : x = y
    · subst e
      rw [if_pos rfl] at h ⊢
      exact ltR_asym h
    · rw [if_neg e] at h
      rw [if_neg fun z => e z.symm]
      exact ltS_asym h
theorem ltR_tot : ∀ {a b : List Str}, ltR a b = false → ltR b a = false → a = b
  | [], [], _, _ => rfl
  | [], _ :: _, h, _ =>
                                                                                                              by cases h
  | _ :: _, [], _, h =>
                                                                                                              by cases h
  | x :: a, y :: b, h, h2 => by
    unfold ltR at h h2
    by_cases e : x = y
    · subst e
      rw [if_pos rfl] at h h2
      rw [ltR_tot h h2]
    · rw [if_neg e] at h
      rw [if_neg fun z => e z.symm] at h2
      rw [ltS_tot e h2] at h
      cases h
theorem ltR_ne {a b : List Str} (h : ltR a b = true) : a ≠ b := fun z => by
  subst z
  have := ltR_asym h
  rw [h] at this
  cases this
/-! ### sorted lists of these -/
def sortS (l : List Str) : List Str := l.mergeSort fun a b => !ltS b a
theorem sortD_str (l : List Str) : sortD (l.map D.str) = (sortS l).map D.str := by
  unfold sortD sortS
  exact (List.map_mergeSort fun a _ b _ => (srt_str a b).symm).symm
theorem sortS_perm (l : List Str) : (sortS l).Perm l := List.mergeSort_perm _ _
theorem sortS_lt {l : List Str} (h : l.Nodup) : (sortS l).Pairwise fun a b => ltS a b = true := by
  have p : (sortS l).Pairwise fun a b => (!ltS b a) = true := by
    refine List.pairwise_mergeSort (fun a b c h1 h2 => ?_) (fun a b => ?_) l
    · rw [← srt_str] at h1 h2 ⊢
      exact srt_trans _ _ _ h1 h2
    · rw [← srt_str, ← srt_str]
      exact srt_tot _ _
  have n : (sortS l).Nodup := (sortS_perm l).nodup_iff.mpr h
  exact (p.and n).imp fun {a b} ⟨h1, h2⟩ => ltS_tot h2 (by simpa using h1)
/-- a sorted row of rows is what sorted tells of any order of them -/
theorem sortD_rows {E fd : List (List Str)} (hE : E.Pairwise fun a b => ltR a b = true) (p : fd.Perm E) : sortD (fd.map rowD) = E.map rowD := by
  have e1 : (E.map rowD).Pairwise fun a b => srtLe a b = true := List.pairwise_map.mpr (hE.imp fun {a b} h => by
    have z := srt_row a b
    rw [ltR_asym h] at z
    exact z)
  have e2 : (sortD (fd.map rowD)).Pairwise fun a b => srtLe a b = true := List.pairwise_mergeSort srt_trans srt_tot _
  refine List.Perm.eq_of_pairwise (le := fun a b => srtLe a b = true) (fun a b ha hb h1 h2 => ?_) e2 e1 ((List.mergeSort_perm _ _).trans (p.map rowD))
  obtain ⟨x, hx, rfl⟩ := List.mem_map.mp (List.mem_mergeSort.mp ha)
  obtain ⟨y, hy, rfl⟩ := List.mem_map.mp hb
  rw [srt_row] at h1 h2
  have z : x = y := ltR_tot (by simpa using h2) (by simpa using h1)
  rw [z]
theorem ltR_nodup {E : List (List Str)} (hE : E.Pairwise fun a b => ltR a b = true) : E.Nodup := hE.imp fun h => ltR_ne h

/-! ### neighbours -/
def nbr (ls : List (Str × Str)) (x : Str) : List Str := (ls.filter fun p => decide (p.1 = x)).map (·.2) ++ (ls.filter fun p => decide (p.2 = x)).map (·.1)
def NB (ls : List (Str × Str)) (x : Str) : List Str := sortS (nbr ls x)
def adj (ls : List (Str × Str)) (x y : Str) : Prop := (x, y) ∈ ls ∨ (y, x) ∈ ls
theorem adj_symm {ls : List (Str × Str)} {x y : Str} (h : adj ls x y) : adj ls y x := h.symm
theorem mem_nbr {ls : List (Str × Str)} {x y : Str} : y ∈ nbr ls x ↔ adj ls x y := by
  unfold nbr adj
  simp only [List.mem_append, List.mem_map, List.mem_filter, decide_eq_true_eq]
  constructor
  · rintro (⟨⟨a, b⟩, ⟨h1, rfl⟩, rfl⟩ | ⟨⟨a, b⟩, ⟨h1, rfl⟩, rfl⟩)
    · exact .inl h1
    · exact .inr h1
  · rintro (h | h)
    · exact .inl ⟨(x, y), ⟨h, rfl⟩, rfl⟩
    · exact .inr ⟨(y, x), ⟨h, rfl⟩, rfl⟩
theorem mem_NB {ls : List (Str × Str)} {x y : Str} : y ∈ NB ls x ↔ adj ls x y := (sortS_perm _).mem_iff.trans mem_nbr
theorem nbr_nodup {ws : List Str} {ls : List (Str × Str)} (h : Lk ws ls) (x : Str) : (nbr ls x).Nodup := by
  unfold nbr
  refine List.pairwise_append.mpr ⟨?_, ?_, ?_⟩
  · refine List.pairwise_map.mpr (((h.dif.sublist List.filter_sublist)).imp_of_mem fun {p q} hp hq n z => n.1 ?_)
    have h1 := of_decide_eq_true (List.mem_filter.mp hp).2
    have h2 := of_decide_eq_true (List.mem_filter.mp hq).2
    exact Prod.ext (h2.trans h1.symm) z.symm
  · refine List.pairwise_map.mpr (((h.dif.sublist List.filter_sublist)).imp_of_mem fun {p q} hp hq n z => n.1 ?_)
    have h1 := of_decide_eq_true (List.mem_filter.mp hp).2
    have h2 := of_decide_eq_true (List.mem_filter.mp hq).2
    exact Prod.ext z.symm (h2.trans h1.symm)
  · intro a ha b hb z
    subst z
    obtain ⟨p, hp, rfl⟩ := List.mem_map.mp ha
    obtain ⟨q, hq, e⟩ := List.mem_map.mp hb
    obtain ⟨p1, p2⟩ := List.mem_filter.mp hp
    obtain ⟨q1, q2⟩ := List.mem_filter.mp hq
    have p2 := of_decide_eq_true p2
    have q2 := of_decide_eq_true q2
    have es : q = p.swap := Prod.ext e (q2.trans p2.symm)
    have dd := h.dif
    have hne : p ≠ q := fun z => by
      have := h.on p p1
      rw [z] at p2
      exact (h.on q q1).2.2 (p2.trans q2.symm)
    have key : ∀ {l : List (Str × Str)}, l.Pairwise (fun p q => q ≠ p ∧ q ≠ p.swap) → p ∈ l → q ∈ l → False := by
      intro l hl
      induction l with
      | nil => intro a; cases a
      | cons c l ih =>
        obtain ⟨k1, k2⟩ := List.pairwise_cons.mp hl
        intro a b
        rcases List.mem_cons.mp a with ea | a
        · rcases List.mem_cons.mp b with eb | b
          · exact hne (ea.trans eb.symm)
          · exact (k1 q b).2 (by rw [← ea]; exact es)
        · rcases List.mem_cons.mp b with eb | b
          · exact (k1 p a).2 (by rw [← eb, es, Prod.swap_swap])
          · exact ih k2 a b
    exact key dd p1 q1
theorem NB_lt {ws : List Str} {ls : List (Str × Str)} (h : Lk ws ls) (x : Str) : (NB ls x).Pairwise fun a b => ltS a b = true := sortS_lt (nbr_nodup h x)
theorem NB_nodup {ws : List Str} {ls : List (Str × Str)} (h : Lk ws ls) (x : Str) : (NB ls x).Nodup := (NB_lt h x).imp fun h => ltS_ne h
theorem NB_in {ws : List Str} {ls : List (Str × Str)} (h : Lk ws ls) {x y : Str} (hy : y ∈ NB ls x) : y ∈ ws := by
  rcases mem_NB.mp hy with q | q
  · exact (h.on _ q).2.1
  · exact (h.on _ q).1
theorem nd_len : ∀ {l ws : List Str}, l.Nodup → (∀ x ∈ l, x ∈ ws) → l.length ≤ ws.length
  | [], _, _, _ =>
                                                                                                              Nat.zero_le _
  | a :: l, ws, h, hs => by
    obtain ⟨h1, h2⟩ :=
                                                                                                              List.nodup_cons.mp h
    have ha : a ∈ ws := hs a List.mem_cons_self
    have := nd_len (ws := ws.erase a) h2 fun x hx => (List.mem_erase_of_ne (a := x) (b := a) fun z => h1 (by rw [← z]; exact hx)).mpr (hs x (List.mem_cons_of_mem _ hx))
    rw [List.length_erase_of_mem ha] at this
    have := List.length_pos_of_mem ha
    rw [List.length_cons]
    omega

/-! ### rows, by depth -/
section
variable (nb : Str → List Str) (g : Str)
def kids (pre : List Str) (x p : Str) (rest : List (List Str)) : List (List Str) := if p = g then [pre ++ [x] ++ [g]] else if p ∈ pre ++ [x] then [] else rest
def ext : Nat → List Str → Str → List (List Str)
  | 0, _, _ => []
  | n + 1, pre, x => (nb x).flatMap fun p => kids g pre x p (ext n (pre ++ [x]) p)
/-- what is left of a row from x to g, vis already in it -/
inductive Wk : List Str → Str → List Str → Prop
  | goal {vis : List Str} {x : Str} : g ∈ nb x → Wk vis x [g]
  | step {vis : List Str} {x p : Str} {t : List Str} : p ∈ nb x → p ≠ g → p ∉ vis → Wk (vis ++ [p]) p t → Wk vis x (p :: t)
end
variable {nb : Str → List Str} {g : Str}
theorem mem_ext : ∀ {n : Nat} {pre : List Str} {x : Str} {r : List Str}, r ∈ ext nb g n pre x ↔ ∃ t, t.length ≤ n ∧ r = pre ++ [x] ++ t ∧ Wk nb g (pre ++ [x]) x t
  | 0, pre, x, r => by
    refine Iff.intro (fun h => by cases h) fun h => ?_
    obtain ⟨t, h1, h2, h3⟩ := h
    cases h3 <;> simp at h1
  | n + 1, pre, x, r => by
    unfold ext kids
    rw [List.mem_flatMap]
    constructor
    · rintro ⟨p, hp, h⟩
      by_cases e : p = g
      · rw [if_pos e] at h
        subst e
        exact ⟨[p], by simp, List.mem_singleton.mp h, .goal hp⟩
      · rw [if_neg e] at h
        by_cases e2 : p ∈ pre ++ [x]
        · rw [if_pos e2] at h; cases h
        · rw [if_neg e2] at h
          obtain ⟨t, h1, h2, h3⟩ := mem_ext.mp h
          exact ⟨p :: t, by simpa using h1, by rw [h2]; simp, .step hp e e2 h3⟩
    · rintro ⟨t, h1, rfl, h3⟩
      cases h3 with
      | goal hp => exact ⟨g, hp, by rw [if_pos rfl]; simp⟩
      | step hp e e2 h4 =>
        rename_i p t
        refine ⟨p, hp, ?_⟩
        rw [if_neg e, if_neg e2]
        exact mem_ext.mpr ⟨t, by simpa using h1, by simp, h4⟩
theorem ext_lt (hs : ∀ x, (nb x).Pairwise fun a b => ltS a b = true) : ∀ {n : Nat} {pre : List Str} {x : Str}, (ext nb g n pre x).Pairwise fun a b => ltR a b = true
  | 0, _, _ => List.Pairwise.nil
  | n + 1, pre, x => by
    have pref : ∀ p r, r ∈ kids g pre x p (ext nb g n (pre ++ [x]) p) → ∃ t, r = pre ++ [x] ++ p :: t := by
      intro p r h
      unfold kids at h
      split at h
      · rename_i e
        exact ⟨[], by rw [List.mem_singleton.mp h, e]⟩
      · split at h
        · cases h
        · obtain ⟨t, _, h2, _⟩ := mem_ext.mp h
          exact ⟨t, by rw [h2]; simp⟩
    refine List.pairwise_flatMap.mpr ⟨fun p hp => ?_, (hs x).imp fun {p q} hpq r hr r' hr' => ?_⟩
    · unfold kids
      split
      · exact List.pairwise_singleton _ _
      · split
        · exact List.Pairwise.nil
        · exact ext_lt hs
    · obtain ⟨t, rfl⟩ := pref p r hr
      obtain ⟨t', rfl⟩ := pref q r' hr'
      rw [ltR_pre]
      show (if p = q then _ else ltS p q) = true
      rw [if_neg (ltS_ne hpq)]
      exact hpq
end DL

namespace DL
open PySem L2 PySem.Spec PyProof.Rows

/-! ### rows without depth -/
section
variable {nb : Str → List Str} {g b : Str}
def Ch (nb : Str → List Str) (l : List Str) : Prop := ∀ l1 a c l2, l = l1 ++ a :: c :: l2 → c ∈ nb a
theorem ch_one {x : Str} : Ch nb [x] := fun l1 a c l2 h => by
  have := congrArg
                                                                                                              List.length h
  simp at this
  omega
theorem ch_cons {x y : Str} {t : List Str} : Ch nb (x :: y :: t) ↔ y ∈ nb x ∧ Ch nb (y :: t) := by
  constructor
  · intro h
    refine ⟨h [] x y t rfl, fun l1 a c l2 e => h (x :: l1) a c l2 (by rw [e]; rfl)⟩
  · rintro ⟨h1, h2⟩ l1 a c l2 e
    cases l1 with
    | nil => cases e; exact h1
    | cons z l1 =>
      have e : x :: (y :: t) = z :: (l1 ++ a :: c :: l2) := e
      exact h2 l1 a c l2 (List.cons.inj e).2
theorem ch_rev {l : List Str} (hs : ∀ x y, y ∈ nb x → x ∈ nb y) (h : Ch nb l) : Ch nb l.reverse := fun l1 a c l2 e => by
  have e2 := congrArg List.reverse e
  rw [List.reverse_reverse] at e2
  simp only [List.reverse_append, List.reverse_cons, List.append_assoc, List.cons_append, List.nil_append] at e2
  exact hs _ _ (h l2.reverse c a l1.reverse (by rw [e2]))
theorem wk_to {vis : List Str} {x : Str} {t : List Str} (h : Wk nb g vis x t) : ∃ s, t = s ++ [g] ∧ g ∉ s ∧ s.Nodup ∧ (∀ p ∈ s, p ∉ vis) ∧ Ch nb (x :: t) := by
  induction h with
  | goal hg => exact ⟨[], rfl, by simp, List.nodup_nil, by simp, ch_cons.mpr ⟨hg, ch_one⟩⟩
  | step hp hg hv hw ih =>
    obtain ⟨s, rfl, h2, h3, h4, h5⟩ := ih
    rename_i vis x p
    refine ⟨p :: s, rfl, fun z => ?_, List.nodup_cons.mpr ⟨fun z => h4 p z (by simp), h3⟩, fun q hq => ?_, ch_cons.mpr ⟨hp, h5⟩⟩
    · rcases List.mem_cons.mp
                                                                                                              z with z | z
      · exact hg z.symm
      · exact h2 z
    · rcases List.mem_cons.mp
                                                                                                              hq with rfl | hq
      · exact hv
      · exact fun z => h4 q hq (List.mem_append_left _ z)
theorem wk_of : ∀ {s : List Str} {vis : List Str} {x : Str}, g ∉ s → s.Nodup → (∀ p ∈ s, p ∉ vis) → Ch nb (x :: (s ++ [g])) → Wk nb g vis x (s ++ [g])
  | [], vis, x, _, _, _, hc => .goal (ch_cons.mp hc).1
  | p :: s, vis, x, hg, hn, hv, hc => by
    obtain ⟨h1, h2⟩ := ch_cons.mp hc
    obtain ⟨n1, n2⟩ := List.nodup_cons.mp hn
    refine .step h1 (fun z => hg (by rw [z]; exact List.mem_cons_self)) (hv p List.mem_cons_self) (wk_of (fun z => hg (List.mem_cons_of_mem _ z)) n2 (fun q hq z => ?_) h2)
    rcases List.mem_append.mp z with z | z
    · exact hv q (List.mem_cons_of_mem _ hq) z
    · rw [List.mem_singleton.mp z] at hq
      exact n1 hq
/-- a row from b to g -/
def SP (nb : Str → List Str) (b g : Str) (r : List Str) : Prop := ∃ s, r = b :: (s ++ [g]) ∧ r.Nodup ∧ Ch nb r
theorem sp_wk (hb : b ≠ g) {t : List Str} : Wk nb g [b] b t ↔ SP nb b g (b :: t) := by
  constructor
  · intro h
    obtain ⟨s, rfl, h2, h3, h4, h5⟩ := wk_to h
    refine ⟨s, rfl, List.nodup_cons.mpr ⟨fun z => ?_, List.nodup_append.mpr ⟨h3, by simp, fun a ha c hc z => ?_⟩⟩, h5⟩
    · rcases List.mem_append.mp z with z | z
      · exact h4 b z (by simp)
      · exact hb (List.mem_singleton.mp z)
    · rw [List.mem_singleton.mp hc] at z
      exact h2 (z ▸ ha)
  · rintro ⟨s, h1, h2, h3⟩
    have h1 : t = s ++ [g] := (List.cons.inj h1).2
    subst h1
    obtain ⟨n1, n2⟩ := List.nodup_cons.mp h2
    obtain ⟨m1, m2, m3⟩ := List.nodup_append.mp n2
    refine wk_of (fun z => m3 g z g (by simp) rfl) m1 (fun p hp z => ?_) h3
    rw [List.mem_singleton.mp z] at hp
    exact n1 (List.mem_append_left _ hp)
theorem sp_rev (hs : ∀ x y, y ∈ nb x → x ∈ nb y) {r : List Str} (h : SP nb b g r) : SP nb g b r.reverse := by
  obtain ⟨s, rfl, h2, h3⟩ := h
  exact ⟨s.reverse, by simp, (List.reverse_perm _).nodup_iff.mpr h2, ch_rev hs h3⟩
theorem sp_in {ws : List Str} (hn : ∀ x y, y ∈ nb x → y ∈ ws) (hb : b ∈ ws) {r : List Str} (h : SP nb b g r) : ∀ x ∈ r, x ∈ ws := by
  obtain ⟨s, rfl, h2, h3⟩ := h
  intro x hx
  rcases List.mem_cons.mp
                                                                                                              hx with rfl | hx
  · exact hb
  · obtain ⟨l1, l2, e⟩ := List.append_of_mem hx
    have e3 : b :: (s ++ [g]) = (b :: l1) ++ x :: l2 := by rw [e]; rfl
    obtain ⟨l3, c, e4⟩ : ∃ l3 c, b :: l1 = l3 ++ [c] := ⟨(b :: l1).dropLast, (b :: l1).getLast (by simp), (List.dropLast_concat_getLast (by simp)).symm⟩
    refine hn c x (h3 l3 c x l2 ?_)
    rw [e3, e4]
    simp
theorem ext_sp {ws : List Str} (hn : ∀ x y, y ∈ nb x → y ∈ ws) (hb : b ∈ ws) (hbg : b ≠ g) {n : Nat} (hl : ws.length ≤ n) {r : List Str} : r ∈ ext nb g n [] b ↔ SP nb b g r := by
  rw [mem_ext]
  constructor
  · rintro ⟨t, _, rfl, h⟩
    exact (sp_wk hbg).mp h
  · intro h
    obtain ⟨s, e, h2, h3⟩ := id h
    have := nd_len h2 (sp_in hn hb h)
    subst e
    exact ⟨s ++ [g], by simp only [List.length_cons] at this; omega, rfl, (sp_wk hbg).mpr h⟩
/-- the rows the other way round -/
theorem ext_turn {ws : List Str} (hn : ∀ x y, y ∈ nb x → y ∈ ws) (hs : ∀ x y, y ∈ nb x → x ∈ nb y) (hlt : ∀ x, (nb x).Pairwise fun a b => ltS a b = true) (hb : b ∈ ws) (hg : g ∈ ws) (hbg : b ≠ g) {n : Nat} (hl : ws.length ≤ n) :
    ((ext nb b n [] g).map List.reverse).Perm (ext nb g n [] b) := by
  have n1 : (ext nb g n [] b).Nodup := ltR_nodup (ext_lt hlt)
  have n2 : ((ext nb b n [] g).map List.reverse).Nodup := List.pairwise_map.mpr ((ltR_nodup (ext_lt hlt)).imp fun h z => h (List.reverse_inj.mp z))
  refine (List.perm_ext_iff_of_nodup n2 n1).mpr fun r => ?_
  rw [ext_sp hn hb hbg hl, List.mem_map]
  constructor
  · rintro ⟨q, hq, rfl⟩
    exact sp_rev hs ((ext_sp hn hg hbg.symm hl).mp hq)
  · intro h
    exact ⟨r.reverse, (ext_sp hn hg hbg.symm hl).mpr (sp_rev hs h), List.reverse_reverse _⟩
end

/-! ### how many -/
def fct : Nat → Nat
  | 0 => 1
  | m + 1 => 1 + (m + 1) * fct m
def nds (nb : Str → List Str) (g : Str) : Nat → List Str → Str → Nat
  | 0, _, _ => 1
  | n + 1, pre, x => 1 + ((nb x).map fun p => if p = g ∨ p ∈ pre ++ [x] then 0 else nds nb g n (pre ++ [x]) p).sum
section
variable {nb : Str → List Str} {g : Str} {ws : List Str}
theorem fct_mono {a b : Nat} (h : a ≤ b) : fct a ≤ fct b := by
  induction h with
  | refl => exact Nat.le_refl _
  | step _ ih =>
    refine Nat.le_trans ih ?_
    rename_i m _
    show fct m ≤ 1 + (m + 1) * fct m
    rw [Nat.add_mul]
    omega
theorem sum_le {p : Str → Prop} [DecidablePred p] {f : Str → Nat} {B : Nat} : ∀ {l : List Str}, (∀ x ∈ l, ¬ p x → f x ≤ B) → (l.map fun x => if p x then 0 else f x).sum ≤ (l.filter fun x => !decide (p x)).length * B
  | [], _ => by simp
  | x :: l, h => by
    have ih := sum_le (p := p) (f := f) (B := B) (l := l) fun y hy => h y (List.mem_cons_of_mem _ hy)
    rw [List.map_cons, List.sum_cons, List.filter_cons]
    by_cases hp : p x
    · rw [if_pos hp]
      simp only [hp, decide_true, Bool.not_true, Bool.false_eq_true, if_false]
      omega
    · rw [if_neg hp]
      have := h x List.mem_cons_self hp
      simp only [hp, decide_false, Bool.not_false, if_true, List.length_cons, Nat.add_mul]
      omega
theorem nds_le (hn : ∀ x y, y ∈ nb x → y ∈ ws) (hd : ∀ x, (nb x).Nodup) (hg : g ∈ ws) : ∀ {n : Nat} {pre : List Str} {x : Str}, (pre ++ [x]).Nodup → (∀ y ∈ pre ++ [x], y ∈ ws) → g ∉ pre ++ [x] → nds nb g n pre x ≤ fct (ws.length - pre.length - 2)
  | 0, pre, x, _, _, _ => by
    show 1 ≤ _
    exact Nat.le_trans (by decide : 1 ≤ fct 0) (fct_mono (Nat.zero_le _))
  | n + 1, pre, x, h1, h2, h3 => by
    have hk : ((nb x).filter fun p => !decide (p = g ∨ p ∈ pre ++ [x])).length + pre.length + 2 ≤ ws.length := by
      have nd : (((nb x).filter fun p => !decide (p = g ∨ p ∈ pre ++ [x])) ++ (g :: (pre ++ [x]))).Nodup := by
        refine List.nodup_append.mpr ⟨(hd x).sublist List.filter_sublist, List.nodup_cons.mpr ⟨h3, h1⟩, fun a ha c hc z => ?_⟩
        subst z
        have q := (List.mem_filter.mp ha).2
        have q : ¬ (a = g ∨ a ∈ pre ++ [x]) := by simpa using q
        exact q (List.mem_cons.mp hc)
      have := nd_len (ws := ws) nd fun y hy => by
        rcases List.mem_append.mp
                                                                                                              hy with hy | hy
        · exact hn x y (List.mem_filter.mp hy).1
        · rcases List.mem_cons.mp
                                                                                                              hy with rfl | hy
          · exact hg
          · exact h2 y hy
      simp only [List.length_append, List.length_cons, List.length_nil] at this
      omega
    unfold nds
    have s := sum_le (p := fun p => p = g ∨ p ∈ pre ++ [x]) (f := fun p => nds nb g n (pre ++ [x]) p) (B := fct (ws.length - (pre ++ [x]).length - 2)) (l := nb x) fun p hp hq => by
      have hq1 : p ∉ pre ++ [x] := fun z => hq (.inr z)
      refine nds_le hn hd hg (List.nodup_append.mpr ⟨h1, by simp, fun a ha c hc z => ?_⟩) (fun y hy => ?_) fun z => ?_
      · rw [List.mem_singleton.mp hc] at z
        exact hq1 (z ▸ ha)
      · rcases List.mem_append.mp hy with hy | hy
        · exact h2 y hy
        · rw [List.mem_singleton.mp hy]; exact hn x p hp
      · rcases List.mem_append.mp z with z | z
        · exact h3 z
        · exact hq (.inl (List.mem_singleton.mp z).symm)
    obtain ⟨m, hm⟩ : ∃ m, m = ws.length - pre.length - 2 := ⟨_, rfl⟩
    rw [← hm]
    rw [show ws.length - (pre ++ [x]).length - 2 = m - 1 by rw [List.length_append]; simp only [List.length_cons, List.length_nil]; omega] at s
    generalize ((nb x).filter fun p => !decide (p = g ∨ p ∈ pre ++ [x])).length = K at s hk
    cases m with
    | zero =>
      have : K = 0 := by omega
      subst this
      rw [Nat.zero_mul] at s
      exact Nat.add_le_add_left s 1
    | succ m =>
      have : K ≤ m + 1 := by omega
      exact Nat.add_le_add_left (Nat.le_trans s (Nat.mul_le_mul_right _ this)) 1
theorem ext_len (hd : ∀ x, (nb x).Nodup) : ∀ {n : Nat} {pre : List Str} {x : Str}, (ext nb g n pre x).length ≤ nds nb g n pre x
  | 0, _, _ => Nat.zero_le _
  | n + 1, pre, x => by
    unfold ext nds
    rw [List.length_flatMap]
    have key : ∀ {l : List Str}, l.Nodup → (l.map fun p => (kids g pre x p (ext nb g n (pre ++ [x]) p)).length).sum ≤ (if g ∈ l then 1 else 0) + (l.map fun p => if p = g ∨ p ∈ pre ++ [x] then 0 else nds nb g n (pre ++ [x]) p).sum := by
      intro l hl
      induction l with
      | nil => simp
      | cons p l ih =>
        obtain ⟨h1, h2⟩ := List.nodup_cons.mp hl
        have ih := ih h2
        rw [List.map_cons, List.map_cons, List.sum_cons, List.sum_cons]
        by_cases e : p = g
        · subst e
          have e1 : (kids p pre x p (ext nb p n (pre ++ [x]) p)).length = 1 := by unfold kids; rw [if_pos rfl]; rfl
          rw [e1, if_pos List.mem_cons_self, if_pos (.inl rfl)]
          rw [if_neg h1] at ih
          omega
        · have hm : (g ∈ p :: l) ↔ g ∈ l := by rw [List.mem_cons]; exact ⟨fun z => z.resolve_left fun y => e y.symm, .inr⟩
          have e2 : (if g ∈ p :: l then 1 else 0) = (if g ∈ l then 1 else 0) := by by_cases q : g ∈ l <;> simp [hm, q]
          rw [e2]
          by_cases e3 : p ∈ pre ++ [x]
          · have e1 : (kids g pre x p (ext nb g n (pre ++ [x]) p)).length = 0 := by unfold kids; rw [if_neg e, if_pos e3]; rfl
            have e4 : (if p = g ∨ p ∈ pre ++ [x] then 0 else nds nb g n (pre ++ [x]) p) = 0 := if_pos (.inr e3)
            rw [e1, e4]
            omega
          · have e1 : (kids g pre x p (ext nb g n (pre ++ [x]) p)).length ≤ nds nb g n (pre ++ [x]) p := by unfold kids; rw [if_neg e, if_neg e3]; exact ext_len hd
            have e4 : (if p = g ∨ p ∈ pre ++ [x] then 0 else nds nb g n (pre ++ [x]) p) = nds nb g n (pre ++ [x]) p := if_neg fun z => z.elim e e3
            rw [e4]
            omega
    have := key (hd x)
    refine Nat.le_trans this (Nat.add_le_add_right ?_ _)
    split <;> omega
end
end DL

namespace DL
open PySem L2 PySem.Spec PyProof.Rows

/-! ### more of what the mirrors do -/
section
variable {e : Env} {d : D} {cs : List Str}
@[simp] theorem v_isT {T : String} {f : M R} : cIsT cs T f e = (f e).bnd fun r e1 => opt (((e1.rd r).bind (isiTy cs T)).map D.bl) e1 := rfl
@[simp] theorem v_isC {T : Str} {f : M R} : cIsC cs T f e = (f e).bnd fun r e1 => opt (((e1.rd r).bind (isiC cs T)).map D.bl) e1 := rfl
@[simp] theorem v_tyT {l : List D} : isiTy cs "tuple" (.tup l) = some true := rfl
@[simp] theorem v_tyS {s : Str} : isiTy cs "str" (.str s) = some true := rfl
@[simp] theorem v_fld {n : Str} {f : M R} : cFld cs n f e = (f e).bnd fun r e1 => opt ((e1.rd r).bind (fldD cs n)) e1 := rfl
@[simp] theorem v_prop {c : Str} {Φ : Fn} {f : M R} : cProp c Φ f e = (f e).bnd fun r e1 => propO c Φ (e1.frz r) := rfl
@[simp] theorem v_propO {c : Str} {Φ : Fn} : propO c Φ (some (d, e)) = if isObjC c d then callO e (Φ [.dat d] []) else .bad := rfl
@[simp] theorem v_isObj {c : Str} {ns : List Str} {l : List D} : isObjC c (.obj c ns l) = true := by unfold isObjC; simp
def makF (c : Str) (Φ : Fn) : Option (List D × Env) → Out R
  | some (ds, e) => makeO c e (Φ (.jar 0 :: ds.map A.dat) [.obj c [] []])
  | none => .bad
@[simp] theorem v_make {c : Str} {Φ : Fn} {fs : M (List R)} : cMake c Φ fs e = (fs e).bnd fun rs e1 => makF c Φ (e1.frzs rs) := by first | rfl | (unfold cMake makF makeD; rfl)
@[simp] theorem v_makF {c : Str} {Φ : Fn} {ds : List D} : makF c Φ (some (ds, e)) = makeO c e (Φ (.jar 0 :: ds.map A.dat) [.obj c [] []]) := rfl
@[simp] theorem v_makeO {c : Str} {ns : List Str} {l : List D} : makeO c e (.ok .non [.obj c ns l]) = .ok (.val (.obj c ns l)) e := by unfold makeO; simp
@[simp] theorem v_sFld {i : Nat} {f : Str} {g : M R} : sFldSet cs i f g e = (g e).bnd fun r e1 => fldSetO cs i f (e1.frz r) := rfl
def fldS (cs : List Str) (i : Nat) (f : Str) (d : D) (e : Env) : Option D → Out Fl
  | some (.obj c ns l) => if c ∈ cs ∧ ns.length < 1000 then outE (e.put i (.obj c (putN f d ns l).1 (putN f d ns l).2)) fun e3 => .ok .nx e3 else .bad
  | _ => .bad
@[simp] theorem v_fldSetO {i : Nat} {f : Str} : fldSetO cs i f (some (d, e)) = fldS cs i f d e (e.rd (.whole i)) := rfl
@[simp] theorem v_fldS {i : Nat} {f c : Str} {ns : List Str} {l : List D} : fldS cs i f d e (some (.obj c ns l)) = if c ∈ cs ∧ ns.length < 1000 then outE (e.put i (.obj c (putN f d ns l).1 (putN f d ns l).2)) fun e3 => .ok .nx e3 else .bad := rfl
@[simp] theorem v_meth {c m : Str} {Φ : Fn} {g : M R} {fs : M (List R)} : cMeth c m Φ g fs e = (g e).bnd fun r e1 => methO c m Φ (e1.frz r) fs := rfl
def methF (Φ : Fn) (d : D) : Option (List D × Env) → Out R
  | some (ds, e) => callO e (Φ (.dat d :: ds.map A.dat) [])
  | none => .bad
@[simp] theorem v_methO {c m : Str} {Φ : Fn} {fs : M (List R)} : methO c m Φ (some (d, e)) fs = if isObjC c d && !hasN m d then (fs e).bnd fun rs e1 => methF Φ d (e1.frzs rs) else .bad := by first | rfl | (unfold methO methF; rfl)
@[simp] theorem v_methF {Φ : Fn} {ds : List D} : methF Φ d (some (ds, e)) = callO e (Φ (.dat d :: ds.map A.dat) []) := rfl
@[simp] theorem v_cbBl {b : Bool} : (some b).map D.bl = some (.bl b) := rfl
theorem bls_all {l : List D} (h : ∀ d ∈ l, d = .bl true) : allD [.lst l] = some (.bl true) := by
  have : blsOf l = some (l.map fun _ => true) := by
    induction l with
    | nil => rfl
    | cons x l ih =>
      have hx := h x List.mem_cons_self
      subst hx
      unfold blsOf
      rw [ih fun d hd => h d (List.mem_cons_of_mem _ hd)]
      rfl
  unfold allD
  simp only [this]
  simp
end
/-! ### sorted texts and rows -/
theorem alike_strs : ∀ l m : List Str, PySem.W.alikeAll (D.pyL (l.map D.str)) (D.pyL (m.map D.str)) = true
  | [], _ => by simp [D.pyL, PySem.W.alikeAll]
  | _ :: _, [] => by simp [D.pyL, PySem.W.alikeAll]
  | a :: l, b :: m => by
    rw [List.map_cons, List.map_cons, D.pyL, D.pyL, PySem.W.alikeAll, alike_strs l m]
    rfl
theorem sorted_strs (l : List Str) : sortedD [.lst (l.map D.str)] = some (.lst ((sortS l).map D.str)) := by
  have ok : srtOk (l.map D.str) = true := by
    unfold srtOk
    simp only [Bool.and_eq_true, Bool.or_eq_true, List.all_eq_true, decide_eq_true_eq]
    refine ⟨⟨⟨plL_of fun d hd => ?_, fun x hx y hy => ?_⟩, .inr fun d hd => ?_⟩, fun d hd => ?_⟩
    · obtain ⟨s, _, rfl⟩ := List.mem_map.mp hd; rfl
    · obtain ⟨s, _, rfl⟩ := List.mem_map.mp hx
      obtain ⟨t, _, rfl⟩ := List.mem_map.mp hy
      rfl
    · obtain ⟨s, _, rfl⟩ := List.mem_map.mp hd; rfl
    · obtain ⟨s, _, rfl⟩ := List.mem_map.mp hd; exact Nat.zero_le _
  unfold sortedD
  simp only [ok, if_true, sortD_str]
theorem sorted_rows {fd : List (List Str)} (hn : ∀ r ∈ fd, r ≠ []) : sortedD [.lst (fd.map rowD)] = some (.lst (sortD (fd.map rowD))) := by
  have ok : srtOk (fd.map rowD) = true := by
    unfold srtOk
    simp only [Bool.and_eq_true, Bool.or_eq_true, List.all_eq_true, decide_eq_true_eq]
    refine ⟨⟨⟨plL_of fun d hd => ?_, fun x hx y hy => ?_⟩, .inl fun d hd => ?_⟩, fun d hd => ?_⟩
    · obtain ⟨s, _, rfl⟩ := List.mem_map.mp hd
      exact plL_of fun d hd => by obtain ⟨s, _, rfl⟩ := List.mem_map.mp hd; rfl
    · obtain ⟨s, _, rfl⟩ := List.mem_map.mp hx
      obtain ⟨t, _, rfl⟩ := List.mem_map.mp hy
      rw [rowD, rowD, D.py, D.py, PySem.W.alike, alike_strs]
    · obtain ⟨s, hs, rfl⟩ := List.mem_map.mp hd
      match s, hn s hs with
      | _ :: _, _ => rfl
    · obtain ⟨s, _, rfl⟩ := List.mem_map.mp hd
      have : (rowD s).py.depth ≤ 1 := by
        rw [rowD, D.py, PyData.depth]
        exact Nat.succ_le_succ (depth_of fun d hd => by obtain ⟨s, _, rfl⟩ := List.mem_map.mp hd; exact Nat.le_refl _)
      omega
  unfold sortedD
  simp only [ok, if_true]
end DL

namespace DL
open PySem L2 PySem.Spec PyProof.Rows

theorem at_last {l : List D} {x : D} : atI (l ++ [x]) (-1) = some x := by
  unfold L2.atI L2.ixN
  rw [if_neg (by omega), if_pos (by rw [List.length_append]; simp only [List.length_cons, List.length_nil]; omega)]
  have e : ((-1 : Int) + ((l ++ [x]).length : Nat)).toNat = l.length := by rw [List.length_append]; simp only [List.length_cons, List.length_nil]; omega
  rw [e]
  simp
theorem dcL_pure {i : Nat} {fk fv : M R} {e0 : Env} (k : D → Key) (h : D → D) :
    ∀ {ds : List D} {ak : List Key} {al : List D} {e : Env}, e.setS i .un = e0 → ak.length + ds.length ≤ sizeLine → (ak ++ ds.map k).Nodup →
      (∀ d ∈ ds, fk (e0.setS i (.dat d)) = .ok (.val d) (e0.setS i (.dat d)) ∧ kD d = some (k d) ∧ fv (e0.setS i (.dat d)) = .ok (.val (h d)) (e0.setS i (.dat d))) →
      ∃ e', dcL [i] (gN i) tYs fk fv ds ak al e = .ok (ak ++ ds.map k, al ++ ds.map h) e' ∧ e'.setS i .un = e0
  | [], ak, al, e, hw, _, _, _ => ⟨e, by simp [dcL], hw⟩
  | d :: ds, ak, al, e, hw, hl, hn, H => by
    obtain ⟨h1, h2, h3⟩ := H d List.mem_cons_self
    have hl' : ak.length + (ds.length + 1) ≤ sizeLine := hl
    have hnew : ¬ (ak.any fun j => decide (j = k d)) = true := by
      intro z
      obtain ⟨j, hj, e⟩ := List.any_eq_true.mp z
      have e := of_decide_eq_true e
      obtain ⟨_, _, n3⟩ := List.nodup_append.mp hn
      exact n3 j hj (k d) (by simp) e
    have ep : putDv ak al (k d) (h d) = (ak ++ [k d], al ++ [h d]) := if_neg hnew
    rw [dcL, v_wipe1, hw]
    simp only [v_gN, v_yes, h1, v_rdV, Option.bind_some, h2, h3, v_frzV, ep]
    rw [if_pos (by omega)]
    obtain ⟨e', q1, q2⟩ := dcL_pure (fk := fk) (fv := fv) (ak := ak ++ [k d]) (al := al ++ [h d]) (e := e0.setS i (.dat d)) k h (by subst hw; cases e; simp [Env.setS]) (by rw [List.length_append]; simp only [List.length_cons, List.length_nil]; omega) (by rw [List.append_assoc]; exact hn) fun x hx => H x (List.mem_cons_of_mem _ hx)
    refine ⟨e', ?_, q2⟩
    rw [q1]
    simp
theorem v_dc1 {i : Nat} {fi : M (List D)} {fk fv : M R} {e e1 : Env} {ds : List D} (k : D → Key) (h : D → D) (hi : fi e = .ok ds e1) (pl : plainAt e1 [i] = true) (hl : ds.length ≤ sizeLine) (hn : (ds.map k).Nodup)
    (H : ∀ d ∈ ds, fk ((e1.setS i .un).setS i (.dat d)) = .ok (.val d) ((e1.setS i .un).setS i (.dat d)) ∧ kD d = some (k d) ∧ fv ((e1.setS i .un).setS i (.dat d)) = .ok (.val (h d)) ((e1.setS i .un).setS i (.dat d))) :
    cDc [i] fi (gN i) tYs fk fv e = .ok (.val (.dct (ds.map k) (ds.map h))) e1 := by
  obtain ⟨e', q1, q2⟩ := dcL_pure (fk := fk) (fv := fv) (ak := []) (al := []) (e := e1) k h rfl (by simpa using hl) (by simpa using hn) H
  unfold cDc
  rw [hi, v_bnd, if_pos pl, q1]
  simp only [List.nil_append]
  rw [back_wipe (by rw [v_wipe1, v_wipe1]; exact q2)]
theorem ix_dct {ws : List Str} {f : Str → D} {x : Str} (hx : x ∈ ws) : ixD (.dct (ws.map fun w => .inr w) (ws.map f)) (.str x) = some (f x) := by
  show ((keyOf (.str x)).bind fun k => (((ws.map fun w => (.inr w : Key)).zip (ws.map f)).find? fun kv => decide (kv.1 = k)).map (·.2)) = _
  have e : keyOf (.str x) = some (.inr x) := rfl
  rw [e, Option.bind_some]
  induction ws with
  | nil => cases hx
  | cons w ws ih =>
    rw [List.map_cons, List.map_cons, List.zip_cons_cons, List.find?_cons]
    by_cases h : w = x
    · subst h; simp
    · have : (decide ((.inr w : Key) = .inr x)) = false := decide_eq_false fun z => h (Sum.inr.inj z)
      rw [this]
      exact ih ((List.mem_cons.mp hx).resolve_left fun z => h z.symm)
/-- the part of the ties at x, on data -/
def isAt1 (x : Str) : D → Bool
  | .tup [.str a, .str _] => decide (a = x)
  | _ => false
def isAt2 (x : Str) : D → Bool
  | .tup [.str _, .str b] => decide (b = x)
  | _ => false
def end1 : D → D
  | .tup [a, _] => a
  | d => d
def end2 : D → D
  | .tup [_, b] => b
  | d => d
theorem at1_map {ls : List (Str × Str)} {x : Str} : (((ls.map tieD).filter (isAt1 x)).map end2) = ((ls.filter fun p => decide (p.1 = x)).map (·.2)).map D.str := by
  rw [List.filter_map, List.map_map, List.map_map]
  rfl
theorem at2_map {ls : List (Str × Str)} {x : Str} : (((ls.map tieD).filter (isAt2 x)).map end1) = ((ls.filter fun p => decide (p.2 = x)).map (·.1)).map D.str := by
  rw [List.filter_map, List.map_map, List.map_map]
  rfl
@[simp] theorem v_fAdd {fa fb : M R} {e : Env} : fAdd fa fb e = (fa e).bnd fun x e1 => (fb e1).bnd fun y e2 => fAddO (e2.rd x) (e2.rd y) e2 := rfl
theorem v_fAddO {a b : List D} {e : Env} (h : a.length + b.length ≤ 16777216) : fAddO (some (.lst a)) (some (.lst b)) e = .ok (.lst (a ++ b)) e := if_pos (by rw [sizeLine_eq]; exact h)
theorem row_app {l : List Str} {s : Str} (h : l.length ≤ 100) : addD (rowD l) (.tup [.str s]) = some (rowD (l ++ [s])) := by
  unfold rowD
  rw [v_addT (by simp only [List.length_map, List.length_cons, List.length_nil]; omega)]
  simp
theorem notIn_row {l : List Str} {s : Str} (hs : PyData.strOk s = true) (hl : ∀ x ∈ l, PyData.strOk x = true) : notInD (.str s) (rowD l) = some (.bl (!decide (s ∈ l))) := by
  unfold rowD
  rw [notInD_tup (k := 1) (.str hs) (sh_row hl) (by omega), memB_str]
theorem row_last {l : List Str} {s : Str} : ixD (rowD (l ++ [s])) (.int (-1)) = some (.str s) := by
  unfold rowD
  rw [v_ixT, List.map_append]
  exact at_last
end DL

namespace DL
open PySem L2 PySem.Spec PyProof.Rows

/-! ### how long a repr is -/
theorem ok_app {a b : Str} (ha : PyData.strOk a = true) (hb : PyData.strOk b = true) : PyData.strOk (a ++ b) = true := by
  unfold PyData.strOk at ha hb ⊢
  show (a.cps ++ b.cps).all _ = true
  rw [Array.all_append, ha, hb]
  rfl
theorem ok_join : ∀ {ts : List Str}, (∀ t ∈ ts, PyData.strOk t = true) → PyData.strOk (Str.join ", " ts) = true
  | [], _ => by decide +kernel
  | [x], h => h x List.mem_cons_self
  | x :: y :: r, h => ok_app (ok_app (h x List.mem_cons_self) (by decide +kernel)) (ok_join fun t ht => h t (List.mem_cons_of_mem _ ht))
theorem ok_listText {ts : List Str} (h : ∀ t ∈ ts, PyData.strOk t = true) : PyData.strOk (listText ts) = true := by
  rw [listText_eq_join]
  exact ok_app (ok_app (by decide +kernel) (ok_join h)) (by decide +kernel)
theorem ok_tupleText {ts : List Str} (h : ∀ t ∈ ts, PyData.strOk t = true) : PyData.strOk (tupleText ts) = true := by
  unfold tupleText
  refine ok_app (ok_app (by decide +kernel) (ok_join h)) ?_
  split <;> decide +kernel
structure Txt (n : Nat) (d : D) : Prop where
  sh : d.py.showable = true
  len : d.py.shown.length ≤ n
  ok : PyData.strOk d.py.shown = true
theorem shown_all : ∀ l : List D, PyData.shownAll (D.pyL l) = l.map fun d => d.py.shown
  | [] => by rw [D.pyL, PyData.shownAll]; rfl
  | d :: l => by rw [D.pyL, PyData.shownAll, shown_all l]; rfl
theorem sum_len {n : Nat} : ∀ {l : List D}, (∀ d ∈ l, Txt n d) → (((l.map fun d => d.py.shown).map fun t => t.length).sum) ≤ l.length * n
  | [], _ => Nat.zero_le _
  | d :: l, h => by
    have ih := sum_len fun x hx => h x (List.mem_cons_of_mem _ hx)
    have := (h d List.mem_cons_self).len
    rw [List.map_cons, List.map_cons, List.sum_cons, List.length_cons, Nat.add_mul]
    omega
theorem Txt.tup {n : Nat} {l : List D} (h : ∀ d ∈ l, Txt n d) : Txt (l.length * n + 2 * l.length + 3) (.tup l) := by
  have e : (D.tup l).py.shown = tupleText (l.map fun d => d.py.shown) := by rw [D.py, PyData.shown, shown_all]
  refine ⟨?_, ?_, ?_⟩
  · rw [D.py, PyData.showable]
    exact pyL_all (q := PyData.showable) (qa := PyData.showableAll) (by simp [PyData.showableAll]) (fun x l => by simp [PyData.showableAll]) fun d hd => (h d hd).sh
  · rw [e]
    refine Nat.le_trans (tupleText_len_le _) ?_
    have := sum_len h
    rw [List.length_map]
    omega
  · rw [e]
    exact ok_tupleText fun t ht => by obtain ⟨d, hd, rfl⟩ := List.mem_map.mp ht; exact (h d hd).ok
theorem Txt.lst {n : Nat} {l : List D} (h : ∀ d ∈ l, Txt n d) : Txt (l.length * n + 2 * l.length + 3) (.lst l) := by
  have e : (D.lst l).py.shown = listText (l.map fun d => d.py.shown) := by rw [D.py, PyData.shown, shown_all]
  refine ⟨?_, ?_, ?_⟩
  · rw [D.py, PyData.showable]
    exact pyL_all (q := PyData.showable) (qa := PyData.showableAll) (by simp [PyData.showableAll]) (fun x l => by simp [PyData.showableAll]) fun d hd => (h d hd).sh
  · rw [e]
    refine Nat.le_trans (listText_len_le _) ?_
    have := sum_len h
    rw [List.length_map]
    omega
  · rw [e]
    exact ok_listText fun t ht => by obtain ⟨d, hd, rfl⟩ := List.mem_map.mp ht; exact (h d hd).ok
theorem Txt.mono {n m : Nat} {d : D} (h : Txt n d) (hm : n ≤ m) : Txt m d := ⟨h.sh, Nat.le_trans h.len hm, h.ok⟩
theorem repr_of {k n : Nat} {d : D} (hs : isSeqD d = true) (h : Sh k d) (hk : k ≤ 60) (t : Txt n d) (hn : n ≤ 16777216) : reprD [d] = some (.str d.py.shown) := by
  obtain ⟨h1, h2, h3, h4⟩ := h.facts
  have c : (isSeqD d && d.pl && d.py.showable && decide (d.py.depth ≤ 60) && decide (d.py.shown.length ≤ sizeLine) && !d.py.hasDict) = true := by
    rw [hs, h1, t.sh, h4, decide_eq_true (by omega : d.py.depth ≤ 60), decide_eq_true (by rw [sizeLine_eq]; have := t.len; omega : d.py.shown.length ≤ sizeLine)]
    rfl
  unfold reprD
  simp only [c, if_true]
/-- rows of short words -/
theorem txt_row {l : List Str} (h : ∀ s ∈ l, Txt 10 (.str s)) (hl : l.length ≤ 9) : Txt 111 (rowD l) := by
  refine (Txt.tup (n := 10) fun d hd => ?_).mono (by rw [List.length_map]; omega)
  obtain ⟨s, hs, rfl⟩ := List.mem_map.mp hd
  exact h s hs
theorem txt_rows {E : List (List Str)} (h : ∀ r ∈ E, r.length ≤ 9 ∧ ∀ s ∈ r, Txt 10 (.str s)) (hE : E.length ≤ 13700) : Txt 1548103 (.tup (E.map rowD)) := by
  refine (Txt.tup (n := 111) fun d hd => ?_).mono (by rw [List.length_map]; omega)
  obtain ⟨r, hr, rfl⟩ := List.mem_map.mp hd
  exact txt_row (h r hr).2 (h r hr).1
end DL

namespace DL
open PySem L2 PySem.Spec PyProof.Rows

section
variable {e : Env} {d : D}
@[simp] theorem v_nCall {Φ : Fn} {fs : M (List R)} : nCall Φ fs e = (fs e).bnd fun rs e1 => nCallO Φ (e1.frzs rs) := rfl
@[simp] theorem v_nCallO {Φ : Fn} {ds : List D} : nCallO Φ (some (ds, e)) = callN e (Φ (ds.map A.dat) []) := rfl
@[simp] theorem v_callN : callN e (.ok d []) = .ok d e := rfl
@[simp] theorem v_callT {Φ : Fn} {f : M D} : cCallT Φ f e = (f e).bnd fun d e1 => DL.callT e1 (Φ [.jar 0] [d]) := rfl
@[simp] theorem v_callTo {x : D} : DL.callT e (.ok d [x]) = .ok (.val d) e := rfl
@[simp] theorem v_nSeq {f : M Fl} {g : M D} : nSeq f g e = (f e).bnd fun fl e1 => (match fl with
  | .nx => g e1
  | _ => .bad) := rfl
def methK2 (Φ : Fn) (n nk : Nat) (p : List Nat) (d : D) (ds : List D) : Option (List D × Env) → Out R
  | some (zs, e) => if ds.length = n ∧ zs.length = nk then callO e (Φ ((prm p (d :: ds ++ zs)).map A.dat) []) else .bad
  | none => .bad
def methK1 (Φ : Fn) (n nk : Nat) (p : List Nat) (d : D) (gs : M (List R)) : Option (List D × Env) → Out R
  | some (ds, e) => (gs e).bnd fun qs e3 => methK2 Φ n nk p d ds (e3.frzs qs)
  | none => .bad
@[simp] theorem v_methK {c m : Str} {Φ : Fn} {n nk : Nat} {p : List Nat} {g : M R} {fs gs : M (List R)} : cMethK c m Φ n nk p g fs gs e = (g e).bnd fun r e1 => methKO c m Φ n nk p (e1.frz r) fs gs := rfl
@[simp] theorem v_methKO {c m : Str} {Φ : Fn} {n nk : Nat} {p : List Nat} {fs gs : M (List R)} : methKO c m Φ n nk p (some (d, e)) fs gs = if isObjC c d && !hasN m d then (fs e).bnd fun rs e1 => methK1 Φ n nk p d gs (e1.frzs rs) else .bad := by first | rfl | (unfold methKO methK1 methK2; rfl)
@[simp] theorem v_methK1 {Φ : Fn} {n nk : Nat} {p : List Nat} {gs : M (List R)} {ds : List D} : methK1 Φ n nk p d gs (some (ds, e)) = (gs e).bnd fun qs e3 => methK2 Φ n nk p d ds (e3.frzs qs) := rfl
@[simp] theorem v_methK2 {Φ : Fn} {n nk : Nat} {p : List Nat} {ds zs : List D} : methK2 Φ n nk p d ds (some (zs, e)) = if ds.length = n ∧ zs.length = nk then callO e (Φ ((prm p (d :: ds ++ zs)).map A.dat) []) else .bad := rfl
end
theorem neD_self {k : Nat} {a : D} (ha : Sh k a) (hk : k ≤ 64) : neD a a = some (.bl false) := by
  rw [neD_of ha ha hk, ha.refl]
  rfl
/-- the spot is another one -/
def isNot (x : Str) : D → Bool
  | .str a => !decide (a = x)
  | _ => false
theorem not_map {ws : List Str} {x : Str} : ((ws.map D.str).filter (isNot x)) = (ws.filter fun s => !decide (s = x)).map D.str := by
  rw [List.filter_map]
  rfl
end DL

namespace DL
open PySem L2 PySem.Spec PyProof.Rows

/-! ### a dict that a name owns -/
def fDct : M D := fun e => .ok (.dct [] []) e
def isDct : Option D → Bool
  | some (.dct _ _) => true
  | _ => false
def dputO (i : Nat) (d : D) (k : Key) (e : Env) : Option D → Out Fl
  | some (.dct ks l) => if ks.length < sizeLine then outE (e.put i (.dct (putDv ks l k d).1 (putDv ks l k d).2)) fun e3 => .ok .nx e3 else .bad
  | _ => .bad
def dputK (i : Nat) (d : D) (e : Env) : Option Key → Out Fl
  | some k => dputO i d k e (e.rd (.whole i))
  | none => .bad
def dputV (i : Nat) (fk : M R) : Option (D × Env) → Out Fl
  | some (d, e) => if isDct (e.rd (.whole i)) then (fk e).bnd fun rk e3 => dputK i d e3 ((e3.rd rk).bind kD) else .bad
  | none => .bad
def sDput (i : Nat) (fk fv : M R) : M Fl := fun e => (fv e).bnd fun r e1 => dputV i fk (e1.frz r)
section
variable {X : Cx} {cl : Str → Addr} {F : Fra} {W : WX}
theorem rf_dct {pos : Pos} : RF X cl F W (.Dict [] [] pos) fDct := by
  refine ⟨PE.imp pe_dnewK fun σ H Q ⟨e, G, st, q⟩ p hp => ?_⟩
  have z : ∀ a H' G', Stt X.K cl F e σ H' G' → Kp F σ e H G e H' G' → Own X.K cl H' G' a (.dct [] []) → G' a = none → F.H0 a = none → Loose F e σ a → (∀ b o, H b = some o → Loose F e σ b → b ≠ a) → Q (.ref a) H' := q
  obtain ⟨a1, a2, a3, a4, a5, a6⟩ := st.new (o := .dK []) .refl hp
  exact z p _ G a1 a2 ⟨[], upd_same, rfl, .nil⟩ a3 a4 a5 a6
theorem rs_dput (i : Nat) {x : Str} {a b : Expr} {fk fv : M R} {p pos pos' : Pos} (hu : X.A.units + 1 < cLine) (hk : RE X cl F W a fk) (hv : RE X cl F W b fv) (hN : X.N[i]? = some x := by rfl) (hvis : Vis X.env.scope x := by first | exact Or.inl rfl | exact Or.inr (Or.inl rfl) | exact Or.inr (Or.inr rfl)) (hd : (x == ("__debug__" : Str)) = false := by decide)
    (hcd : (x == ("__classdict__" : Str)) = false := by decide) (hs : swapsWith b (some (.Subscript (.Name x p) a pos')) pos.line X.env = pure false := by rfl) :
    RS X cl F W (.Assign [.Subscript (.Name x p) a pos'] b pos) (sDput i fk fv) := by
  refine ⟨PS.imp (ps_dput hu (pe_var hN hvis hd hcd) hk.pe hv.pe hs) fun D σ H ⟨e, G, st, q⟩ => tD_st st q fun r e1 v H1 G1 s1 k1 r1 z => ?_⟩
  cases y : e1.frz r with
  | none => rw [y] at z; exact z.elim
  | some pr =>
    obtain ⟨dv, e2⟩ := pr
    rw [y] at z
    obtain ⟨G2, s2, k2, r2⟩ := frz_ok s1 r1 y
    simp only [dputV] at z
    split at z
    · rename_i hl
      cases h0 : e2.rd (.whole i) with
      | none => rw [h0] at hl; cases hl
      | some d0 =>
        obtain ⟨a0, hs0, o0⟩ := s2.ref_at h0
        refine ⟨_, hs0, tD_st s2 (z.mono k2.gg) fun rk e3 vk H3 G3 s3 k3 r3 z => ?_⟩
        cases hkd : (e3.rd rk).bind kD with
        | none => rw [hkd] at z; exact z.elim
        | some k =>
          rw [hkd] at z
          obtain ⟨dk, hk1, hk2⟩ := Option.bind_eq_some_iff.mp hkd
          have ek := kD_top (s3.top r3 hk1) hk2
          simp only [dputK] at z
          cases h3 : e3.rd (.whole i) with
          | none => rw [h3] at z; exact z.elim
          | some d3 =>
            rw [h3] at z
            cases d3 with
            | dct ks l =>
              simp only [dputO] at z
              split at z
              · rename_i hsz
                obtain ⟨a3, hs3, us, hu3, hl3, ru⟩ := s3.ref_at h3
                rw [hs0] at hs3; cases hs3
                obtain ⟨us', p1, p2, p3⟩ := put_zip (k := k) (r2.mono k3.gg) hl3 ru
                cases hp : e3.put i (.dct (putDv ks l k dv).1 (putDv ks l k dv).2) with
                | none => rw [hp] at z; exact z.elim
                | some e4 =>
                  rw [hp] at z
                  obtain ⟨s4, k4⟩ := s3.put (o := .dK ((putDv ks l k dv).1.zip us')) hs0 h3 hp fun H' h => ⟨us', h, p2, p3⟩
                  refine ⟨a0, upd H3 a0 (.dK ((putDv ks l k dv).1.zip us')), rfl, ?_, z σ _ _ s4 (.refl _)⟩
                  rw [ek, ← p1]
                  exact DPut.k hu3 (by rw [List.length_zip, ← hl3, Nat.min_self]; exact hsz)
              · exact z.elim
            | _ => exact z.elim
    · exact z.elim
end
end DL

namespace DL
open PySem L2 PySem.Spec PyProof.Rows

/-! ### a dict of one pair that a name owns -/
def dct1O (fv : M R) (e1 : Env) : Option Key → Out D
  | some k => (fv e1).bnd fun q e2 => (match e2.frz q with
    | some (y, e3) => .ok (.dct [k] [y]) e3
    | none => .bad)
  | none => .bad
def fDct1 (fk fv : M R) : M D := fun e => (fk e).bnd fun r e1 => dct1O fv e1 ((e1.rd r).bind kD)
/-! ### d.get(k, other) -/
def zipAt (ks : List Key) (l : List D) (k : Key) : Option D := ((ks.zip l).find? fun kv => decide (kv.1 = k)).map (·.2)
def get2V (r0 : R) (z : D) (e : Env) : Option Key → Out R
  | some k => (match e.rd r0 with
    | some (.dct ks l) => .ok (.val ((zipAt ks l k).getD z)) e
    | _ => .bad)
  | none => .bad
def get2K (r0 rk : R) : Option (D × Env) → Out R
  | some (z, e) => get2V r0 z e ((e.rd rk).bind kD)
  | none => .bad
def cGet2 (fo fk fv : M R) : M R := fun e => (fo e).bnd fun r0 e1 => if isDct (e1.rd r0) then (fk e1).bnd fun rk e2 => (fv e2).bnd fun rv e3 => get2K r0 rk (e3.frz rv) else .bad
/-! ### f(.., k = v, ..) of a def -/
def cCallK (Φ : Fn) (n nk : Nat) (p : List Nat) (fs gs : M (List R)) : M R := fun e => (fs e).bnd fun rs e1 => match e1.frzs rs with
  | some (ds, e2) => (gs e2).bnd fun qs e3 => (match e3.frzs qs with
    | some (zs, e4) => if ds.length = n ∧ zs.length = nk then callO e4 (Φ ((prm p (ds ++ zs)).map A.dat) []) else .bad
    | none => .bad)
  | none => .bad
section
variable {X : Cx} {cl : Str → Addr} {F : Fra} {W : WX}
theorem rf_dct1 {kx vx : Expr} {pos : Pos} {fk fv : M R} (hk : RE X cl F W kx fk) (hv : RE X cl F W vx fv) : RF X cl F W (.Dict [some kx] [vx] pos) (fDct1 fk fv) := by
  refine ⟨PE.imp (pe_disp (pps_cons hk.pe hv.pe pps_nil) rfl rfl (by simp) (by simp)) fun σ H Q ⟨e, G, st, q⟩ p hp => ?_⟩
  obtain ⟨lp, hp0⟩ := st.fresh hp
  have g0 : G p = none := st.ret.gh.free hp
  refine tD_then (st.layL (o := .dK []) hp) q fun r e1 v H1 G1 s1 k1 r1 z => ?_
  cases hkd : (e1.rd r).bind kD with
  | none => rw [hkd] at z; exact z.elim
  | some k =>
    rw [hkd] at z
    obtain ⟨dk, hk1, hk2⟩ := Option.bind_eq_some_iff.mp hkd
    have ek := kD_top (s1.top r1 hk1) hk2
    refine tD_then s1 z fun q2 e2 y H2 G2 s2 k2 r2 z => ?_
    cases hz : e2.frz q2 with
    | none => rw [hz] at z; exact z.elim
    | some py =>
      obtain ⟨dy, e3⟩ := py
      rw [hz] at z
      obtain ⟨G3, s3, k3, r3⟩ := frz_ok s2 r2 hz
      have kk := (k1.trans k2).trans k3
      obtain ⟨h2p, g2p⟩ := kk.kp p _ upd_same lp
      have g2p := g2p g0
      have le : Loose F e3 σ p := ⟨lp.1, fun j d hj => by
        obtain ⟨d', h'⟩ := kk.ow j d hj
        exact lp.2 j d' h'⟩
      refine ⟨h2p, [(k, y)], by rw [ek]; rfl, by simp, ?_⟩
      refine z p _ G3 (s3.updL h2p g2p hp0 le) ⟨kk.gg, fun a o h l => ?_, kk.ow⟩ ⟨[y], upd_same, rfl, .cons r3 .nil⟩ g2p hp0 le fun b u q lb => ne_of_none q hp
      have ne := ne_of_none h hp
      obtain ⟨q1, q2⟩ := kk.kp a o (by rw [upd_ne ne]; exact h) l
      exact ⟨by rw [upd_ne ne]; exact q1, q2⟩
theorem rep_getD {K : PySem.W.Frag} {G : Hp} {ks : List Key} {l : List D} {vs : List V} {k : Key} {z : D} {w : V} (r : RepL K cl G l vs) (hl : ks.length = vs.length) (rz : Rep K cl G z w) : Rep K cl G ((zipAt ks l k).getD z) ((valV (ks.zip vs) k).getD w) := by
  unfold zipAt
  cases e : ((ks.zip l).find? fun kv => decide (kv.1 = k)).map (·.2) with
  | some d =>
    obtain ⟨v, hv, rv⟩ := r.zipFind e
    have hv : valV (ks.zip vs) k = some v := hv
    rw [hv]
    exact rv
  | none =>
    have h1 := valV_zip_some k ks l (by rw [hl, r.length])
    have h2 := valV_zip_some k ks vs hl
    have h2 : (valV (ks.zip vs) k).isSome = hasK ks k := h2
    rw [e] at h1
    rw [← h1] at h2
    cases e2 : valV (ks.zip vs) k with
    | none => exact rz
    | some v => rw [e2] at h2; cases h2
theorem re_get2 {o a b : Expr} {fo fk fv : M R} {apos pos : Pos} (hu : X.A.units + 1 < cLine) (ho : RE X cl F W o fo) (hk : RE X cl F W a fk) (hv : RE X cl F W b fv) (m : M2 X o "get" apos a b pos := by exact ⟨rfl, rfl, rfl, rfl⟩) : RE X cl F W (.Call (.Attribute o "get" apos) [a, b] [] pos) (cGet2 fo fk fv) := by
  refine ⟨PE.imp (pe_dget2 hu ho.pe hk.pe hv.pe m) fun σ H Q ⟨e, G, st, q⟩ => tD_then st q fun r0 e1 x H1 G1 s1 k1 r1 z => ?_⟩
  by_cases hd : isDct (e1.rd r0) = true
  · rw [if_pos hd] at z
    cases h0 : e1.rd r0 with
    | none => rw [h0] at hd; cases hd
    | some d0 =>
      rw [h0] at hd
      cases d0 with
      | dct ks0 l0 =>
        obtain ⟨a0, vs0, rfl, ha0, _, _⟩ := (s1.top r1 h0).dct s1.ret.gh
        refine ⟨a0, rfl, .inl ⟨_, ha0⟩, tD_then s1 z fun rk e2 y H2 G2 s2 k2 r2 z => tD_then s2 z fun rv e3 w H3 G3 s3 k3 r3 z => ?_⟩
        cases hz : e3.frz rv with
        | none => rw [hz] at z; exact z.elim
        | some py =>
          obtain ⟨dz, e4⟩ := py
          rw [hz] at z
          obtain ⟨G4, s4, k4, r4⟩ := frz_ok s3 r3 hz
          simp only [get2K] at z
          cases hkd : (e4.rd rk).bind kD with
          | none => rw [hkd] at z; exact z.elim
          | some k =>
            rw [hkd] at z
            obtain ⟨dk, hk1, hk2⟩ := Option.bind_eq_some_iff.mp hkd
            have ek := kD_top (s4.top ((r2.mono k3.gg).mono k4.gg) hk1) hk2
            simp only [get2V] at z
            cases h4 : e4.rd r0 with
            | none => rw [h4] at z; exact z.elim
            | some d4 =>
              rw [h4] at z
              cases d4 with
              | dct ks l =>
                obtain ⟨a4, vs, e4', ha4, hl, rr⟩ := (s4.top (((r1.mono k2.gg).mono k3.gg).mono k4.gg) h4).dct s4.ret.gh
                cases e4'
                refine ⟨valV (ks.zip vs) k, by rw [ek]; exact .inl ⟨_, _, ha4, rfl, rfl⟩, z _ _ _ s4 (((k1.trans k2).trans k3).trans k4) (rep_getD rr hl r4)⟩
              | _ => exact z.elim
      | _ => cases hd
  · rw [if_neg hd] at z; exact z.elim
variable {k : Nat} {f pr : Addr} {fd : FuncData} {ps ks : List Str} {Φ : Fn} {x : Str} {a : Expr} {es : List Expr} {kws : List Keyword} {fs gs : M (List R)} {pos q : Pos} {n : Nat} {p : List Nat}
theorem pe_callN0 {CX : CXT} {sp : Sp} {E : XK} {tk : TA} {g : List Value → List Value → List Value} {gV : List V → List V → List V} (Fn : FnOk X.prog X.w X.K X.mg X.base CX k f fd ps sp) (hr : Room k X.A) (hg : Gl X x) (hm : X.mg x = some (.ref f)) (hk : PySem.W.keepIn X.K (.ref f) = true) (hb : KBn X.K fd ps 0 ks g gV) (hx : Passes CX X E)
    (hkw : PK X kws tk) (hall : (backToKw pos (keywordEach kws X.env)).all (·.1.isSome) = true := by rfl) (hks : (backToKw pos (keywordEach kws X.env)).filterMap (·.1) = ks := by rfl)
    (hdb : (x == ("__debug__" : Str)) = false := by decide)
    (hpl : ((backTo pos (starEach [] X.env)).any (·.1) || (backToKw pos (keywordEach kws X.env)).any (·.1.isNone)) = false :=
                                                                                                              by rfl) :
    PE X (.Call (.Name x q) [] kws pos) (tCallN 0 ks.length sp gV E tNil tk) := by
  refine ⟨fun pins s
                                                                                                              σ H Q I h => ?_⟩
  refine wpAny_Call_Name_kw
                                                                                                              (ld_glob I hg hm ?_ hdb)
  refine PySem.W.callWith_KW0 (h₀ := X.base) I.ok.mod.kin hk hall ?_ hpl
  refine thn (hkw.run pos pins s σ H _ I h) fun ws
                                                                                                              s2 ⟨zs, H2, I2, rz, l1, l2, q2⟩ => ⟨I2.kIn, ?_⟩
  rw [hks]
  exact run_fnN (us := []) (vs := []) Fn hr hb hx I2 .nil rz rfl l2 q2
theorem callK_D {σ : L2.St} {H : Hp} {Q : VK} (h : tD X.K cl F W (cCallK Φ n ks.length p fs gs) σ H Q) :
    tCallN n ks.length (spD X.K cl Φ) (fun vs zs => prm p (vs ++ zs)) (fun c d H => ∃ σ, W c d σ H) (tA X.K cl F W fs) (tA X.K cl F W gs) σ H Q := by
  obtain ⟨e, G, st, q⟩ := h
  refine tA_then st q fun rs e3 vs H3 G3 s3 k3 r3 z => ?_
  cases y3 : e3.frzs rs with
  | none => rw [y3] at z; exact z.elim
  | some p3 =>
    obtain ⟨ds, e4⟩ := p3
    rw [y3] at z
    obtain ⟨G4, s4, k4, r4⟩ := frzs_ok s3 r3 y3
    refine tA_then s4 z fun qs e5 zs H5 G5 s5 k5 r5 z => ?_
    cases y5 : e5.frzs qs with
    | none => rw [y5] at z; exact z.elim
    | some p5 =>
      obtain ⟨es, e6⟩ := p5
      rw [y5] at z
      obtain ⟨G6, s6, k6, r6⟩ := frzs_ok s5 r5 y5
      simp only at z
      split at z
      · rename_i hl2
        refine ⟨r4.length.symm.trans hl2.1, r6.length.symm.trans hl2.2, ?_⟩
        have g46 : Same G4 G6 := fun b o q => k6.gg b o (k5.gg b o q)
        have rr : RepL X.K cl G6 (ds ++ es) (vs ++ zs) := RepL.append (r4.mono g46) r6
        exact callO_D (Φ := Φ) (ds := prm p (ds ++ es)) s6 (repL_prm rr p) z (fun d v H' G' s7 k7 rv hq => hq v H' G' s7 ((((k3.trans k4).trans k5).trans k6).trans k7) rv) (fun c d H' z => ⟨σ, z⟩)
      · exact z.elim
theorem re_callK (Fn : FnOk X.prog X.w X.K X.mg X.base (L2.CX X.prog X.w) k f fd ps (spD X.K cl Φ)) (hr : Room k X.A) (tk : Takes X W) (hW : SI W) (hg : Gl X x) (hm : X.mg x = some (.ref f)) (hk : PySem.W.keepIn X.K (.ref f) = true) (hb : KBp X.K fd ps n ks p)
    (ha : RA X cl F W (a :: es) fs) (hkw : RK X cl F W kws gs)
    (hall : (backToKw pos (keywordEach kws X.env)).all (·.1.isSome) = true := by rfl) (hks : (backToKw pos (keywordEach kws X.env)).filterMap (·.1) = ks := by rfl)
    (hdb : (x == ("__debug__" : Str)) = false := by decide) (he : starEach (a :: es) X.env = (false, eval a X.env) :: starEach es X.env := by rfl)
    (hpl : ((backTo pos (starEach (a :: es) X.env)).any (·.1) || (backToKw pos (keywordEach kws X.env)).any (·.1.isNone)) = false := by rfl) :
    RE X cl F W (.Call (.Name x q) (a :: es) kws pos) (cCallK Φ n ks.length p fs gs) :=
  ⟨PE.imp (pe_callN (E := fun c d H => ∃ σ, W c d σ H) Fn hr hg hm hk hb (passes_call tk fun c d σ H ⟨σ', z⟩ => hW c d σ' σ H z) ha.pa hkw.pk hall hks hdb he hpl) fun σ H Q z => callK_D z⟩
theorem re_callK0 (Fn : FnOk X.prog X.w X.K X.mg X.base (L2.CX X.prog X.w) k f fd ps (spD X.K cl Φ)) (hr : Room k X.A) (tk : Takes X W) (hW : SI W) (hg : Gl X x) (hm : X.mg x = some (.ref f)) (hk : PySem.W.keepIn X.K (.ref f) = true) (hb : KBp X.K fd ps 0 ks p)
    (hkw : RK X cl F W kws gs)
    (hall : (backToKw pos (keywordEach kws X.env)).all (·.1.isSome) = true := by rfl) (hks : (backToKw pos (keywordEach kws X.env)).filterMap (·.1) = ks := by rfl)
    (hdb : (x == ("__debug__" : Str)) = false := by decide)
    (hpl : ((backTo pos (starEach [] X.env)).any (·.1) || (backToKw pos (keywordEach kws X.env)).any (·.1.isNone)) = false :=
                                                                                                              by rfl) :
    RE X cl F W (.Call (.Name x q) [] kws pos) (cCallK Φ 0 ks.length p cNil gs) := by
  refine ⟨PE.imp (pe_callN0 (E := fun c d H => ∃ σ, W c d σ H) Fn hr hg hm hk hb (passes_call tk fun c d σ H ⟨σ', z⟩ => hW c d σ' σ H z) hkw.pk hall hks hdb hpl) fun σ H Q z => ?_⟩
  have z := callK_D z
  obtain ⟨e, G, st, q⟩ := z
  exact q [] H G st .refl .nil
end
end DL

namespace DL
open PySem PySem.Spec PySem.W PySem.Calls PyProof.Rows

/-! ### sorted of a tuple -/
section
variable {prog : Program} {w : World} {A : Around} {E : Value → Shared → Prop} {s : Shared} {vs : List Value} {l : Addr}
theorem gather_tup {Q : List Value → Shared → Prop} (hl : s.heap.IsTuple l vs.toArray)
    (h : Q vs { s with heap := (s.heap.push (seqObj "list" #[] 0)).update s.heap.objs.size (Obj.mapSeq (· ++ vs.toArray)) }) (hsz : vs.length ≤ sizeLine) :
    wpAny (model prog w) A
                                                                                                              (collect (.ref l)) Q E s := by
  obtain ⟨o, ho, hc,
                                                                                                              n, hd⟩ := id hl
  unfold collect
  refine wpAny_bind (wpAny_runValue
                                                                                                              (codeAny_builtin entry_proto_collect' ?_))
  show wpAny _ _ (do again (.builtin "list.__iadd__"
                                                                                                              ⟨[← newList [], .ref l], []⟩)) _ _ s
  refine wpAny_bind (wpAny_newList (wpAny_pure ⟨Code.quiet_builtin
                                                                                                              _ (by decide +kernel), codeAny_builtin entry_list_iadd' ?_⟩))
  show wpAny _ _ (Builtin.List.listExtendWith (.ref s.heap.objs.size) (.ref l)
                                                                                                              (.ref s.heap.objs.size)) _ _ { s with heap := s.heap.push (seqObj "list" #[] 0) }
  unfold
                                                                                                              Builtin.List.listExtendWith
  have ho' : (s.heap.push (seqObj "list" #[]
                                                                                                              0)).get? l = some o := Heap.get?_push_of_some _ ho
  refine wpAny_bind (wpAny_typeOf (T := "tuple") ⟨o, ho', hc⟩ ?_)
  have ht : (Value.type "tuple" == Value.type "tuple") = true := by rfl
  rw [if_pos (by
                                                                                                              rw [ht]; simp)]
  refine wpAny_bind
                                                                                                              (listItems_at ho' hd ?_)
  refine wpAny_bind (listItems_at (xs := #[])
                                                                                                              (n := 0) (Heap.get?_push_size _ rfl) rfl ?_)
  rw [if_neg (by simp)]
  refine wpAny_bind (listUpdate_at (xs := #[]) (n := 0) (Heap.get?_push_size _ rfl) rfl ?_ (Nat.zero_le _) (by show
                                                                                                              (#[] ++ vs.toArray).size ≤ sizeLine + 1; simp only [Array.size_append, List.size_toArray, List.length_nil]; omega))
  refine wpAny_pure ?_
  show wpAny (model
                                                                                                              prog w) A (do
      let o ← load s.heap.objs.size
      match o.data with
      | .seq xs _ => pure xs.toList
      | _ =>
                                                                                                              unsupported "internal:collect") Q E { s with heap := (s.heap.push (seqObj "list" #[] 0)).update s.heap.objs.size (Obj.mapSeq (· ++ vs.toArray)) }
  refine wpAny_bind (wpAny_load (get?_update_seq
                                                                                                              (Heap.get?_push_size _ rfl) _) ?_)
  show wpAny _ _ (pure ((#[] : Array
                                                                                                              Value) ++ vs.toArray).toList) Q E _
  rw [show ((#[] : Array Value) ++ vs.toArray).toList = vs
                                                                                                              by simp]
  exact wpAny_pure h
theorem sortT_vals {κ : PyProof.Rows.KeyKind} {Q : Value → Shared → Prop} (hl : s.heap.IsTuple l vs.toArray) (S : SortsAt prog w A.in1.in1 { s with heap := sortingHeap (copyHeap s.heap vs) (s.heap.objs.size + 1) vs } κ vs) (hL : vs.length ≤ sizeLine)
    (h : Q (.ref (s.heap.objs.size + 1)) { s with heap := sortedAll s.heap vs (sortVals κ false vs vs).toArray }) : wpAny (model prog w) A (call (.builtin "sorted") [.ref l]) Q E s := by
  refine call_function_entry_kw kind_sorted plain_sorted entry_sorted (args_sorted1 _) ?_
  unfold Builtin.«sorted»
  refine wpAny_bind (m := checkCount
                                                                                                              "sorted" 1 1 _) (wpAny_pure ?_)
  refine wpAny_bind (gather_tup hl ?_ hL)
  refine wpAny_bind
                                                                                                              (wpAny_newList ?_ hL)
  have hsz : ((s.heap.push (seqObj "list" #[] 0)).update s.heap.objs.size
                                                                                                              (Obj.mapSeq (· ++ vs.toArray))).objs.size = s.heap.objs.size + 1 := by
    rw [Heap.size_update,
                                                                                                              size_push']
  show wpAny _ _ _ _ _ { s with
                                                                                                              heap := copyHeap s.heap vs }
  rw [hsz]
  refine wpAny_bind (wpAny_holding (wpAny_call_entry_kw slot_list_sort ⟨_, copyHeap_at s.heap vs, rfl⟩ entry_list_sort ?body (args_list_sort _)))
  case body =>
    show wpAny (model prog w) A.in1.in1 (Builtin.«list.sort» ⟨[.ref (s.heap.objs.size + 1)], []⟩) _ _ _
    refine wpAny_mono (Q := fun f s' => f = .done (.ret .none) ∧ Q (.ref (s.heap.objs.size + 1)) s') (list_sort_vals (s := { s with heap := copyHeap s.heap vs }) (copyHeap_at s.heap vs) S hL ⟨rfl, h⟩) (fun f s' hf => ?_) fun _ _ e => e
    obtain ⟨rfl, hq⟩ := hf
    exact ⟨_, rfl,
                                                                                                              wpAny_pure ⟨_, rfl, hq⟩⟩
theorem sortT_data {β : Type} {bs : List β} {enc : β → PyData} {R : Value → β → Prop} {Q : Value → Shared → Prop} (hl : s.heap.IsTuple l vs.toArray) (e : EachIs R vs bs) (er : EachIs (fun v b => ∃ as, Reads s.heap v (enc b) as) vs bs) (hal : AllAlike (bs.map enc)) (hk : Sortable (bs.map enc)) (hL : bs.length ≤ sizeLine)
    (hu : ∀ b, b ∈ bs → A.units + 2 + (enc b).depth < cLine) (h : ∀ out, out.length = bs.length → EachIs R out (bs.mergeSort
                                                                                                              (dataLe false enc)) → Q (.ref (s.heap.objs.size + 1)) { s with heap := sortedAll s.heap vs (List.toArray out) }) :
    wpAny (model prog w) A (call (.builtin
                                                                                                              "sorted") [.ref l]) Q E s := by
  have er2 : EachIs (fun v b => ∃ as, Reads (sortingHeap (copyHeap s.heap vs) (s.heap.objs.size + 1) vs) v (enc b) as) vs bs := er.mono fun _ _ ⟨as, r⟩ => ⟨as, PyProof.Rows.Reads.keeps (fun _ _ => sorting_copy_old) r⟩
  exact sortT_vals hl (SortsAt.data (s := { s with heap := sortingHeap (copyHeap s.heap vs) (s.heap.objs.size + 1) vs }) (each_map (R := fun v d => ∃ as, Reads (sortingHeap (copyHeap s.heap vs) (s.heap.objs.size + 1) vs) v d as) enc er2) hal hk (bound_map hu)) (by rw [e.length]; exact hL)
    (h _ (by rw [sortVals_length false rfl]; exact e.length) (sortVals_data false e er2 hal))
end
end DL
namespace DL
open PySem L2 PySem.Spec PyProof.Rows
section
variable {X : Cx} {cl : Str → Addr}
theorem cr_sortDT (hu : X.A.units + 64 < cLine) : CallR X (.builtin "sorted") fun xs H Q => ∃ a ds vs, xs = [V.ref a] ∧ SqT X.K H a vs ∧ RepL X.K cl H ds vs ∧ srtOk ds = true ∧ ∀ p, H p = none → Q (.ref p) (upd H p (.lst ((sortP ds vs).map (·.2)))) := by
  intro pins s σ
                                                                                                              H xs us Q I r h
  obtain ⟨a, ds, vs, rfl, hs, rp, ok, q⟩ := h
  obtain ⟨its, rv, hl, hz⟩ := I.tuple hs
  rw [Vals.ref1 r]
  unfold srtOk at ok
  simp only [Bool.and_eq_true, Bool.or_eq_true, List.all_eq_true, decide_eq_true_eq] at ok
  obtain ⟨⟨⟨pl, al⟩, kd⟩, dp⟩ := ok
  have hlen : (ds.zip vs).length = vs.length := by rw [List.length_zip, rp.length, Nat.min_self]
  have hm : (ds.zip vs).map (fun p => p.1.py) = ds.map D.py := by
    rw [show (fun p : D × V => p.1.py) = D.py ∘ (·.1) from rfl, ← List.map_map, zip_fst rp]
  have e := each_zip rp rv
  refine sortT_data (bs := ds.zip vs) (enc := fun p => p.1.py) (R := fun u p => Rep X.K cl H p.1 p.2 ∧ RelV p.2 u) hl e ?_ ?_ ?_ ?_ ?_ fun out l1 e2 => ?_
  · refine each_mem e fun u p hp hq => ?_
    obtain ⟨as, hr⟩ := Dp.reads I p.1.py p.2 u (hq.1.dp (plL_all pl _ (List.of_mem_zip hp).1)) hq.2
    exact ⟨as, hr⟩
  · rw [hm]
    intro d hd d' hd'
    obtain ⟨x, hx, rfl⟩ := List.mem_map.mp hd
    obtain ⟨y, hy, rfl⟩ := List.mem_map.mp hd'
    exact al x hx y hy
  · rw [hm]
    rcases kd with kd | kd
    · refine .inl fun d hd => ?_
      obtain ⟨x, hx, rfl⟩ := List.mem_map.mp hd
      have k := kd x hx
      unfold tupC at k
      split at k
      · exact ⟨_, _, by rw [D.py, D.pyL]⟩
      · cases k
    · refine .inr fun d hd => ?_
      obtain ⟨x, hx, rfl⟩ := List.mem_map.mp hd
      have k := kd x hx
      cases x <;> first | cases k; done | (refine ⟨?_, fun xs => ?_⟩ <;> (rw [D.py]; intro z; cases z))
  · rw [hlen]; exact hz
  · intro p hp
    have := dp p.1 (List.of_mem_zip hp).1
    omega
  · obtain ⟨v1, _⟩ := each_vals e2
    have l2 : ((sortP ds vs).map (·.2)).length = vs.length := by rw [List.length_map, sortP, List.length_mergeSort, hlen]
    exact ⟨.ref _, _, I.laid (t' := s.toks) (o := .lst ((sortP ds vs).map (·.2))) (fun b o => sortedAll_old) (Nat.le_succ _) ⟨by rw [l2]; exact hz, out, _, v1, (sortedAll_at s.heap its out.toArray).choose_spec⟩, rfl, q _ (I.hok.fresh (Nat.le_succ _))⟩
/-- sorted of a list or a tuple -/
def sorted2D : List D → Option D
  | [.tup l] => if srtOk l then some (.lst (sortD l)) else none
  | xs => sortedD xs
@[simp] theorem v_sorted2L {l : List D} : sorted2D [.lst l] = sortedD [.lst l] := rfl
@[simp] theorem v_sorted2T {l : List D} : sorted2D [.tup l] = sortedD [.lst l] := rfl
theorem cd_sorted2 (hu : X.A.units + 64 < cLine) : CallD X cl (.builtin "sorted") sorted2D := by
  refine ⟨_, (cr_sortD (cl := cl) hu).or (cr_sortDT (cl := cl) hu), fun H G xs ds dz Q gh t e k => ?_⟩
  unfold sorted2D at e
  split at e
  · split at e
    · rename_i ok
      cases e
      obtain ⟨v, rfl, tv⟩ := topL1 t
      obtain ⟨a, vs, rfl, h1, r⟩ := tv.tup gh
      refine .inr ⟨a, _, vs, rfl, h1, r.mono gh, ok, fun p hp => k _ _ _ (.lay .refl hp) (.lst upd_same ?_)⟩
      rw [← sortP_fst r]
      refine (repL_pairs fun p hp => ?_).mono (same_upd (gh.free hp))
      exact repL_zip r p (List.mem_mergeSort.mp hp)
    · cases e
  · unfold sortedD at e
    split at e
    · split at e
      · rename_i ok
        cases e
        obtain ⟨v, rfl, tv⟩ := topL1 t
        obtain ⟨a, vs, rfl, h1, r⟩ := tv.lst gh
        refine .inl ⟨a, _, vs, rfl, SqL.of h1, r.mono gh, ok, fun p hp => k _ _ _ (.lay .refl hp) (.lst upd_same ?_)⟩
        rw [← sortP_fst r]
        refine (repL_pairs fun p hp => ?_).mono (same_upd (gh.free hp))
        exact repL_zip r p (List.mem_mergeSort.mp hp)
      · cases e
    · cases e
end
end DL

namespace DL
open PySem L2 PySem.Spec PyProof.Rows

/-! ### a comprehension over a dict that a name owns: the dict is locked, and is data behind -/
def keyD : Key → D
  | .inl i => .int i
  | .inr s => .str s
def iterK (i : Nat) (e : Env) : Option S → Out (List D)
  | some (.own (.dct ks l)) => .ok (ks.map keyD) (e.setS i (.dat (.dct ks l)))
  | _ => .bad
def cIterK (i : Nat) : M (List D) := fun e => iterK i e e.s[i]?
def iterK0 (e : Env) : Option S → Out (List D)
  | some (.dat (.dct ks l)) => .ok (ks.map keyD) e
  | _ => .bad
def cIterK0 (i : Nat) : M (List D) := fun e => iterK0 e e.s[i]?
section
variable {K : PySem.W.Frag} {cl : Str → Addr} {F : Fra} {e e' : Env} {σ : L2.St} {H G H' G' : Hp} {a : Addr} {od : Obj} {u : HO}
theorem upd_frz {b : Addr} {w : HO} (hf : G a = some (.frz od u)) (hw : ∀ o x, w ≠ .frz o x) (h : G b = some w) : upd G a u b = some w := by
  rw [upd_ne fun z => by rw [z, hf] at h; cases h; exact hw _ _ rfl]
  exact h
theorem Rd.unlock {b : Addr} {w : HO} (hf : G a = some (.frz od u)) (hw : ∀ o x, w ≠ .frz o x) (h : Rd G b w) : Rd (upd G a u) b w := by
  rcases h with h | ⟨o, h⟩
  · exact .inl (upd_frz hf hw h)
  · by_cases e : b = a
    · subst e
      rw [hf] at h
      cases h
      exact .inl upd_same
    · exact .inr ⟨o, by rw [upd_ne e]; exact h⟩
theorem SqT.unlock {b : Addr} {vs : List V} (hf : G a = some (.frz od u)) (h : SqT K G b vs) : SqT K (upd G a u) b vs := by
  rcases h with h | h
  · exact .inl (Rd.unlock hf (fun _ _ z => nomatch z) h)
  · exact .inr h
theorem SqL.unlock {b : Addr} {vs : List V} (hf : G a = some (.frz od u)) (h : SqL K G b vs) : SqL K (upd G a u) b vs := by
  rcases h with h | h
  · exact .inl (Rd.unlock hf (fun _ _ z => nomatch z) h)
  · exact .inr h
theorem nf_tup {vs : List V} : ∀ o x, HO.tup vs ≠ .frz o x := fun _ _ z => nomatch z
theorem nf_lst {vs : List V} : ∀ o x, HO.lst vs ≠ .frz o x := fun _ _ z => nomatch z
theorem nf_dK {vs : List (Key × V)} : ∀ o x, HO.dK vs ≠ .frz o x := fun _ _ z => nomatch z
theorem nf_dT {vs : List (List Key × V)} : ∀ o x, HO.dT vs ≠ .frz o x := fun _ _ z => nomatch z
theorem nf_ins {c d : Addr} {vs : List (Str × V)} : ∀ o x, HO.ins c d vs ≠ .frz o x := fun _ _ z => nomatch z
mutual
theorem Rep.unlock (hf : G a = some (.frz od u)) : ∀ {d : D} {v : V}, Rep K cl G d v → Rep K cl (upd G a u) d v
  | _, _, .non => .non
  | _, _, .bl => .bl
  | _, _, .int => .int
  | _, _, .str => .str
  | _, _, .tup h r => .tup (SqT.unlock hf h) (RepL.unlock hf r)
  | _, _, .lst h r => .lst (upd_frz hf nf_lst h) (RepL.unlock hf r)
  | _, _, .scr h => .scr (SqL.unlock hf h)
  | _, _, .dct h l r => .dct (Rd.unlock hf nf_dK h) l (RepL.unlock hf r)
  | _, _, .dcT h l r => .dcT (Rd.unlock hf nf_dT h) l (RepL.unlock hf r)
  | _, _, .obj h l r => .obj (upd_frz hf nf_ins h) l (RepL.unlock hf r)
theorem RepL.unlock (hf : G a = some (.frz od u)) : ∀ {d : List D} {v : List V}, RepL K cl G d v → RepL K cl (upd G a u) d v
  | _, _, .nil => .nil
  | _, _, .cons h r => .cons (Rep.unlock hf h) (RepL.unlock hf r)
end
theorem Own.unlock {b : Addr} {d : D} (hf : G a = some (.frz od u)) (hb : b ≠ a) (h : Own K cl H G b d) : Own K cl (upd H a u) (upd G a u) b d := by
  cases d with
  | lst l => obtain ⟨vs, h1, h2⟩ := h; exact ⟨vs, by rw [upd_ne hb]; exact h1, h2.unlock hf⟩
  | dct ks l => obtain ⟨vs, h1, h3, h2⟩ := h; exact ⟨vs, by rw [upd_ne hb]; exact h1, h3, h2.unlock hf⟩
  | dcT ks l => obtain ⟨vs, h1, h3, h2⟩ := h; exact ⟨vs, by rw [upd_ne hb]; exact h1, h3, h2.unlock hf⟩
  | obj c ns l => obtain ⟨dx, vs, h1, h3, h2⟩ := h; exact ⟨dx, vs, by rw [upd_ne hb]; exact h1, h3, h2.unlock hf⟩
  | _ => exact h.elim
theorem Stt.unlock (st : Stt K cl F e σ H G) (hf : G a = some (.frz od u)) (h0 : F.H0 a = none) (g0 : F.G0 a = none) : Stt K cl F e σ (upd H a u) (upd G a u) := by
  obtain ⟨⟨gh, sg, jr, fr, fg⟩, jh, len, slot, inj⟩ := st
  have nn : ∀ b, G b = none → b ≠ a := fun b h z => by rw [z, hf] at h; cases h
  refine ⟨⟨fun b w q => ?_, fun b w q => ?_, ⟨jr.len, jr.nd, fun k p d h1 h2 => ?_⟩, fun p o q hn => ?_, fun p o q hn => ?_⟩, jh, len, fun i x h => ?_, inj⟩
  · by_cases hb : b = a
    · rw [hb, upd_same] at q ⊢; exact q
    · rw [upd_ne hb] at q ⊢; exact gh _ _ q
  · have : b ≠ a := fun z => by rw [z, g0] at q; cases q
    rw [upd_ne this]; exact sg _ _ q
  · obtain ⟨q1, q2⟩ := jr.at_ k p d h1 h2
    exact ⟨by rw [upd_ne (nn p q1)]; exact q1, q2.unlock hf (nn p q1)⟩
  · have : p ≠ a := fun z => by rw [z, h0] at q; cases q
    rw [upd_ne this]; exact fr p o q hn
  · have : p ≠ a := fun z => by rw [z, h0] at q; cases q
    rw [upd_ne this]; exact fg p o q hn
  · have q := slot i x h
    cases x with
    | un => trivial
    | dat d => obtain ⟨v, h1, h2⟩ := q; exact ⟨v, h1, h2.unlock hf⟩
    | own d =>
      obtain ⟨p, h1, h2, h3, h4⟩ := q
      exact ⟨p, h1, by rw [upd_ne (nn p h2)]; exact h2, h3, h4.unlock hf (nn p h2)⟩
    | jar k => exact q
/-- what a name owns is locked, and is data while it is -/
theorem Stt.lockD {i : Nat} {d : D} (st : Stt K cl F e σ H G) (hi : e.s[i]? = some (.own d)) (hs : σ[i]? = some (some (.ref a))) (ha : H a = some u) (hn : G a = none) (h0 : F.H0 a = none) (hr : Rep K cl (upd G a (.frz od u)) d (.ref a)) :
    Stt K cl F (e.setS i (.dat d)) σ (upd H a (.frz od u)) (upd G a (.frz od u)) := by
  have inj0 := st.inj
  obtain ⟨⟨gh, sg, jr, fr, fg⟩, jh, len, slot, inj⟩ := st
  have g1 : Same G (upd G a (.frz od u)) := same_upd hn
  have aj : a ∉ F.js := fun hj => jh a hj h0
  have hset : ∀ {j : Nat} {x : S}, (e.setS i (.dat d)).s[j]? = some x → (j = i ∧ x = .dat d) ∨ (j ≠ i ∧ e.s[j]? = some x) := fun {j x} h => by
    by_cases hj : j = i
    · subst hj; rw [setS_same hi] at h; cases h; exact .inl ⟨rfl, rfl⟩
    · rw [setS_ne hj] at h; exact .inr ⟨hj, h⟩
  have oth : ∀ {b : Addr} {d' : D}, Own K cl H G b d' → b ≠ a → Own K cl (upd H a (.frz od u)) (upd G a (.frz od u)) b d' := fun {b d'} h hb => by
    cases d' with
    | lst l => obtain ⟨vs, h1, h2⟩ := h; exact ⟨vs, by rw [upd_ne hb]; exact h1, h2.mono g1⟩
    | dct ks l => obtain ⟨vs, h1, h3, h2⟩ := h; exact ⟨vs, by rw [upd_ne hb]; exact h1, h3, h2.mono g1⟩
    | dcT ks l => obtain ⟨vs, h1, h3, h2⟩ := h; exact ⟨vs, by rw [upd_ne hb]; exact h1, h3, h2.mono g1⟩
    | obj c ns l => obtain ⟨dx, vs, h1, h3, h2⟩ := h; exact ⟨dx, vs, by rw [upd_ne hb]; exact h1, h3, h2.mono g1⟩
    | _ => exact h.elim
  refine ⟨⟨fun b w q => ?_, sg.trans g1, ⟨jr.len, jr.nd, fun k p d' h1 h2 => ?_⟩, fun p o q hn' => ?_, fun p o q hn' => ?_⟩, jh, by rw [len]; exact (List.length_set).symm, fun j x h => ?_, fun j k d1 d2 p k1 k2 k3 k4 => ?_⟩
  · by_cases hb : b = a
    · rw [hb, upd_same] at q ⊢; exact q
    · rw [upd_ne hb] at q ⊢; exact gh _ _ q
  · obtain ⟨q1, q2⟩ := jr.at_ k p d' h1 h2
    have : p ≠ a := fun z => aj (z ▸ List.mem_of_getElem? h1)
    exact ⟨by rw [upd_ne this]; exact q1, oth q2 this⟩
  · have : p ≠ a := fun z => by rw [z, h0] at q; cases q
    rw [upd_ne this]; exact fr p o q hn'
  · have : p ≠ a := fun z => by rw [z, h0] at q; cases q
    rw [upd_ne this]; exact fg p o q hn'
  · rcases hset h with ⟨rfl, rfl⟩ | ⟨hj, h⟩
    · exact ⟨_, hs, hr⟩
    · have q := slot j x h
      cases x with
      | un => trivial
      | dat d => obtain ⟨v, h1, h2⟩ := q; exact ⟨v, h1, h2.mono g1⟩
      | own d =>
        obtain ⟨p, h1, h2, h3, h4⟩ := q
        have : p ≠ a := fun w => hj (inj j i _ _ a h hi (w ▸ h1) hs)
        exact ⟨p, h1, by rw [upd_ne this]; exact h2, h3, oth h4 this⟩
      | jar k => exact q
  · rcases hset k1 with ⟨_, z⟩ | ⟨_, k1⟩
    · cases z
    · rcases hset k2 with ⟨_, z⟩ | ⟨_, k2⟩
      · cases z
      · exact inj j k d1 d2 p k1 k2 k3 k4
/-- an expression's run within the lock -/
theorem lock_D {W : WX} {i : Nat} {f f0 : M R} {Q : VK} (h : tD K cl F W f σ H Q) (hf : ∀ e, f e = (match e.s[i]? with
    | some (.own (.dct ks l)) => f0 (e.setS i (.dat (.dct ks l)))
    | _ => .bad)) {t : TE} (hi : ∀ (a : Addr) (u : HO) (od : Obj) (Q' : VK), σ[i]? = some (some (.ref a)) → tD K cl F W f0 σ (upd H a (.frz od u)) Q' → t σ (upd H a (.frz od u)) Q') : tLockE t σ H Q := by
  obtain ⟨e, G, st, q⟩ := h
  rw [hf] at q
  cases hx : e.s[i]? with
  | none => rw [hx] at q; exact q.elim
  | some x =>
    rw [hx] at q
    cases x with
    | own d =>
      cases d with
      | dct ks l =>
        obtain ⟨a, s1, s2, s3, us, s4, s5, s6⟩ := st.slot i _ hx
        refine ⟨a, _, s4, True.intro, fun od => hi a _ od _ s1 ?_⟩
        have g1 : Same G (upd G a (.frz od (.dK (ks.zip us)))) := same_upd s2
        have st1 := st.lockD (od := od) hx s1 s4 s2 s3 (.dct (.inr ⟨od, upd_same⟩) s5 (s6.mono g1))
        have gz : F.G0 a = none := by
          cases hg : F.G0 a with
          | none => rfl
          | some o => have := st.ret.g0 _ _ hg; rw [s2] at this; cases this
        refine ⟨_, _, st1, post_imp q fun r e' k v H' G' st' k' rr => ?_⟩
        have hg : G' a = some (.frz od (.dK (ks.zip us))) := k'.gg _ _ upd_same
        refine ⟨st'.ret.gh _ _ hg, k v (upd H' a _) (upd G' a _) (st'.unlock hg s3 gz) ⟨fun b w hb => ?_, fun p o hp lp => ?_, fun j d hj => ?_⟩ ?_⟩
        · have : b ≠ a := fun z => by rw [z, s2] at hb; cases hb
          rw [upd_ne this]
          exact k'.gg _ _ (g1 _ _ hb)
        · have : p ≠ a := fun z => lp.2 i _ hx (z ▸ s1)
          have l1 : Loose F (e.setS i (.dat (.dct ks l))) σ p := ⟨lp.1, fun j d hj => by
            by_cases e0 : j = i
            · subst e0; rw [setS_same hx] at hj; cases hj
            · rw [setS_ne e0] at hj; exact lp.2 j d hj⟩
          obtain ⟨q1, q2⟩ := k'.kp p o (by rw [upd_ne this]; exact hp) l1
          exact ⟨by rw [upd_ne this]; exact q1, fun g => by rw [upd_ne this]; exact q2 (by rw [upd_ne this]; exact g)⟩
        · obtain ⟨d', h'⟩ := k'.ow j d hj
          by_cases e0 : j = i
          · subst e0; rw [setS_same hx] at h'; cases h'
          · rw [setS_ne e0] at h'; exact ⟨d', h'⟩
        · cases r with
          | val d => exact Rep.unlock hg rr
          | whole j => exact rr
      | _ => exact q.elim
    | _ => exact q.elim
theorem kD_key {k : Key} {G : Hp} : Rep K cl G (keyD k) (kV k) := by
  cases k with
  | inl i => exact .int
  | inr s => exact .str
/-- the keys of the locked dict -/
theorem keys_it {i : Nat} {a : Addr} {od : Obj} {u : HO} {H1 : Hp} {R : It → Hp → Prop} (hs : σ[i]? = some (some (.ref a))) (hu : H1 a = some (.frz od u))
    (h : ∃ e G, Stt K cl F e σ H1 G ∧ Post K cl F W0 σ (cIterK0 i e) fun ds e' => ∀ J H' G', Stt K cl F e' σ H' G' → Kp F σ e H1 G e' H' G' → ItOk K cl G' J ds → R J H') : iKeys (tVar i) σ H1 R := by
  obtain ⟨e, G, st, q⟩ := h
  refine ⟨_, hs, ?_⟩
  unfold cIterK0 at q
  cases hx : e.s[i]? with
  | none => rw [hx] at q; exact q.elim
  | some x =>
    rw [hx] at q
    cases x with
    | dat d =>
      cases d with
      | dct ks l =>
        obtain ⟨v, s1, s2⟩ := st.slot i _ hx
        rw [hs] at s1
        cases s1
        cases s2 with
        | dct hr hl rl =>
          rename_i vs
          have hr' := Rd.same st.ret.gh hr
          have hG : G a = some (.frz od (.dK (ks.zip vs))) := by
            rcases hr with hr | ⟨o, hr⟩
            · have := st.ret.gh _ _ hr
              rw [hu] at this
              cases this
            · have := st.ret.gh _ _ hr
              rw [hu] at this
              cases this
              exact hr
          refine ⟨a, od, rfl, .inl ⟨ks.zip vs, st.ret.gh _ _ hG, q _ _ G st .refl ?_⟩⟩
          intro H2 G2 gg gh
          have h2 := gh _ _ (gg _ _ hG)
          refine ⟨fun j d hd => ?_, h2, by simp [hl]⟩
          rw [List.getElem?_map] at hd
          obtain ⟨k, hk, rfl⟩ := Option.map_eq_some_iff.mp hd
          have hjl : j < ks.length := (List.getElem?_eq_some_iff.mp hk).1
          refine ⟨⟨h2, by simp [← hl]; exact hjl⟩, fun y H3 hy => ?_⟩
          obtain ⟨rfl, k', v', hz, rfl⟩ := hy
          have : k' = k := by
            have := congrArg (Option.map Prod.fst) hz
            rw [← List.getElem?_map, List.map_fst_zip (by omega), hk] at this
            exact (Option.some.inj
                                                                                                              this).symm
          subst this
          exact ⟨G2, .refl, kD_key⟩
      | _ => exact q.elim
    | _ => exact q.elim
end
section
variable {X : Cx} {cl : Str → Addr} {F : Fra} {W : WX}
theorem cDc_lock {vs : List Nat} {i : Nat} {g : Tg} {ft : M Bool} {fk fv : M R} (e : Env) : cDc vs (cIterK i) g ft fk fv e = (match e.s[i]? with
    | some (.own (.dct ks l)) => cDc vs (cIterK0 i) g ft fk fv (e.setS i (.dat (.dct ks l)))
    | _ => .bad) := by
  unfold cDc cIterK cIterK0
  cases hx : e.s[i]? with
  | none => rfl
  | some x =>
    cases x with
    | own d =>
      cases d with
      | dct ks l =>
        simp only [iterK, setS_same hx, iterK0]
      | _ => rfl
    | _ => rfl
theorem cLc_lock {vs : List Nat} {i : Nat} {g : Tg} {ft : M Bool} {fv : M R} (e : Env) : cLc vs (cIterK i) g ft fv e = (match e.s[i]? with
    | some (.own (.dct ks l)) => cLc vs (cIterK0 i) g ft fv (e.setS i (.dat (.dct ks l)))
    | _ => .bad) := by
  unfold cLc cIterK cIterK0
  cases hx : e.s[i]? with
  | none => rfl
  | some x =>
    cases x with
    | own d =>
      cases d with
      | dct ks l =>
        simp only [iterK, setS_same hx, iterK0]
      | _ => rfl
    | _ => rfl
theorem post_w0 {α : Type} {σ : L2.St} {K : PySem.W.Frag} {i : Nat} {e : Env} {k : List D → Env → Prop} (h : Post K cl F W σ (cIterK0 i e) k) : Post K cl F W0 σ (cIterK0 i e) k := by
  unfold cIterK0 at h ⊢
  cases hx : e.s[i]? with
  | none => rw [hx] at h; exact h
  | some x =>
    rw [hx] at h
    cases x with
    | dat d =>
      cases d with
      | dct ks l => exact h
      | _ => exact h
    | _ => exact h
/-- {k: v for x in d if t}, d a dict of the name at i -/
theorem re_dcK (i : Nat) {kx vx tg : Expr} {y : Str} {p : Pos} {ifs : List Expr} {scope : Scope} {own : List (Str × Nat)} {ws : List Nat} {pos : Pos} {g : Tg} {ft : M Bool} {fk fv : M R} (hc : X.calm = true) (hN : X.N.Nodup) (ok : BlkOk X.N X.env.scope scope own)
    (hg : ∀ (s : Shared) (H : Hp) (C : Addr) (cs : List (Str × Addr)) (fp : List Addr), RG (X.blk s H scope (compEnvC scope cs C X.env) fp) cl F ws tg g)
    (ht : ∀ (s : Shared) (H : Hp) (C : Addr) (cs : List (Str × Addr)) (fp : List Addr), RTs (X.blk s H scope (compEnvC scope cs C X.env) fp) cl F W0 ifs ft)
    (hk : ∀ (s : Shared) (H : Hp) (C : Addr) (cs : List (Str × Addr)) (fp : List Addr), RE (X.blk s H scope (compEnvC scope cs C X.env) fp) cl F W0 kx fk)
    (he : ∀ (s : Shared) (H : Hp) (C : Addr) (cs : List (Str × Addr)) (fp : List Addr), RE (X.blk s H scope (compEnvC scope cs C X.env) fp) cl F W0 vx fv)
    (hy : X.N[i]? = some y := by rfl) (hv : Vis X.env.scope y := by first | exact Or.inl rfl | exact Or.inr (Or.inl rfl) | exact Or.inr (Or.inr rfl)) (hd : (y == ("__debug__" : Str)) = false := by decide) (hcd : (y == ("__classdict__" : Str)) = false := by decide)
    (hw : ∀ i ∈ ws, i ∈ own.map (·.2) := by decide) (hs : ∀ x, foldedSetIterable (.Name y p) X.env x = pure x := by intro _; rfl) : RE X cl F W (.DictComp kx vx [⟨tg, .Name y p, ifs, 0⟩] scope pos) (cDc (own.map (·.2)) (cIterK i) g ft fk fv) := by
  have p0 : PE X (.DictComp kx vx [⟨tg, .Name y p, ifs, 0⟩] scope pos) (tDc (iKeys (tVar i)) (tG X.K cl F ws g) (tB' X.K cl F W0 ft) (tD X.K cl F W0 fk) (tD X.K cl F W0 fv) (own.map (·.2))) :=
    pe_dc hc hN (pi_keys (pe_var hy hv hd hcd)) ok (fun s H C cs fp => (hg s H C cs fp).pg) (fun s H C cs fp => (ht s H C cs fp).pts) (fun s H C cs fp => (hk s H C cs fp).pe) (fun s H C cs fp => (he s H C cs fp).pe) hs
  refine ⟨⟨fun pins s σ H Q I h => (pe_lock p0).run pins s σ H Q I
    (lock_D h cDc_lock fun a u od Q' ha q => ?_)⟩⟩
  have z := dc_D hw (hg s H 0 [] []).fr q
  refine keys_it (K := X.K) (cl := cl) (F := F) ha upd_same ?_
  obtain ⟨e, G, st, q⟩ := z
  exact ⟨e, G, st, post_w0 (α := Unit) q⟩
theorem re_lcK (i : Nat) {elt tg : Expr} {y : Str} {p : Pos} {ifs : List Expr} {scope : Scope} {own : List (Str × Nat)} {ws : List Nat} {pos : Pos} {g : Tg} {ft : M Bool} {fv : M R} (hc : X.calm = true) (hN : X.N.Nodup) (ok : BlkOk X.N X.env.scope scope own)
    (hg : ∀ (s : Shared) (H : Hp) (C : Addr) (cs : List (Str × Addr)) (fp : List Addr), RG (X.blk s H scope (compEnvC scope cs C X.env) fp) cl F ws tg g)
    (ht : ∀ (s : Shared) (H : Hp) (C : Addr) (cs : List (Str × Addr)) (fp : List Addr), RTs (X.blk s H scope (compEnvC scope cs C X.env) fp) cl F W0 ifs ft)
    (he : ∀ (s : Shared) (H : Hp) (C : Addr) (cs : List (Str × Addr)) (fp : List Addr), RE (X.blk s H scope (compEnvC scope cs C X.env) fp) cl F W0 elt fv)
    (hy : X.N[i]? = some y := by rfl) (hv : Vis X.env.scope y := by first | exact Or.inl rfl | exact Or.inr (Or.inl rfl) | exact Or.inr (Or.inr rfl)) (hd : (y == ("__debug__" : Str)) = false := by decide) (hcd : (y == ("__classdict__" : Str)) = false := by decide)
    (hw : ∀ i ∈ ws, i ∈ own.map (·.2) := by decide) (hs : ∀ x, foldedSetIterable (.Name y p) X.env x = pure x := by intro _; rfl) : RE X cl F W (.ListComp elt [⟨tg, .Name y p, ifs, 0⟩] scope pos) (cLc (own.map (·.2)) (cIterK i) g ft fv) := by
  have p0 : PE X (.ListComp elt [⟨tg, .Name y p, ifs, 0⟩] scope pos) (tLc (iKeys (tVar i)) (tG X.K cl F ws g) (tB' X.K cl F W0 ft) (tD X.K cl F W0 fv) (own.map (·.2))) :=
    pe_lc hc hN (pi_keys (pe_var hy hv hd hcd)) ok (fun s H C cs fp => (hg s H C cs fp).pg) (fun s H C cs fp => (ht s H C cs fp).pts) (fun s H C cs fp => (he s H C cs fp).pe) hs
  refine ⟨⟨fun pins s σ H Q I h => (pe_lock p0).run pins s σ H Q I
    (lock_D h cLc_lock fun a u od Q' ha q => ?_)⟩⟩
  have z := lc_D hw (hg s H 0 [] []).fr q
  refine keys_it (K := X.K) (cl := cl) (F := F) ha upd_same ?_
  obtain ⟨e, G, st, q⟩ := z
  exact ⟨e, G, st, post_w0 (α := Unit) q⟩

/-! ### min, max of lists; list of a dict; a list repeated, of one's own -/
def intsL : List D → Option (List Int)
  | [] => some []
  | .int i :: r => (intsL r).map (i :: ·)
  | _ :: _ => none
theorem repL_ints {K : PySem.W.Frag} {G : Hp} : ∀ {l : List D} {ns : List Int} {vs : List V}, intsL l = some ns → RepL K cl G l vs → vs = ns.map V.int
  | [], _, _, h, .nil => by cases h; rfl
  | .int i :: l, _, _, h, .cons .int t => by
    obtain ⟨ms, h1, rfl⟩ := Option.map_eq_some_iff.mp h
    rw [repL_ints h1 t]
    rfl
/-- the least of some numbers -/
def minI : List Int → Option Int
  | [] => none
  | a :: l => some (l.foldl (fun x y => if y < x then y else x) a)
def maxI : List Int → Option Int
  | [] => none
  | a :: l => some (l.foldl (fun x y => if x < y then y else x) a)
theorem fold_min : ∀ (l : List Int) (a : Int), (l.foldl (fun x y => if y < x then y else x) a) ∈ a :: l ∧ ∀ y ∈ a :: l, (l.foldl (fun x y => if y < x then y else x) a) ≤ y
  | [], a => ⟨List.mem_cons_self, fun y h => by rw [List.mem_singleton.mp h]; exact Int.le_refl _⟩
  | b :: l, a => by
    obtain ⟨h1, h2⟩ := fold_min l (if b < a then b else a)
    rw [List.foldl_cons]
    refine ⟨?_, fun y hy => ?_⟩
    · rcases List.mem_cons.mp h1 with h | h
      · rw [h]
        split
        · exact List.mem_cons_of_mem _ List.mem_cons_self
        · exact List.mem_cons_self
      · exact List.mem_cons_of_mem _ (List.mem_cons_of_mem _ h)
    · have h3 := h2 _ List.mem_cons_self
      have e1 : (if b < a then b else a) ≤ a := by split <;> omega
      have e2 : (if b < a then b else a) ≤ b := by split <;> omega
      rcases List.mem_cons.mp
                                                                                                              hy with rfl | hy
      · exact Int.le_trans h3 e1
      · rcases List.mem_cons.mp
                                                                                                              hy with rfl | hy
        · exact Int.le_trans h3 e2
        · exact h2 y (List.mem_cons_of_mem _ hy)
theorem fold_max : ∀ (l : List Int) (a : Int), (l.foldl (fun x y => if x < y then y else x) a) ∈ a :: l ∧ ∀ y ∈ a :: l, y ≤ (l.foldl (fun x y => if x < y then y else x) a)
  | [], a => ⟨List.mem_cons_self, fun y h => by rw [List.mem_singleton.mp h]; exact Int.le_refl _⟩
  | b :: l, a => by
    obtain ⟨h1, h2⟩ := fold_max l (if a < b then b else a)
    rw [List.foldl_cons]
    refine ⟨?_, fun y hy => ?_⟩
    · rcases List.mem_cons.mp h1 with h | h
      · rw [h]
        split
        · exact List.mem_cons_of_mem _ List.mem_cons_self
        · exact List.mem_cons_self
      · exact List.mem_cons_of_mem _ (List.mem_cons_of_mem _ h)
    · have h3 := h2 _ List.mem_cons_self
      have e1 : a ≤ (if a < b then b else a) := by split <;> omega
      have e2 : b ≤ (if a < b then b else a) := by split <;> omega
      rcases List.mem_cons.mp
                                                                                                              hy with rfl | hy
      · exact Int.le_trans e1 h3
      · rcases List.mem_cons.mp
                                                                                                              hy with rfl | hy
        · exact Int.le_trans e2 h3
        · exact h2 y (List.mem_cons_of_mem _ hy)
theorem minI_ok {l : List Int} {m : Int} (h : minI l = some m) : m ∈ l ∧ ∀ y ∈ l, m ≤ y := by
  cases l with
  | nil => cases h
  | cons a l => cases h; exact fold_min l a
theorem maxI_ok {l : List Int} {m : Int} (h : maxI l = some m) : m ∈ l ∧ ∀ y ∈ l, y ≤ m := by
  cases l with
  | nil => cases h
  | cons a l => cases h; exact fold_max l a
def minLD : List D → Option D
  | [.lst l] => ((intsL l).bind minI).map D.int
  | _ => none
def maxLD : List D → Option D
  | [.lst l] => ((intsL l).bind maxI).map D.int
  | _ => none
theorem cd_minL (hc : X.calm = true) : CallD X cl (.builtin "min") minLD := by
  refine ⟨_, cr_min hc, fun H G xs ds dz Q gh t e k => ?_⟩
  unfold minLD at e
  split at e
  · obtain ⟨m, hm, rfl⟩ := Option.map_eq_some_iff.mp e
    obtain ⟨ns, hn, hm⟩ := Option.bind_eq_some_iff.mp hm
    obtain ⟨v, rfl, tv⟩ := topL1 t
    obtain ⟨a, vs, rfl, h1, r⟩ := tv.lst gh
    obtain ⟨m1, m2⟩ := minI_ok hm
    refine ⟨a, ns, rfl, by rw [← repL_ints hn r]; exact SqL.of h1, List.length_pos_of_mem m1, fun m' h1 h2 => ?_⟩
    have : m' = m := Int.le_antisymm (h2 m m1) (m2 m' h1)
    rw [this]
    exact k _ H G .refl .int
  · cases e
theorem cd_maxL (hc : X.calm = true) : CallD X cl (.builtin "max") maxLD := by
  refine ⟨_, cr_max hc, fun H G xs ds dz Q gh t e k => ?_⟩
  unfold maxLD at e
  split at e
  · obtain ⟨m, hm, rfl⟩ := Option.map_eq_some_iff.mp e
    obtain ⟨ns, hn, hm⟩ := Option.bind_eq_some_iff.mp hm
    obtain ⟨v, rfl, tv⟩ := topL1 t
    obtain ⟨a, vs, rfl, h1, r⟩ := tv.lst gh
    obtain ⟨m1, m2⟩ := maxI_ok hm
    refine ⟨a, ns, rfl, by rw [← repL_ints hn r]; exact SqL.of h1, List.length_pos_of_mem m1, fun m' h1 h2 => ?_⟩
    have : m' = m := Int.le_antisymm (m2 m' h1) (h2 m m1)
    rw [this]
    exact k _ H G .refl .int
  · cases e
def listKD : List D → Option D
  | [.dct ks _] => some (.lst (ks.map keyD))
  | _ => none
theorem repL_keys {K : PySem.W.Frag} {G : Hp} : ∀ ks : List Key, RepL K cl G (ks.map keyD) (ks.map kV)
  | [] => .nil
  | _ :: ks => .cons kD_key (repL_keys ks)
theorem cd_listK (hc : X.calm = true) : CallD X cl (.type "list") listKD := by
  refine ⟨_, call_listD hc, fun H G xs ds dz Q gh t e k => ?_⟩
  unfold listKD at e
  split at e
  · rename_i ks l
    cases e
    obtain ⟨v, rfl, tv⟩ := topL1 t
    obtain ⟨a, vs, rfl, h1, hl, r⟩ := tv.dct gh
    refine ⟨a, _, rfl, h1, fun p hp => ?_⟩
    have e1 : ((ks.zip vs).map fun kv => kV kv.1) = ks.map kV := by
      have : ((ks.zip vs).map fun kv => kV kv.1) = ((ks.zip vs).map Prod.fst).map kV := by rw [List.map_map]; rfl
      rw [this, List.map_fst_zip (by omega)]
    rw [e1]
    exact k _ _ _ (.lay .refl hp) (.lst upd_same (repL_keys ks))
  · cases e
end
end DL

namespace DL
open PySem L2 PySem.Spec PyProof.Rows

/-! ### repr of None, truths, numbers, texts, rows -/
def repr2D : List D → Option D
  | [.non] => some (.str "None")
  | [.bl b] => some (.str (if b then "True" else "False"))
  | [.int i] => if i.natAbs.log2 < 1920 then some (.str (toString i)) else none
  | [.str s] => if (reprText s).length ≤ sizeLine then some (.str (reprText s)) else none
  | xs => reprD xs
@[simp] theorem v_repr2T {l : List D} : repr2D [.tup l] = reprD [.tup l] := rfl
@[simp] theorem v_repr2L {l : List D} : repr2D [.lst l] = reprD [.lst l] := rfl
section
variable {X : Cx} {cl : Str → Addr} {F : Fra} {W : WX}
def rReprS : List V → Hp → VK → Prop := fun xs H Q => (xs = [.non] ∧ Q (.str "None") H) ∨ (∃ b, xs = [.bl b] ∧ Q (.str (if b then "True" else "False")) H) ∨ (∃ i, xs = [.int i] ∧ i.natAbs.log2 < 1920 ∧ Q (.str (toString i)) H) ∨ ∃ x, xs = [.str x] ∧ (reprText x).length ≤ sizeLine ∧ Q (.str (reprText x)) H
theorem call_repr_s : CallR X (.builtin "repr") rReprS := by
  intro pins s σ
                                                                                                              H xs us Q I r h
  rcases h with ⟨rfl, q⟩ | ⟨b, rfl, q⟩ | ⟨i, rfl, hz, q⟩ | ⟨x, rfl, hz, q⟩
  · obtain ⟨u, rfl, ru⟩ := vals1 r
    cases (show u = Value.none from ru)
    exact PySem.P.repr_of_none ⟨.str _, H, I.tok _, ⟨_, rfl⟩, q⟩
  · obtain ⟨u, rfl, ru⟩ := vals1 r
    cases (show u = Value.bool b from ru)
    exact PySem.P.repr_of_bool ⟨.str _, H, I.tok _, ⟨_, rfl⟩, q⟩
  · obtain ⟨u, rfl,
                                                                                                              t, rfl⟩ := vals1 r
    exact PySem.P.repr_of_int hz
                                                                                                              ⟨.str _, H, I.tok _, ⟨_, rfl⟩, q⟩
  · obtain ⟨u, rfl,
                                                                                                              t, rfl⟩ := vals1 r
    exact PySem.P.repr_of_str ⟨.str _, H, I.tok _, ⟨_, rfl⟩, q⟩ hz
theorem cd_repr2 (hG : X.A.guards = some []) (hu : X.A.units + 64 < cLine) : CallD X cl (.builtin "repr") repr2D := by
  obtain ⟨r, h1, h2⟩ := cd_repr (cl := cl) hG hu
  refine ⟨_, call_repr_s.or h1, fun H G xs ds dz Q gh t e k => ?_⟩
  unfold repr2D at e
  split at e
  · cases e
    obtain ⟨v, rfl, tv⟩ := topL1 t
    cases tv.non
    exact .inl (.inl ⟨rfl, k _ H G .refl .str⟩)
  · cases e
    obtain ⟨v, rfl, tv⟩ := topL1 t
    cases tv.bl
    exact .inl (.inr (.inl ⟨_, rfl, k _ H G .refl .str⟩))
  · split at e
    · rename_i hz
      cases e
      obtain ⟨v, rfl, tv⟩ := topL1 t
      cases tv.int
      exact .inl (.inr (.inr (.inl ⟨_, rfl, hz, k _ H G .refl .str⟩)))
    · cases e
  · split at e
    · rename_i hz
      cases e
      obtain ⟨v, rfl, tv⟩ := topL1 t
      cases tv.str
      exact .inl (.inr (.inr (.inr ⟨_, rfl, hz, k _ H G .refl .str⟩)))
    · cases e
  · exact .inr (h2 H G xs ds dz Q gh t e k)
/-! ### a list repeated, of one's own -/
def fMulO (a b : Option D) (e : Env) : Out D := match a, b with
  | some (.lst x), some (.int k) => if -(2 ^ 63) ≤ k ∧ k < 2 ^ 63 ∧ x.length * k.toNat ≤ sizeLine then .ok (.lst (List.replicate k.toNat x).flatten) e else .bad
  | _, _ => .bad
def fMul (fa fb : M R) : M D := fun e => (fa e).bnd fun x e1 => (fb e1).bnd fun y e2 => fMulO (e2.rd x) (e2.rd y) e2
theorem rf_mul {a b : Expr} {fa fb : M R} {pos : Pos} (ha : RE X cl F W a fa) (hb : RE X cl F W b fb) : RF X cl F W (.BinOp a .Mult b pos) (fMul fa fb) := by
  refine ⟨PE.imp (pe_op op_rep ha.pe hb.pe) fun σ H Q ⟨e, G, st, q⟩ => tD_then st q fun x e1 v1 H1 G1 s1 k1 r1 z => tD_then s1 z fun y e2 v2 H2 G2 s2 k2 r2 z => ?_⟩
  simp only [fMulO] at z
  split at z
  · rename_i x' y' hx hy
    split at z
    · rename_i hz
      obtain ⟨p1, u1, rfl, h1, q1⟩ := (s2.top (r1.mono k2.gg) hx).lst s2.ret.gh
      have ei := (s2.top r2 hy).int
      refine ⟨p1, y', u1, rfl, ei, h1, hz.1, hz.2.1, by rw [← q1.length]; exact hz.2.2, fun p hp => ?_⟩
      obtain ⟨a1, a2, a3, a4, a5, a6⟩ := s2.new (o := .lst (List.replicate y'.toNat u1).flatten) (k1.trans k2) hp
      exact z p _ G2 a1 a2 ⟨_, upd_same, q1.rep _⟩ a3 a4 a5 a6
    · exact z.elim
  · exact z.elim
end
end DL

namespace DL
open PySem L2 PySem.Spec PyProof.Rows

/-! ### len of an object with a __len__ of its own -/
section
variable {prog : Program} {w : World} {A : Around} {E : Value → Shared → Prop} {s
                                                                                                              : Shared} {K : PySem.W.Frag} {x C D f : Addr} {ox od : Obj} {odd : Option Obj}
theorem len_own {Q : Value → Shared → Prop} (X : K.In s.heap) (I : PySem.W.InstAt s.heap x ox C odd) (hs : PySem.W.findIn K (.ref C) "__len__" = some (some (.ref f))) (hf : PySem.W.isFn K (.ref f) = true)
    (h : wpAny (model prog w) A.in1 (call (.ref f) [.ref x]) (fun r s₁ => ∃ n u, r = Value.int n u ∧ 0 ≤ n ∧ n < 2 ^ 63 ∧ Q (.int n s₁.toks) { s₁ with toks := s₁.toks + 1 }) E s) : wpAny (model prog w) A (call (.builtin "len") [.ref x]) Q E s := by
  refine Calls.call_function_entry kind_len
                                                                                                              plain_len entry_len (args_len1 _) ?_
  unfold Builtin.«len»
  refine wpAny_bind (m := oneArg
                                                                                                              "len" _) (wpAny_pure ?_)
  refine wpAny_bind (m := callSpecial? (.ref x) (Str.ofString "__len__")) (PySem.W.special_fn X I hs (beq_iff_eq.mp hf) (wpAny_mono h (fun r s' hr => ?_) fun _ _ y => y))
  obtain ⟨n, u, rfl, h0, h63, hq⟩ := hr
  refine wpAny_bind
                                                                                                              (wpAny_holding (wpAny_pure ?_))
  refine wpAny_bind
                                                                                                              (wpAny_letGo ?_)
  show wpAny _ _ (if n <
                                                                                                              0 then _ else _) _ _ _
  rw [if_neg (by omega)]
  show wpAny _ _ (if n ≥ 2
                                                                                                              ^ 63 then _ else _) _ _ _
  rw [if_neg (by omega)]
  exact wpAny_bind (wpAny_mkInt
                                                                                                              (wpAny_pure ⟨_, rfl, hq⟩))
end
section
variable {X : Cx} {cl : Str → Addr} {F : Fra} {W : WX} {k : Nat} {f : Addr} {fd : FuncData} {ps : List Str} {Φ : Fn} {c : Str}
def lenN (o : OutF) : Option D := match o with
  | .ok (.int n) [] => if 0 ≤ n ∧ n < 1000000 then some (.int n) else none
  | _ => none
def lenOwn (c : Str) (Φ : Fn) : List D → Option D
  | [o] => if isObjC c o then lenN (Φ [.dat o] []) else none
  | _ => none
theorem run_fn1 {A : Around} {pins : List (Addr × Obj)} {σ : L2.St} {H : Hp} {s : Shared} {Q : VK} {us : List Value} {vs : List V} (Fn : FnOk X.prog X.w X.K X.mg X.base (L2.CX X.prog X.w) k f fd ps (spD X.K cl Φ)) (hr : Room k A) (e0 : Env0 X.prog X.w X.K X.mg X.base A X.stack s H) (hb : Binds X.K fd ps [])
    (I : Inv X pins σ H s) (r : Vals vs us) (h : spD X.K cl Φ vs H Q E0) : wpAny (model X.prog X.w) A (call (.ref f) us) (EP X pins σ Q) X.xe s := by
  have hl : us.length = ps.length := by rw [← r.length]; exact Fn.len _ _ _ _ h
  refine wpAny_call (codeAny_mono (Fn.run A X.stack s H ⟨us, []⟩ us vs Q E0 hr e0 (by have := hb s us I.kIn (by simpa using hl); simpa using this) r h) fun r s' hq => ?_)
  cases r with
  | error e => exact passL pins σ H s e s' I hq
  | ok fl =>
    cases fl with
    | ret u => exact I.after hq
    | next => exact False.elim hq
    | brk => exact False.elim hq
    | cont => exact False.elim hq
theorem cd_lenOwn (m : Meth X.K (cl c) "__len__" f) (Fn : FnOk X.prog X.w X.K X.mg X.base (L2.CX X.prog X.w) k f fd ps (spD X.K cl Φ)) (hr : Room (k + 1) X.A) (hb : Binds X.K fd ps []) : CallD X cl (.builtin "len") (lenOwn c Φ) := by
  refine ⟨fun xs H Q => ∃ n a dd fs, xs = [V.ref a] ∧ H a = some (.ins (cl c) dd fs) ∧ 0 ≤ n ∧ n < 1000000 ∧ spD X.K cl Φ [.ref a] H (fun v H' => v = .int n ∧ Same H H') E0 ∧ ∀ H', Same H H' → Q (.int n) H', ?_, ?_⟩
  · intro pins s σ H xs us Q I r h
    obtain ⟨n, a, dd, fs, rfl, ha, h0, h1, sp, q⟩ := h
    obtain ⟨u, rfl,
                                                                                                              ru⟩ := vals1 r
    cases (show u =
                                                                                                              Value.ref a from ru)
    obtain ⟨mA, O, _, _, _, _⟩ := ins_get I.hok ha
    obtain ⟨od, J, _⟩ := O.look
    refine len_own I.kIn J m.at_ m.fn (wpAny_mono (run_fn1 Fn (Room.in1 hr) I.env0.in1 hb I (.cons (show RelV (.ref a) (.ref a) from rfl) .nil) sp) (fun w s' z => ?_) fun _ _ z => z)
    obtain ⟨w', H', I', rw_, e, sm⟩ := z
    subst e
    obtain ⟨t, e⟩ := (show ∃ t, w = Value.int n t from rw_)
    cases e
    exact ⟨n, t, rfl, h0, by omega, .int n, H', I'.tok _, ⟨_, rfl⟩, q H' sm⟩
  · intro H G xs ds dz Q g t e q
    unfold lenOwn at e
    split at e
    · split at e
      · rename_i o hi
        obtain ⟨v, rfl, tv⟩ := topL1 t
        obtain ⟨ns, l, rfl⟩ := isObjC_inv hi
        have ry := tv.rep g
        obtain ⟨a, dd, vs, rfl, ha, _, _⟩ := tv.obj g
        unfold lenN at e
        split at e
        · rename_i n eo
          split at e
          · rename_i hn
            cases e
            refine ⟨n, a, dd, _, rfl, ha, hn.1, hn.2, ⟨[.dat (.obj c ns l)], [], [], H, .refl _, .dat ry .nil, ⟨rfl, List.nodup_nil, fun k a d h => by simp at h⟩, ?_⟩, fun H' sm => q _ H' G (.grow .refl sm) .int⟩
            rw [eo]
            intro v H' G' r rv
            cases rv
            exact ⟨rfl, fun b o q => r.fr b o q (by simp)⟩
          · cases e
        · cases e
      · cases e
    · cases e
end
end DL

namespace DL
open PySem L2 PySem.Spec PyProof.Rows
/-! ### sorted by length -/
def lenT : D → Int
  | .tup l => l.length
  | _ => 0
def isT : D → Bool
  | .tup _ => true
  | _ => false
def srtLenD : List D → Option D
  | [.lst l] => if l.all isT then some (.lst (l.mergeSort fun a b => decide (lenT a ≤ lenT b))) else none
  | _ => none
section
variable {X : Cx} {cl : Str → Addr} {F : Fra} {W : WX}
/-- called with key=len -/
def CallL (X : Cx) (r : List V → Hp → VK → Prop) : Prop :=
  ∀ (pins : List (Addr × Obj)) (s : Shared) (σ : L2.St) (H : Hp) (xs : List V) (us : List Value) (Q : VK), Inv X pins σ H s → Vals xs us → r xs H Q → wpAny (model X.prog X.w) X.A (call (.builtin "sorted") us [(Str.ofString "key", .builtin "len")]) (EP X pins σ Q) X.xe s
theorem pe_sortLen {r : List V → Hp → VK → Prop} {p p2 pos kpos : Pos} {e : Expr} {es : List Expr} {t : TA} (hc : CallL X r) (hg : Gl X "sorted") (hm : X.mg "sorted" = none) (hg2 : Gl X "len") (hm2 : X.mg "len" = none) (hv : bootBuiltins "sorted" = some (.builtin "sorted")) (hv2 : bootBuiltins "len" = some (.builtin "len")) (ha : PA X (e :: es) t)
    (he : backTo pos (starEach (e :: es) X.env) = (false, eval e X.env) :: backTo pos (starEach es X.env) := by rfl) (hpl : (backTo pos (starEach (e :: es) X.env)).any (·.1) = false := by rfl) :
    PE X (.Call (.Name "sorted" p) (e :: es) [⟨some "key", .Name "len" p2, kpos⟩] pos) (tCB r t) := by
  refine ⟨fun pins s
                                                                                                              σ H Q I h => ?_⟩
  refine wpAny_Call_Name_kw
                                                                                                              (ld_blt I hg hm hv ?_)
  refine PyProof.Rows.callWith_kw (thn (ha.run pos pins s σ H _ I h) fun us s1 ⟨vs, H1, I1, r1, q1⟩ => ?_) he hpl rfl rfl
  show wpAny _ _ (evalAll [do let v ← eval (.Name "len" p2) X.env; standAt pos; pure v]) _ _ s1
  refine wpAny_evalAll_cons (wpAny_bind (ld_blt I1 hg2 hm2 hv2 (wpAny_bind (wpAny_standAt (wpAny_pure ?_)))))
  refine wpAny_evalAll_nil ?_
  exact hc pins s1 σ
                                                                                                              H1 vs us Q I1 r1 q1
theorem zip_rep {K : PySem.W.Frag} {H : Hp} {ds : List D} {vs : List V} (r : RepL K cl H ds vs) : ∀ p ∈ ds.zip vs, Rep K cl H p.1 p.2 := fun p hp => repL_zip r p hp
def srtLP (ds : List D) (vs : List V) : List (D × V) := (ds.zip vs).mergeSort fun a b => decide (lenT a.1 ≤ lenT b.1)
theorem srtLP_fst {K : PySem.W.Frag} {H : Hp} {ds : List D} {vs : List V} (r : RepL K cl H ds vs) : (srtLP ds vs).map (·.1) = ds.mergeSort fun a b => decide (lenT a ≤ lenT b) := by
  unfold srtLP
  have e : ((ds.zip vs).mergeSort fun a b => decide (lenT a.1 ≤ lenT b.1)).map (·.1) = ((ds.zip vs).map (·.1)).mergeSort fun a b => decide (lenT a ≤ lenT b) := List.map_mergeSort fun a _ b _ => rfl
  rw [e, zip_fst r]
theorem cl_sort (hu : X.A.units + 64 < cLine) : CallL X fun xs H Q => ∃ a ds vs, xs = [V.ref a] ∧ SqL X.K H a vs ∧ RepL X.K cl H ds vs ∧ ds.all isT = true ∧ ∀ p, H p = none → Q (.ref p) (upd H p (.lst ((srtLP ds vs).map (·.2)))) := by
  intro pins s σ
                                                                                                              H xs us Q I r h
  obtain ⟨a, ds, vs, rfl, hs, rp, ok, q⟩ := h
  obtain ⟨its, rv, hl,
                                                                                                              hz⟩ := I.list hs
  rw [Vals.ref1 r]
  have hlen : (ds.zip vs).length = vs.length := by rw [List.length_zip, rp.length, Nat.min_self]
  have e := each_zip rp rv
  refine PySem.W.sorted_key_data (bs := ds.zip vs) (k := fun p => PyData.int (lenT p.1)) (R := fun u p => Rep X.K cl H p.1 p.2 ∧ RelV p.2 u) (b := false) hl.isList e ?_ ?_ ?_ ?_ (PyProof.Rows.ksk_s1 _ _) (fun _ => PyProof.Rows.ksk_l1 _ _) (fun x => PyProof.Rows.ksk_t4 "len" x) (fun u p hR hp h tk kp => ?_) fun out c h' tk kp hn hD l1 e2 => ?_
  · exact PySem.W.AllAlike.of fun b b' => rfl
  · exact PySem.W.Sortable.others fun b => ⟨PyData.noConfusion, fun xs => PyData.noConfusion⟩
  · rw [hlen]; exact hz
  · intro p hp
    show X.A.units + 2 + 0 < cLine
    omega
  · have ht : isT p.1 = true := List.all_eq_true.mp ok _ (List.of_mem_zip hp).1
    obtain ⟨d, v⟩ := p
    cases d <;> first | cases ht; done | skip
    rename_i l
    obtain ⟨hr, hv⟩ := hR
    cases hr with
    | tup h1 r1 =>
      cases (show u = Value.ref _ from hv)
      obtain ⟨its2, rv2, pl, hz2⟩ := I.tuple h1
      have h63 := line63
      have hl2 := rv2.length
      have hl3 := r1.length
      refine len_tuple (by obtain ⟨o, ho, hrest⟩ := pl; exact ⟨o, kp _ _ ho, hrest⟩) (by rw [List.size_toArray]; omega) ⟨h, tk + 1 + 1, rfl, fun _ _ z => z, ?_⟩
      have e3 : (its2.toArray.size : Int) = lenT (.tup l) := by
        show _ = (l.length : Int)
        rw [List.size_toArray, ← hl2, hl3]
      rw [e3]
      exact .int _ _
  · rw [PySem.W.dataLe_int] at e2
    obtain ⟨v1, _⟩ := each_vals e2
    have l2 : ((srtLP ds vs).map (·.2)).length = vs.length := by rw [List.length_map, srtLP, List.length_mergeSort, hlen]
    exact ⟨.ref _, _, I.laid (t' := tk) (o := .lst ((srtLP ds vs).map (·.2))) kp (Nat.le_succ _) ⟨by rw [l2]; exact hz, out, _, v1, hD⟩, rfl, q _ (I.hok.fresh (Nat.le_succ _))⟩
theorem re_sortLen {p p2 pos kpos : Pos} {a : Expr} {fs : M (List R)} (hr : X.A.units + 64 < cLine) (hg : Gl X "sorted") (hm : X.mg "sorted" = none) (hg2 : Gl X "len") (hm2 : X.mg "len" = none) (hv : bootBuiltins "sorted" = some (.builtin "sorted")) (hv2 : bootBuiltins "len" = some (.builtin "len")) (ha : RA X cl F W [a] fs)
    (he : backTo pos (starEach [a] X.env) = (false, eval a X.env) :: backTo pos (starEach [] X.env) := by rfl) (hpl : (backTo pos (starEach [a] X.env)).any (·.1) = false := by rfl) :
    RE X cl F W (.Call (.Name "sorted" p) [a] [⟨some "key", .Name "len" p2, kpos⟩] pos) (cCB srtLenD fs) := by
  refine ⟨PE.imp (pe_sortLen (cl_sort (cl := cl) hr) hg hm hg2 hm2 hv hv2 ha.pa he hpl) fun σ H Q h => tCB_D (f := .none) (fun H G xs ds dz Q gh t e k => ?_) h⟩
  unfold srtLenD at e
  split at e
  · split at e
    · rename_i ok
      cases e
      obtain ⟨v, rfl, tv⟩ := topL1 t
      obtain ⟨a, vs, rfl, h1, r⟩ := tv.lst gh
      refine ⟨a, _, vs, rfl, SqL.of h1, r.mono gh, ok, fun p hp => k _ _ _ (.lay .refl hp) (.lst upd_same ?_)⟩
      rw [← srtLP_fst r]
      refine (repL_pairs fun p hp => ?_).mono (same_upd (gh.free hp))
      exact repL_zip r p (List.mem_mergeSort.mp hp)
    · cases e
  · cases e
end
end DL

namespace DL
open PySem L2 PySem.Spec PyProof.Rows
/-! ### a test that only looks at an own list -/
def plainBut (e : Env) (i : Nat) : Bool := e.j.isEmpty && (e.s.set i .un).all S.plain
def cPeek (i : Nat) (t : M Bool) : M Bool := fun e => match e.s[i]? with
  | some (.own (.lst l)) => if plainBut e i = true then (match t (e.setS i (.dat (.lst l))) with
    | .ok b _ => .ok b e
    | _ => .bad) else .bad
  | _ => .bad
theorem plain_at {e : Env} {i j : Nat} {x : S} (h : plainBut e i = true) (hj : e.s[j]? = some x) (hne : j ≠ i) : x.plain = true := by
  unfold plainBut at h
  rw [Bool.and_eq_true] at h
  refine List.all_eq_true.mp h.2 x (List.mem_of_getElem? (i := j) ?_)
  rw [List.getElem?_set_ne (Ne.symm hne)]
  exact hj
section
variable {X : Cx} {cl : Str → Addr} {F : Fra} {W : WX}
theorem rt_peek (i : Nat) {x : Expr} {t : M Bool} (h : RT X cl F W x t) : RT X cl F W x (cPeek i t) := by
  refine ⟨PT.imp h.pt fun σ H Q ⟨e, G, st, q⟩ => ?_⟩
  unfold cPeek at q
  cases hx : e.s[i]? with
  | none => rw [hx] at q; exact q.elim
  | some x =>
    rw [hx] at q
    cases x with
    | own d =>
      cases d with
      | lst l =>
        simp only [] at q
        by_cases hp : plainBut e i = true
        · rw [if_pos hp] at q
          obtain ⟨a, s1, s2, s3, vs, s4, s5⟩ := st.slot i _ hx
          obtain ⟨G2, st2, k2, r2⟩ := frz_ok st (r := .whole i) (v := .ref a) s1 (show e.frz (.whole i) = some (.lst l, e.setS i (.dat (.lst l))) by simp only [Env.frz, hx])
          refine ⟨_, G2, st2, ?_⟩
          cases ht : t (e.setS i (.dat (.lst l))) with
          | bad => rw [ht] at q; exact q.elim
          | exn y e' => rw [ht] at q; exact q.elim
          | ok b e' =>
            rw [ht] at q
            intro H' G' st' k'
            have ha : H' a = some (.lst vs) := by
              cases r2 with
              | lst h1 _ =>
                have := st2.ret.gh _ _ h1
                rw [s4] at this
                cases this
                exact st'.ret.gh _ _ (k'.gg _ _ h1)
            have hj : e.j = [] := by
              unfold plainBut at hp
              rw [Bool.and_eq_true] at hp
              exact List.isEmpty_iff.mp hp.1
            refine q H' G ⟨⟨fun b w hb => st'.ret.gh _ _ (k'.gg _ _ (k2.gg _ _ hb)), st.ret.g0, ⟨st.ret.jars.len, st.ret.jars.nd, fun k b d _ h2 => ?_⟩, st'.ret.fr, st.ret.fg⟩, st.jh, st.len, fun j x hjx => ?_, st.inj⟩ ⟨fun _ _ z => z, fun p o hpo lp => ?_, fun j d hd => ⟨d, hd⟩⟩
            · rw [hj] at h2; cases h2
            · by_cases hne : j = i
              · subst hne
                rw [hx] at hjx
                cases hjx
                exact ⟨a, s1, s2, s3, vs, ha, s5⟩
              · have pl := plain_at hp hjx hne
                cases x with
                | un => exact True.intro
                | dat d => exact st.slot j _ hjx
                | own d => cases pl
                | jar k => cases pl
            · have l1 : Loose F (e.setS i (.dat (.lst l))) σ p := ⟨lp.1, fun j d hd => by
                by_cases e0 : j = i
                · subst e0; rw [setS_same hx] at hd; cases hd
                · rw [setS_ne e0] at hd; exact lp.2 j d hd⟩
              exact ⟨(k'.kp p o hpo l1).1, fun z => z⟩
        · rw [if_neg hp] at q; exact q.elim
      | _ => exact q.elim
    | _ => exact q.elim
/-! ### an own list, its own no more -/
def sFrz (i : Nat) (f : M Fl) : M Fl := fun e => match e.s[i]? with
  | some (.own d) => f (e.setS i (.dat d))
  | _ => .bad
theorem postF_up {K : PySem.W.Frag} {D : Ends} {G G2 : Hp} {o : Out Fl} (h : PostF K cl F W D G o) (g : Same G G2) : PostF K cl F W D G2 o := by
  cases o with
  | bad => exact h
  | exn x e => exact h
  | ok fl e =>
    cases fl with
    | nx => exact fun σ' H' G' st s => h σ' H' G' st (g.trans s)
    | bk => exact fun σ' H' G' st s => h σ' H' G' st (g.trans s)
    | ct => exact fun σ' H' G' st s => h σ' H' G' st (g.trans s)
    | rt d => exact h
theorem rs_frz (i : Nat) {x : Stmt} {f : M Fl} (h : RS X cl F W x f) : RS X cl F W x (sFrz i f) := by
  refine ⟨PS.imp h.ps fun D σ H ⟨e, G, st, q⟩ => ?_⟩
  unfold sFrz at q
  cases hx : e.s[i]? with
  | none => rw [hx] at q; exact q.elim
  | some x =>
    rw [hx] at q
    cases x with
    | own d =>
      simp only [] at q
      obtain ⟨a, s1, _⟩ := st.slot i _ hx
      obtain ⟨G2, st2, k2, r2⟩ := frz_ok st (r := .whole i) (v := .ref a) s1 (show e.frz (.whole i) = some (d, e.setS i (.dat d)) by simp only [Env.frz, hx])
      exact ⟨_, G2, st2, postF_up q k2.gg⟩
    | _ => exact q.elim
end
end DL

namespace DL
open PySem L2 PySem.Spec PyProof.Rows
/-! ### sorted of one item at most, whatever it is -/
def sort1D : List D → Option D
  | [.lst l] => if l.length ≤ 1 then some (.lst l) else none
  | _ => none
def sorted3D (xs : List D) : Option D := match sort1D xs with
  | some d => some d
  | none => sorted2D xs
theorem short_perm {α : Type} {l m : List α} (h : l.length ≤ 1) (p : m.Perm l) : m = l := by
  cases l with
  | nil => exact p.eq_nil
  | cons a l =>
    cases l with
    | nil => exact List.perm_singleton.mp p
    | cons b l => simp at h
section
variable {X : Cx} {cl : Str → Addr} {F : Fra} {W : WX}
theorem CallD.or {f : Value} {g g' : List D → Option D} (h : CallD X cl f g) (h' : CallD X cl f g') : CallD X cl f fun xs => match g xs with
    | some d => some d
    | none => g' xs := by
  obtain ⟨r, h1, h2⟩ := h
  obtain ⟨r', h1', h2'⟩ := h'
  refine ⟨_, h1.or h1', fun H G xs ds dz Q gh t e k => ?_⟩
  have e : (match g ds with
    | some d => some d
    | none => g' ds) = some dz := e
  cases hg : g ds with
  | some d => rw [hg] at e; exact .inl (h2 H G xs ds dz Q gh t (hg.trans e) k)
  | none => rw [hg] at e; exact .inr (h2' H G xs ds dz Q gh t e k)
theorem cr_sort1 : CallR X (.builtin "sorted") fun xs H Q => ∃ a vs, xs = [V.ref a] ∧ SqL X.K H a vs ∧ vs.length ≤ 1 ∧ ∀ p, H p = none → Q (.ref p) (upd H p (.lst vs)) := by
  intro pins s σ
                                                                                                              H xs us Q I r h
  obtain ⟨a, vs, rfl, hs, h1, q⟩ := h
  obtain ⟨its, rv, hl,
                                                                                                              hz⟩ := I.list hs
  rw [Vals.ref1 r]
  have hl2 := rv.length
  refine SrtO.sorted_ord (ltv := fun _ _ => false) ⟨fun _ _ z => (nomatch z), fun _ _ _ _ _ => rfl⟩ hl.isList (by rw [← hl2]; exact hz) (fun h2 => absurd h2 (by omega)) fun out _ hb => ?_
  have e : out = its := short_perm (by omega) hb.perm
  subst e
  exact ⟨.ref _, _, I.laid (t' := s.toks) (o := .lst vs) (fun b o => sortedAll_old) (Nat.le_succ _) ⟨hz, out, _, rv, (sortedAll_at s.heap out out.toArray).choose_spec⟩, rfl, q _ (I.hok.fresh (Nat.le_succ _))⟩
theorem cd_sort1 : CallD X cl (.builtin "sorted") sort1D := by
  refine ⟨_, cr_sort1, fun H G xs ds dz Q gh t e k => ?_⟩
  unfold sort1D at e
  split at e
  · split at e
    · rename_i h1
      cases e
      obtain ⟨v, rfl, tv⟩ := topL1 t
      obtain ⟨a, vs, rfl, h2, r⟩ := tv.lst gh
      exact ⟨a, vs, rfl, SqL.of h2, by rw [← r.length]; exact h1, fun p hp => k _ _ _ (.lay .refl hp) (.lst upd_same (r.mono (same_upd (gh.free hp))))⟩
    · cases e
  · cases e
theorem cd_sorted3 (hu : X.A.units + 64 < cLine) : CallD X cl (.builtin "sorted") sorted3D := CallD.or cd_sort1 (cd_sorted2 hu)
end
end DL

namespace DL
open PySem L2 PySem.Spec PyProof.Rows
/-! ### len(set(t)), t a tuple of texts of any length -/
def nubs (l : List Str) (x : Str) : List Str := if l.any (· == x) then l else l ++ [x]
def nub (l : List Str) : List Str := l.foldl nubs []
theorem nub_snoc (l : List Str) (x : Str) : nub (l ++ [x]) = nubs (nub l) x := by
  unfold nub
  rw [List.foldl_append]
  rfl
theorem nubs_any (l : List Str) (x k : Str) : (nubs l x).any (· == k) = (l.any (· == k) || decide (k = x)) := by
  unfold nubs
  cases h : l.any (· == x) with
  | true =>
    rw [if_pos rfl]
    by_cases e : k = x
    · rw [e, h]; rfl
    · rw [decide_eq_false e, Bool.or_false]
  | false =>
    rw [if_neg Bool.false_ne_true, List.any_append, List.any_cons, List.any_nil, Bool.or_false]
    congr 1
    rw [Bool.eq_iff_iff,
                                                                                                              beq_iff_eq, decide_eq_true_eq]
    exact eq_comm
theorem nubs_len (l : List Str) (x : Str) : (nubs l x).length = if l.any (· == x) = true then l.length else l.length + 1 := by
  unfold nubs
  split
  · rfl
  · rw [List.length_append,
                                                                                                              List.length_singleton]
theorem nubs_le (l : List Str) (x : Str) : (nubs l x).length ≤ l.length + 1 := by
  rw [nubs_len]
  split <;> omega
theorem nub_le : ∀ n : Nat, ∀ l : List Str, l.length = n → (nub l).length ≤ n
  | 0, l, h => by rw [List.length_eq_zero_iff.mp h]; exact Nat.le_refl _
  | n + 1, l, h => by
    rcases List.eq_nil_or_concat l with rfl | ⟨m, x, rfl⟩
    · cases h
    · rw [List.concat_eq_append] at h ⊢
      have h1 : m.length = n := by simpa using h
      rw [nub_snoc]
      exact Nat.le_trans (nubs_le _ _) (Nat.succ_le_succ (nub_le n m h1))
section
variable {prog : Program} {w : World} {A : Around} {R : Result → Shared → Prop} {I : Addr} {fp wr : List Addr}
                                                                                                              {G : Array GenState → Array GenState → Prop} {n : Nat} {P : Nat → Value → Prop} {St : Nat → Shared → Prop}
/-- the set at S holds the first i of xs -/
abbrev Holds (prog : Program) (w : World) (h : Heap) (S : Addr) (xs : List Str) (i : Nat) : Prop := h.SetOf (PySem.strKind prog w) S (fun k => (nub (xs.take i)).any (· == k)) (nub (xs.take i)).length
theorem Holds.moved {h h' : Heap} {S : Addr} {xs : List Str} {i : Nat} (a : Holds prog w h S xs i) (k : ∀ o, h.get? S = some o → h'.get? S = some o) : Holds prog w h' S xs i :=
  let ⟨o, es, ep, t, ho, rest⟩ := a
  ⟨o, es, ep, t, k o ho, rest⟩
theorem take_next {xs : List Str} {i : Nat} (h : i < xs.length) : xs.take (i + 1) = xs.take i ++ [xs.getD i Str.empty] := by
  rw [List.take_add_one, List.getElem?_eq_getElem h]
  simp [List.getD,
                                                                                                              List.getElem?_eq_getElem h]
theorem laid_all (W : WalksS prog w A.in1 I fp wr G n P St) (S : Addr) (out : S ∉ fp) (xs : List Str) (size : xs.length = n) (room : n + 1 < scanBound) (val : ∀ i v, P i v → ∃ t, v = .str (xs.getD i Str.empty) t) :
    ∀ (todo i : Nat) (s : Shared), i + todo = n → St i s → Holds prog w s.heap S xs i → (∀ s', Moved (S :: wr) G s s' → Holds prog w s'.heap S xs n → R (.ok (.ret .none)) s') → codeAny (model prog w) A (.builtin "set.update.loop" ⟨[.ref S, .ref I], []⟩) R s
  | 0, i, s, hi, st, hS, fin => by
    obtain rfl : i = n := hi
    refine codeAny_builtin
                                                                                                              PyProof.Rows.F.entry_set_update_loop ?_
    rw [Around.under_plainId
                                                                                                              PyProof.Rows.F.plain_set_update_loop _]
    refine wpAny_bind (W.done s _ _ st fun s' mv => ?_)
    exact wpAny_pure (fin s' (mv.mono fun b hb => List.mem_cons_of_mem _ hb) (hS.moved fun o ho => mv.heap S _ (fun z => out (W.sub _ z)) ho))
  | todo + 1, i, s, hi, st, hS, fin => by
    refine codeAny_builtin
                                                                                                              PyProof.Rows.F.entry_set_update_loop ?_
    rw [Around.under_plainId
                                                                                                              PyProof.Rows.F.plain_set_update_loop _]
    refine wpAny_bind (W.item i s _ _ (by omega) st fun v s1 hv st1 mv => ?_)
    obtain ⟨t, rfl⟩ := val i v hv
    have h1 : Holds prog w s1.heap S xs i := hS.moved fun o ho => mv.heap S _ (fun z => out (W.sub _ z)) ho
    refine wpAny_bind
                                                                                                              (wpAny_holding ?_)
    unfold setAdd
    refine wpAny_holding (wpAny_bind ((PySem.strKind prog w).pyHash (k := xs.getD i Str.empty) (strKind_is _ _ _ _) ?_))
    have few : (nub (xs.take i)).length ≤ i := nub_le i _ (by rw [List.length_take]; omega)
    refine wpAny_setAddHashed_of (knd := PySem.strKind prog w) (s := { s1 with toks := s1.toks + 1 }) (strKind_is _ _ _ _) rfl h1 (by omega) fun h' same h2 => ?_
    have e := take_next (xs := xs) (i := i) (by omega)
    have h3 : Holds prog w h' S xs (i + 1) := by
      refine PyProof.Rows.SetOf_congr h2 (fun k => ?_) ?_
      · rw [e, nub_snoc, nubs_any]
      · rw [e, nub_snoc, nubs_len]
    refine wpAny_pure ⟨plainId_quiet PyProof.Rows.F.plain_set_update_loop _, laid_all W S out xs size room val todo (i + 1) _ (by omega) (W.frame _ s1 _ _ st1 (Nat.le_succ _) fun b hb o ho => ?_) h3 fun s2 mv2 h4 => ?_⟩
    · rw [same.2 b fun z : b = S => out (z ▸ hb)]; exact ho
    · refine fin s2 (Moved.trans W.gtrans ((mv.mono fun b hb => List.mem_cons_of_mem _ hb).then_heap (Nat.le_succ _) fun b o hb ho => ?_) mv2) h4
      rw [same.2 b fun z : b = S => hb (by rw [z]; exact List.mem_cons_self)]; exact ho
end
section
variable {prog : Program} {w : World} {A :
                                                                                                              Around} {E : Value → Shared → Prop} {s : Shared}
/-- a set that holds nothing yet -/
abbrev so (led : Bool) : Obj := { cls := .type "set", dict := none, data := .set #[] 0 (.fresh 0 0 led) }
theorem set_tup {l : Addr} {items : Array Value} {xs : List Str} {Q : Value → Shared → Prop} (hh : A.handled = none) (hl : s.heap.IsTuple l items) (hi : PyProof.Rows.StrsAre items.toList xs) (room : xs.length + 1 < scanBound)
    (h : ∀ (h' : Heap) (tk : Nat), Holds prog w h' s.heap.objs.size xs xs.length → (∀ b o, b < s.heap.objs.size → s.heap.get? b = some o → h'.get? b = some o) → Q (.ref s.heap.objs.size) { s with heap := h', toks := tk }) :
    wpAny (model prog w) A (call (.type
                                                                                                              "set") [.ref l]) Q E s := by
  obtain ⟨c, tl, mro⟩ := PySem.F.called_set.mro
  have made := PySem.F.called_set.made
  have sub := PySem.F.called_set.sub
  refine wpAny_call
                                                                                                              (codeAny_of_tree ?_)
  show wpAny _ _ (callAny
                                                                                                              (.type "set") _) _ _ _
  refine wpAny_pure ⟨Code.quiet_builtin _ (by decide
                                                                                                              +kernel), codeAny_builtin PySem.F.entry_type_call ?_⟩
  rw [Around.under_plain (weight_type_call_type
                                                                                                              "set" [.ref l] []) rfl]
  have nt := PySem.F.called_set.notType
  have cc := PySem.F.called_set.canCreate
  have tc := PySem.F.typeCall_set_1 (.ref l)
  repeat (any_goals (first
                                                                                                              | assumption | wp_step))
  refine codeAny_mono (code_set_new_1 (.ref l) (E := E) (Q₁ := fun v s₁ => ∃ led : Bool, v = .ref s.heap.objs.size ∧ s₁ = { s with heap := s.heap.push (so led) }) fun led => ⟨led, rfl, rfl⟩) fun r s₁ hr => ?_
  cases r with
  | error e => exact hr
  | ok fl =>
    cases fl with
    | ret v =>
      obtain ⟨led, rfl, rfl⟩ := hr
      have hS : (s.heap.push (so led)).get? s.heap.objs.size = some (so led) := Heap.get?_push_size _ rfl
      have hT : Shared.TypeIs { s with heap := s.heap.push (so led) } (.ref s.heap.objs.size) "set" := ⟨_, hS, rfl⟩
      have li := PySem.F.called_set.init.lookup
      have bi := PySem.F.called_set.init.bind (.ref s.heap.objs.size)
      repeat (any_goals (first
                                                                                                              | assumption | wp_step))
      refine codeAny_mono (codeAny_call_builtin (R := wants (fun r s₂ => r = .none ∧ ∃ h' tk, s₂ = { s with heap := h', toks := tk } ∧ Holds prog w h' s.heap.objs.size xs xs.length ∧ (∀ b o, b < s.heap.objs.size → s.heap.get? b = some o → h'.get? b = some o)) E) PySem.F.called_set.init.plain PySem.F.entry_set_init (check_set_init_1 hT ?_)) fun r₂ s₂ hr₂ => ?_
      · obtain ⟨ol, hol,
                                                                                                              hcl, nl, hdl⟩ := hl
        obtain ⟨ocls, odict,
                                                                                                              odata, oslots⟩ := ol
        simp only at hcl hdl
        subst hcl; subst hdl
        have hol1 : (s.heap.push (so led)).get? l = some { cls := .type "tuple", dict := odict, data := .seq items nl, slots := oslots } := Heap.get?_push_of_some _ hol
        have s1 := PySem.F.sub_tuple_set
        have s2 := PySem.F.sub_tuple_frozenset
        have nd : (Value.type "tuple" == Value.type "dict") = false := by decide
        have hl1 : (s.heap.push (so led)).IsTuple l items := ⟨_, hol1, rfl, nl, rfl⟩
        unfold Builtin.«set.__init__»
                                                                                                              noKeywords Builtin.Frozenset.updateFrom
        generalize hPI : pyIter = PI
        wp_walk
        subst hPI
        refine wpAny_pyIter_tuple
                                                                                                              hl1 ?_
        refine wpAny_bind
                                                                                                              (wpAny_runValue ?_)
        have lt : l < s.heap.objs.size := Heap.lt_size hol
        have h3 : A.in1.in1.in1.handled = none := by simp [hh]
        have ne : l ≠ (s.heap.push (so led)).objs.size := by rw [Heap.size_push]; exact Nat.ne_of_lt (Nat.lt_succ_of_lt lt)
        have out : s.heap.objs.size ∉ [(s.heap.push (so led)).objs.size, l] := by
          rw [Heap.size_push]
          intro z
          rcases List.mem_cons.mp
                                                                                                              z with z | z
          · exact Nat.ne_of_lt (Nat.lt_succ_self _) z
          · exact Nat.ne_of_gt lt (List.mem_singleton.mp z)
        have sz : xs.length = items.size := by rw [← StrsAre.len_eq hi, Array.length_toList]
        refine laid_all ((Walks.tuple h3 _ l ne items).toS) s.heap.objs.size out xs sz (by omega) (fun i v hv => SS.strs_at hi i v (by rw [Array.getElem?_toList]; exact hv)) items.size 0 _ (Nat.zero_add _) ⟨⟨_, Heap.get?_push_size _ rfl, rfl, rfl⟩, (hl1.push _)⟩ ?new ?fin
        case new =>
          exact PyProof.Rows.SetOf_congr ((PyProof.Rows.setObjOf_fresh (knd := PySem.strKind prog w) led).setOf (Heap.get?_push_of_some _ hS) (by unfold scanBound; omega)) (fun _ => rfl) rfl
        case fin =>
          intro s' mv hS'
          obtain ⟨h', g', d',
                                                                                                              tk', os'⟩ := s'
          obtain rfl : g' = s.gens := mv.gens
          obtain rfl : d' = s.drawn := mv.drawn
          obtain rfl : os' = s.os := mv.os
          refine wpAny_pure (wpAny_pure ⟨rfl, h', tk', rfl, by rw [sz]; exact hS', fun b o hb e => mv.heap b o (fun z => ?_) (Heap.get?_push_of_some _ (Heap.get?_push_of_some _ e))⟩)
          rcases List.mem_cons.mp
                                                                                                              z with z | z
          · exact Nat.ne_of_lt hb z
          · rw [List.mem_singleton, Heap.size_push] at z
            exact Nat.ne_of_lt (Nat.lt_succ_of_lt hb) z
      · cases r₂ with
        | error e => exact hr₂
        | ok fl₂ =>
          cases fl₂ with
          | ret r =>
            obtain ⟨rfl, h', tk, rfl, hS', keep⟩ := hr₂
            repeat (any_goals (first
                                                                                                              | assumption | wp_step))
            exact h _ _ hS' keep
          | _ => exact hr₂.elim
    | _ => exact hr.elim
end
end DL

namespace DL
open PySem L2 PySem.Spec PyProof.Rows
def strsD : List D → Option (List Str)
  | [] => some []
  | .str x :: l => (strsD l).map fun xs => x :: xs
  | _ :: _ => none
def lenSetD : List D → Option D
  | [.tup l] => (strsD l).bind fun xs => if xs.length ≤ 1000 then some (.int (nub xs).length) else none
  | _ => none
theorem repL_strs {K : PySem.W.Frag} {G : Hp} {cl : Str → Addr} : ∀ {l : List D} {xs : List Str} {vs : List V}, strsD l = some xs → RepL K cl G l vs → vs = xs.map V.str
  | [], xs, _, h, .nil => by cases h; rfl
  | d :: l, xs, _, h, .cons r t => by
    cases d <;> first | (cases h; done) | skip
    rename_i x
    obtain ⟨ys, hy, rfl⟩ := Option.map_eq_some_iff.mp (show (strsD l).map (fun xs => x :: xs) = some xs from h)
    cases r
    rw [repL_strs hy t]
    rfl
section
variable {X : Cx} {cl : Str → Addr} {F : Fra} {W : WX}
theorem pe_lenSetT {a : Expr} {t : TA} {p p2 q pos : Pos} (hc : X.calm = true) (hg : Gl X "len") (hm : X.mg "len" = none) (hg2 : Gl X "set") (hm2 : X.mg "set" = none) (hv : bootBuiltins "len" = some (.builtin "len")) (hv2 : bootBuiltins "set" = some (.type "set")) (ha : PA X [a] t)
    (na : starEach [a] X.env = (false, eval a X.env) :: starEach [] X.env := by rfl) :
    PE X (.Call (.Name "len" p) [.Call (.Name "set" p2) [a] [] q] [] pos) (tCB (fun xs H Q => ∃ l, ∃ ys : List Str, xs = [V.ref l] ∧ SqT X.K H l (ys.map V.str) ∧ ys.length ≤ 1000 ∧ Q (.int (nub ys).length) H) t) := by
  refine ⟨fun pins s
                                                                                                              σ H Q I h => ?_⟩
  refine wpAny_Call_Name_kw
                                                                                                              (ld_blt I hg hm hv ?_)
  refine PyProof.Rows.callWith_builtin1
                                                                                                              (PyProof.Rows.args_cons ?_ rfl) rfl rfl
  refine wpAny_Call_Name_kw (ld_blt I hg2 hm2 hv2 ?_)
  refine PyProof.Rows.callWith_type1 (thn (ha.run q pins s σ H _ I h) fun us s1 ⟨vs, H1, I1, r1, q1⟩ => ?_) na rfl
  obtain ⟨l, ys, rfl, hq, h1, q2⟩ := q1
  rw [Vals.ref1 r1]
  obtain ⟨its, r, pl, hz⟩ := I1.tuple hq
  refine set_tup (xs := ys) (I1.ok.hd hc) pl (by simpa using strsAre_of r) (by unfold scanBound; omega) fun h' tk hS keep => ?_
  refine PyProof.Rows.args_nil
                                                                                                              ?_
  obtain ⟨o, es, ep, tb, ho, ex, hd, _, _, _, hf, hn⟩ := hS
  have I2 : Inv X pins σ H1 { s1 with heap := h', toks := tk } := I1.kept fun b o e => keep b o (Heap.lt_size e) e
  have e1 : (nub (ys.take ys.length)).length = (nub ys).length := by rw [List.take_length]
  have few := nub_le _ ys rfl
  exact call_len_set ho ex hd hf (by rw [hn, e1]; omega) ⟨.int (nub ys).length, H1, I2.tok _, ⟨_, by rw [hn, e1]⟩, q2⟩
theorem re_lenSet {a : Expr} {fs : M (List R)} {p p2 q pos : Pos} (hc : X.calm = true) (hg : Gl X "len") (hm : X.mg "len" = none) (hg2 : Gl X "set") (hm2 : X.mg "set" = none) (hv : bootBuiltins "len" = some (.builtin "len")) (hv2 : bootBuiltins "set" = some (.type "set")) (ha : RA X cl F W [a] fs)
    (na : starEach [a] X.env = (false, eval a X.env) :: starEach [] X.env := by rfl) : RE X cl F W (.Call (.Name "len" p) [.Call (.Name "set" p2) [a] [] q] [] pos) (cCB lenSetD fs) := by
  refine ⟨PE.imp (pe_lenSetT hc hg hm hg2 hm2 hv hv2 ha.pa na) fun σ H Q h => tCB_D (f := .none) (fun H G xs ds dz Q gh t e k => ?_) h⟩
  unfold lenSetD at e
  split at e
  · rename_i l
    obtain ⟨ys, hy, e⟩ := Option.bind_eq_some_iff.mp e
    split at e
    · rename_i h1
      cases e
      obtain ⟨v, rfl, tv⟩ := topL1 t
      obtain ⟨a, vs, rfl, h2, r⟩ := tv.tup gh
      refine ⟨a, ys, rfl, ?_, h1, k _ H G .refl .int⟩
      rw [← repL_strs hy r]
      exact h2
    · cases e
  · cases e
end
end DL

namespace DL
open PySem L2 PySem.Spec PyProof.Rows
/-! ### a test a op b op c op .., link by link -/
structure PRs (X : Cx) (pos : Pos) (es : List Expr) (ops : List CmpOp) (t : V → TT) : Prop where
  run : ∀ (pins : List (Addr × Obj)) (s : Shared) (σ : L2.St) (H : Hp) (Q : Bool → Hp → Prop) (v : Value) (x : V), Inv X pins σ H s → RelV x v → t x σ H Q →
    wpAny (model X.prog X.w) X.A (testChain pos v ops (evalEach es X.env)) (TP X pins σ Q) X.xe s
section
variable {X : Cx} {cl : Str → Addr} {F : Fra} {W : WX} {op op2 : CmpOp} {r : R2} {pos : Pos}
theorem prs_last {e : Expr} {t : TE} (ho : OpR X (compareOp op) r) (p : PE X e t) : PRs X pos [e] [op] fun x σ H Q => t σ H fun y H1 => r x y H1 fun z H2 => ∃ k, z = .bl k ∧ Q k H2 := by
  refine ⟨fun pins s σ H Q v x I rx h => ?_⟩
  refine test_last (thn (p.run pins s σ H _ I h) fun u s1 ⟨y, H1, I1, r1, q1⟩ => thn (ho pins s1 σ H1 x y v u _ I1 rx r1 q1) fun c s2 ⟨z, H2, I2, r2, k, ez, q2⟩ => ?_)
  subst ez
  cases r2
  exact wpAny_truthy_bool ⟨H2, I2, q2⟩
theorem prs_link {e e2 : Expr} {es : List Expr} {ops : List CmpOp} {t : TE} {u : V → TT} (ho : OpR X (compareOp op) r) (p : PE X e t) (h2 : PRs X pos (e2 :: es) (op2 :: ops) u) :
    PRs X pos (e :: e2 :: es) (op :: op2 :: ops) fun x σ H Q => t σ H fun y H1 => r x y H1 fun z H2 => ∃ k, z = .bl k ∧ (if k = true then u y σ H2 Q else Q false H2) := by
  refine ⟨fun pins s σ H Q v x I rx h => ?_⟩
  refine test_link (thn (p.run pins s σ H _ I h) fun w s1 ⟨y, H1, I1, r1, q1⟩ => thn (ho pins s1 σ H1 x y v w _ I1 rx r1 q1) fun c s2 ⟨z, H2, I2, r2, k, ez, q2⟩ => ?_)
  subst ez
  cases r2
  refine wpAny_truthy_bool ?_
  cases k with
  | false => exact ite_ff ⟨H2, I2, q2⟩
  | true => exact ite_tt (h2.run pins s2 σ H2 Q w y I2 r1 q2)
theorem pt_chainN {a b c : Expr} {cs : List Expr} {op' : CmpOp} {ops : List CmpOp} {ta : TE} {u : V → TT} (ha : PE X a ta) (hs : PRs X pos (b :: c :: cs) (op :: op' :: ops) u)
    (hm : lastMarks (op :: op' :: ops) (b :: c :: cs) = false := by with_unfolding_all rfl) : PT X (.Compare a (op :: op' :: ops) (b :: c :: cs) pos) fun σ H Q => ta σ H fun x H1 => u x σ H1 Q := by
  refine ⟨fun pins s
                                                                                                              σ H Q I h => ?_⟩
  exact isTrue_chain (thn (ha.run pins s σ H _ I h) fun v s1 ⟨x, H1, I1, r1, q1⟩ => hs.run pins s1 σ H1 Q v x I1 r1 q1) hm
/-! in D -/
def cLast (g : D → D → Option D) (f : M R) (x : R) : M Bool := fun e => (f e).bnd fun y e1 => match opt2 g (e1.rd x) (e1.rd y) with
  | some (.bl b) => .ok b e1
  | _ => .bad
def cLink (g : D → D → Option D) (f : M R) (k : R → M Bool) (x : R) : M Bool := fun e => (f e).bnd fun y e1 => match opt2 g (e1.rd x) (e1.rd y) with
  | some (.bl true) => k y e1
  | some (.bl false) => .ok false e1
  | _ => .bad
def cChainN (fa : M R) (f : R → M Bool) : M Bool := fun e => (fa e).bnd fun x e1 => f x e1
def tR (X : Cx) (cl : Str → Addr) (F : Fra) (W : WX) (f : R → M Bool) (v : V) : TT := fun σ H Q => ∃ x e G, Stt X.K cl F e σ H G ∧ RR X.K cl σ G x v ∧ Post X.K cl F W σ (f x e) fun b e' => ∀ H' G', Stt X.K cl F e' σ H' G' → Kp F σ e H G e' H' G' → Q b H'
structure RCh (X : Cx) (cl : Str → Addr) (F : Fra) (W : WX) (pos : Pos) (es : List Expr) (ops : List CmpOp) (f : R → M Bool) : Prop where
  pr : PRs X pos es ops (tR X cl F W f)
theorem PRs.imp {es : List Expr} {ops : List CmpOp} {t t' : V → TT} (h : PRs X pos es ops t) (i : ∀ x σ H Q, t' x σ H Q → t x σ H Q) : PRs X pos es ops t' :=
  ⟨fun pins s σ H Q v x I rx q => h.run pins s σ H Q v x I rx (i x σ H Q q)⟩
theorem rch_last {e : Expr} {g : D → D → Option D} {f : M R} (ho : OpD X cl (compareOp op) g) (h : RE X cl F W e f) : RCh X cl F W pos [e] [op] (cLast g f) := by
  obtain ⟨r, h1, h2⟩ := ho
  refine ⟨(prs_last h1 h.pe).imp fun v σ H Q ⟨x, e, G, st, rx, q⟩ => ?_⟩
  refine tD_then st q fun y e1 u H1 G1 s1 k1 r1 z => ?_
  cases hz : opt2 g (e1.rd x) (e1.rd y) with
  | none => rw [hz] at z; exact z.elim
  | some d =>
    rw [hz] at z
    obtain ⟨dx, dy, hx, hy, hg2⟩ := opt2_ok hz
    refine h2 H1 G1 v u dx dy d _ s1.ret.gh (s1.top (rx.mono k1.gg) hx) (s1.top r1 hy) hg2 fun w H2 G2 sp rw_ => ?_
    cases d with
    | bl b =>
      cases rw_
      exact ⟨b, rfl, z H2 G2 (s1.step sp) (k1.trans (Kp.step s1 sp))⟩
    | _ => exact z.elim
theorem rch_link {e e2 : Expr} {es : List Expr} {ops : List CmpOp} {g : D → D → Option D} {f : M R} {k : R → M Bool} (ho : OpD X cl (compareOp op) g) (h : RE X cl F W e f) (hk : RCh X cl F W pos (e2 :: es) (op2 :: ops) k) :
    RCh X cl F W pos (e :: e2 :: es) (op :: op2 :: ops) (cLink g f k) := by
  obtain ⟨r, h1, h2⟩ := ho
  refine ⟨(prs_link h1 h.pe hk.pr).imp fun v σ H Q ⟨x, e, G, st, rx, q⟩ => ?_⟩
  refine tD_then st q fun y e1 u H1 G1 s1 k1 r1 z => ?_
  cases hz : opt2 g (e1.rd x) (e1.rd y) with
  | none => rw [hz] at z; exact z.elim
  | some d =>
    rw [hz] at z
    obtain ⟨dx, dy, hx, hy, hg2⟩ := opt2_ok hz
    refine h2 H1 G1 v u dx dy d _ s1.ret.gh (s1.top (rx.mono k1.gg) hx) (s1.top r1 hy) hg2 fun w H2 G2 sp rw_ => ?_
    have s2 := s1.step sp
    have k2 := k1.trans (Kp.step s1 sp)
    cases d with
    | bl b =>
      cases rw_
      refine ⟨b, rfl, ?_⟩
      cases b with
      | false => exact z H2 G2 s2 k2
      | true => exact ⟨y, e1, G2, s2, r1.mono (Kp.step s1 sp).gg, post_imp z fun b e' hq H' G' st' k' => hq H' G' st' (k2.trans k')⟩
    | _ => exact z.elim
theorem rt_chainN {a b c : Expr} {cs : List Expr} {op' : CmpOp} {ops : List CmpOp} {fa : M R} {f : R → M Bool} (ha : RE X cl F W a fa) (hs : RCh X cl F W pos (b :: c :: cs) (op :: op' :: ops) f)
    (hm : lastMarks (op :: op' :: ops) (b :: c :: cs) = false := by with_unfolding_all rfl) : RT X cl F W (.Compare a (op :: op' :: ops) (b :: c :: cs) pos) (cChainN fa f) := by
  refine ⟨PT.imp (pt_chainN ha.pe hs.pr hm) fun σ H Q ⟨e, G, st, q⟩ => ?_⟩
  exact tD_then st q fun x e1 v H1 G1 s1 k1 r1 z => ⟨x, e1, G1, s1, r1, post_imp z fun b e' h H' G' st' k' => h H' G' st' (k1.trans k')⟩
end
end DL

namespace DL
open PySem L2 PySem.Spec PyProof.Rows
/-! ### one truth less another one -/
def subBD : D → D → Option D
  | .bl a, .bl b => some (.int (b2i a - b2i b))
  | _, _ => none
section
variable {X : Cx} {cl : Str → Addr}
theorem op_subBR : OpR X (binaryOp .Sub) fun x y H Q => ∃ a b, x = .bl a ∧ y = .bl b ∧ Q (.int (b2i a - b2i b)) H := by
  intro pins s σ H x
                                                                                                              y v u Q I rx ry h
  obtain ⟨a, b,
                                                                                                              rfl, rfl, q⟩ := h
  cases rx
  cases ry
  exact PyProof.Rows.sub_bool ⟨.int (b2i a - b2i b), H, I.tok _, ⟨_, rfl⟩, q⟩
theorem od_subB : OpD X cl (binaryOp .Sub) subBD := by
  refine ⟨_, op_subBR, fun H G x y dx dy dz Q gh tx ty e k => ?_⟩
  unfold subBD at e
  split at e
  · cases e
    exact ⟨_, _, tx.bl, ty.bl, k _ H G .refl .int⟩
  · cases e
end
end DL

namespace K30
open PySem L2 DL PySem.Spec PyProof.Rows

abbrev pw : Program := PySem.Challenge.pw_hurryways_k30_whole_slack_of_ties
def top (i : Nat) : Stmt := pw.main.body.getD i (.Pass ⟨0, 0, 0, 0⟩)
theorem bt_abs : bootBuiltins ("abs" : Str) = some (.builtin "abs") := by kernel_rfl
theorem bt_all : bootBuiltins ("all" : Str) = some (.builtin "all") := by kernel_rfl
theorem bt_any : bootBuiltins ("any" : Str) = some (.builtin "any") := by kernel_rfl
theorem bt_bool : bootBuiltins ("bool" : Str) = some (.type "bool") := by kernel_rfl
theorem bt_int : bootBuiltins ("int" : Str) = some (.type "int") := by kernel_rfl
theorem bt_len : bootBuiltins ("len" : Str) = some (.builtin "len") := by kernel_rfl
theorem bt_max : bootBuiltins ("max" : Str) = some (.builtin "max") := by kernel_rfl
theorem bt_min : bootBuiltins ("min" : Str) = some (.builtin "min") := by kernel_rfl
theorem bt_repr : bootBuiltins ("repr" : Str) = some (.builtin "repr") := by kernel_rfl
theorem bt_set : bootBuiltins ("set" : Str) = some (.type "set") := by kernel_rfl
theorem bt_str : bootBuiltins ("str" : Str) = some (.type "str") := by kernel_rfl
theorem bt_tuple : bootBuiltins ("tuple" : Str) = some (.type "tuple") := by kernel_rfl
abbrev CS : List Str := ["Web", "Clock"]
abbrev S__law_dip : Stmt := top 45
theorem sc__law_dip : FnScope ["_law_jar_here", "_law_most", "_law_digit", "_law_seed"] ["_law_jar_here", "_law_most"] (defScope S__law_dip) := ⟨rfl, rfl, rfl, by decide +kernel, rfl, by decide +kernel, by decide +kernel⟩
def g__law_dip : M Fl := (sSeq (sSetIx 0 (cC (.int 2)) (cOp addD (cOp ixD (cVar 0) (cC (.int 2))) (cC (.int 1))))
  (sSeq (sIf (cTest (cOp gtD (cOp ixD (cVar 0) (cC (.int 0))) (cC (.int 0)))) (sSeq (sAsg 2 (cOp modD (cCB intFnD (cCons (cOp ixD (cVar 0) (cC (.int 0))) cNil)) (cVar 1)))
  (sSeq (sSetIx 0 (cC (.int 0)) (cOp fdivD (cCB intFnD (cCons (cOp ixD (cVar 0) (cC (.int 0))) cNil)) (cVar 1)))
  (sRet (cVar 2)))) sNx)
  (sSeq (sAsg 3 (cCB intFnD (cCons (cOp ixD (cVar 0) (cC (.int 1))) cNil)))
  (sSeq (sSetIx 0 (cC (.int 1)) (cOp modD (cCB intFnD (cCons (cOp addD (cOp addD (cOp mulD (cVar 3) (cC (.int 40692))) (cOp mulD (cOp ixD (cVar 0) (cC (.int 2))) (cC (.int 52021)))) (cC (.int 31))) cNil)) (cC (.int 2147483399))))
  (sRet (cOp modD (cCB intFnD (cCons (cOp fdivD (cOp ixD (cVar 0) (cC (.int 1))) (cC (.int 2048))) cNil)) (cVar 1)))))))
def F__law_dip : Fn := fnOf 4 2 g__law_dip
abbrev S__law_names : Stmt := top 47
theorem sc__law_names : FnScope ["_law_jar_here", "_law_most", "_law_pool", "_law_at"] ["_law_jar_here", "_law_most"] (defScope S__law_names) := ⟨rfl, rfl, rfl, by decide +kernel, rfl, by decide +kernel, by decide +kernel⟩
def g__law_names : M Fl := (sSeq (sAsg 2 (cLst (cCons (cC (.str "a")) (cCons (cC (.str "b")) (cCons (cC (.str "ab")) (cCons (cC (.str "hub")) (cCons (cC (.str "tie")) (cCons (cC (.str "places")) (cCons (cC (.str "zz")) (cCons (cC (.str "q")) (cCons (cC (.str "m")) (cCons (cC (.str "longname")) (cCons (cC (.str "x")) (cCons (cC (.str "y")) cNil))))))))))))))
  (sSeq (sAsg 3 (cCallJ F__law_dip (cCons (cVar 0) (cCons (cC (.int 12)) cNil))))
  (sRet (cSl (cOp addD (cSl (cVar 2) (cPart (cVar 3)) cNoPart) (cSl (cVar 2) cNoPart (cPart (cVar 3)))) cNoPart (cPart (cVar 1))))))
def F__law_names : Fn := fnOf 4 2 g__law_names
abbrev S__law_pick : Stmt := top 46
theorem sc__law_pick : FnScope ["_law_jar_here", "_law_menu", "_law_at"] ["_law_jar_here", "_law_menu"] (defScope S__law_pick) := ⟨rfl, rfl, rfl, by decide +kernel, rfl, by decide +kernel, by decide +kernel⟩
def g__law_pick : M Fl := (sSeq (sAsg 2 (cCallJ F__law_dip (cCons (cVar 0) (cCons (cCB lenD (cCons (cVar 1) cNil)) cNil))))
  (sRet (cOp ixD (cVar 1) (cVar 2))))
def F__law_pick : Fn := fnOf 3 2 g__law_pick
abbrev S__law_net : Stmt := top 48
theorem sc__law_net : FnScope ["_law_jar_here", "_law_least", "_law_most", "_law_links_most", "_law_spots", "_law_pairs", "_law_found", "_law_k", "_law_other_spot", "_law_many_links", "_law_turn", "_law_at"] ["_law_jar_here", "_law_least", "_law_most", "_law_links_most"] (defScope S__law_net) := ⟨rfl, rfl, rfl, by decide +kernel, rfl, by decide +kernel, by decide +kernel⟩
def b1__law_net : M Fl := (sAsg 5 (cOp addD (cVar 5) (cLc [8] (cIter (cSl (cVar 4) (cPart (cOp addD (cVar 7) (cC (.int 1)))) cNoPart)) (gN 8) tYs (cTup (cCons (cOp ixD (cVar 4) (cVar 7)) (cCons (cVar 8) cNil))))))
def b2__law_net : M Fl := (sSeq (sAsg 11 (cCallJ F__law_dip (cCons (cVar 0) (cCons (cCB lenD (cCons (cVar 5) cNil)) cNil))))
  (sSeq (sExpr (cApp 6 (cIf (cTest (cOp eqD (cCallJ F__law_dip (cCons (cVar 0) (cCons (cC (.int 2)) cNil))) (cC (.int 0)))) (cOp ixD (cVar 5) (cVar 11)) (cRevT (cOp ixD (cVar 5) (cVar 11))))))
  (sAsg 5 (cOp addD (cSl (cVar 5) cNoPart (cPart (cVar 11))) (cSl (cVar 5) (cPart (cOp addD (cVar 11) (cC (.int 1)))) cNoPart)))))
def g__law_net : M Fl := (sSeq (sAsg 4 (cCallJ F__law_names (cCons (cVar 0) (cCons (cOp addD (cVar 1) (cCallJ F__law_dip (cCons (cVar 0) (cCons (cOp addD (cOp subD (cVar 2) (cVar 1)) (cC (.int 1))) cNil)))) cNil))))
  (sSeq (sPar 5 6 (pV (cLst cNil)) (pN (fLst cNil)))
  (sSeq (sFor (cRange1 (cCons (cCB lenD (cCons (cVar 4) cNil)) cNil)) (gN 7) b1__law_net)
  (sSeq (sAsg 9 (cCB min2D (cCons (cVar 3) (cCons (cOp subD (cOp addD (cCB lenD (cCons (cVar 5) cNil)) (cC (.int 1))) (cCallJ F__law_dip (cCons (cVar 0) (cCons (cCallJ F__law_pick (cCons (cVar 0) (cCons (cLst (cCons (cC (.int 2)) (cCons (cC (.int 3)) (cCons (cCB lenD (cCons (cVar 5) cNil)) cNil)))) cNil))) cNil)))) cNil))))
  (sSeq (sFor (cRange1 (cCons (cCB min2D (cCons (cVar 9) (cCons (cCB lenD (cCons (cVar 5) cNil)) cNil))) cNil)) (gN 10) b2__law_net)
  (sRet (cTup (cCons (cCB tupleD (cCons (cVar 4) cNil)) (cCons (cCB tupleD (cCons (cVar 6) cNil)) cNil)))))))))
def F__law_net : Fn := fnOf 12 4 g__law_net
abbrev S__law_beats : Stmt := top 49
theorem sc__law_beats : FnScope ["_law_jar_here", "_law_net_here", "_law_most", "_law_great", "_law_link"] ["_law_jar_here", "_law_net_here"] (defScope S__law_beats) := ⟨rfl, rfl, rfl, by decide +kernel, rfl, by decide +kernel, by decide +kernel⟩
def g__law_beats : M Fl := (sSeq (sAsg 2 (cCallJ F__law_pick (cCons (cVar 0) (cCons (cLst (cCons (cC (.int 2)) (cCons (cC (.int 3)) (cCons (cC (.int 5)) (cCons (cC (.int 20)) cNil))))) cNil))))
  (sSeq (sAsg 3 (cIf (cTest (cOp eqD (cCallJ F__law_dip (cCons (cVar 0) (cCons (cC (.int 6)) cNil))) (cC (.int 0)))) (cOp powD (cC (.int 10)) (cC (.int 12))) (cC (.int 0))))
  (sRet (cCB tupleD (cCons (cLc [4] (cIter (cOp ixD (cVar 1) (cC (.int 1)))) (gN 4) tYs (cCB absD (cCons (cOp subD (cVar 3) (cCallJ F__law_dip (cCons (cVar 0) (cCons (cVar 2) cNil)))) cNil))) cNil)))))
def F__law_beats : Fn := fnOf 5 2 g__law_beats
abbrev S_check_web : Stmt := top 28
theorem sc_check_web : FnScope ["value"] ["value"] (defScope S_check_web) := ⟨rfl, rfl, rfl, by decide +kernel, rfl, by decide +kernel, by decide +kernel⟩
def g_check_web : M Fl := (sIf (cNot (cTru (cIsC CS "Web" (cVar 0)))) sBad sNx)
def F_check_web : Fn := fnOf 1 1 g_check_web
abbrev S_Web_ties : Stmt := (bodyOf (top 25)).getD 3 (.Pass ⟨0, 0, 0, 0⟩)
theorem sc_Web_ties : FnScope ["self"] ["self"] (defScope S_Web_ties) := ⟨rfl, rfl, rfl, by decide +kernel, rfl, by decide +kernel, by decide +kernel⟩
def g_Web_ties : M Fl := (sRet (cOp ixD (cFld ["Web"] "both" (cVar 0)) (cC (.int 1))))
def F_Web_ties : Fn := fnOf 1 1 g_Web_ties
abbrev S_is_count : Stmt := top 19
theorem sc_is_count : FnScope ["value"] ["value"] (defScope S_is_count) := ⟨rfl, rfl, rfl, by decide +kernel, rfl, by decide +kernel, by decide +kernel⟩
def g_is_count : M Fl := (sRet (cAndV (cIsT CS "int" (cVar 0)) (cAndV (cNotV (cIsT CS "bool" (cVar 0))) (cOp geD (cVar 0) (cC (.int 0))))))
def F_is_count : Fn := fnOf 1 1 g_is_count
abbrev S_is_time : Stmt := top 33
theorem sc_is_time : FnScope ["value"] ["value"] (defScope S_is_time) := ⟨rfl, rfl, rfl, by decide +kernel, rfl, by decide +kernel, by decide +kernel⟩
def g_is_time : M Fl := (sRet (cAndV (cCall F_is_count (cCons (cVar 0) cNil)) (cOp leD (cVar 0) (cC (.int 1000000000000)))))
def F_is_time : Fn := fnOf 1 1 g_is_time
abbrev S_check_times : Stmt := top 34
theorem sc_check_times : FnScope ["web", "times", "index"] ["web", "times"] (defScope S_check_times) := ⟨rfl, rfl, rfl, by decide +kernel, rfl, by decide +kernel, by decide +kernel⟩
def b1_check_times : M Fl := (sIf (cOr (cTest (cOp eqD (cVar 2) (cCB lenD (cCons (cProp "Web" F_Web_ties (cVar 0)) cNil)))) (cNot (cTru (cCall F_is_time (cCons (cOp ixD (cVar 1) (cVar 2)) cNil))))) sBad sNx)
def g_check_times : M Fl := (sSeq (sIf (cNot (cTru (cIsT CS "tuple" (cVar 1)))) sBad sNx)
  (sSeq (sFor (cRange1 (cCons (cCB lenD (cCons (cVar 1) cNil)) cNil)) (gN 2) b1_check_times)
  (sIf (cTest (cOp ltD (cCB lenD (cCons (cVar 1) cNil)) (cCB lenD (cCons (cProp "Web" F_Web_ties (cVar 0)) cNil)))) sBad sNx)))
def F_check_times : Fn := fnOf 3 2 g_check_times
abbrev S_Clock___init__ : Stmt := (bodyOf (top 35)).getD 0 (.Pass ⟨0, 0, 0, 0⟩)
theorem sc_Clock___init__ : FnScope ["self", "web", "times"] ["self", "web", "times"] (defScope S_Clock___init__) := ⟨rfl, rfl, rfl, by decide +kernel, rfl, by decide +kernel, by decide +kernel⟩
def g_Clock___init__ : M Fl := (sSeq (sExpr (cCall F_check_web (cCons (cVar 1) cNil)))
  (sSeq (sExpr (cCall F_check_times (cCons (cVar 1) (cCons (cVar 2) cNil))))
  (sFldSet ["Clock"] 0 "both" (cTup (cCons (cVar 1) (cCons (cVar 2) cNil))))))
def F_Clock___init__ : Fn := fnOf 3 3 g_Clock___init__
abbrev S_is_name : Stmt := top 18
theorem sc_is_name : FnScope ["value", "sign"] ["value"] (defScope S_is_name) := ⟨rfl, rfl, rfl, by decide +kernel, rfl, by decide +kernel, by decide +kernel⟩
def g_is_name : M Fl := (sRet (cAndV (cIsT CS "str" (cVar 0)) (cAndV (cChain ltD leD (cC (.int 0)) (cCB lenD (cCons (cVar 0) cNil)) (cC (.int 8))) (cCB allD (cCons (cLc [1] (cIter (cVar 0)) (gN 1) tYs (cOp inD (cVar 1) (cC (.str "abcdefghijklmnopqrstuvwxyz")))) cNil)))))
def F_is_name : Fn := fnOf 2 1 g_is_name
abbrev S_check_places : Stmt := top 21
theorem sc_check_places : FnScope ["places", "index"] ["places"] (defScope S_check_places) := ⟨rfl, rfl, rfl, by decide +kernel, rfl, by decide +kernel, by decide +kernel⟩
def b1_check_places : M Fl := (sIf (cOr (cTest (cOp eqD (cVar 1) (cC (.int 9)))) (cOr (cNot (cTru (cCall F_is_name (cCons (cOp ixD (cVar 0) (cVar 1)) cNil)))) (cTest (cOp inD (cOp ixD (cVar 0) (cVar 1)) (cSl (cVar 0) cNoPart (cPart (cVar 1))))))) sBad sNx)
def g_check_places : M Fl := (sSeq (sIf (cOr (cNot (cTru (cIsT CS "tuple" (cVar 0)))) (cTest (cOp ltD (cCB lenD (cCons (cVar 0) cNil)) (cC (.int 2))))) sBad sNx)
  (sFor (cRange1 (cCons (cCB lenD (cCons (cVar 0) cNil)) cNil)) (gN 1) b1_check_places))
def F_check_places : Fn := fnOf 2 1 g_check_places
abbrev S_is_pair : Stmt := top 20
theorem sc_is_pair : FnScope ["value"] ["value"] (defScope S_is_pair) := ⟨rfl, rfl, rfl, by decide +kernel, rfl, by decide +kernel, by decide +kernel⟩
def g_is_pair : M Fl := (sRet (cAndV (cIsT CS "tuple" (cVar 0)) (cOp eqD (cCB lenD (cCons (cVar 0) cNil)) (cC (.int 2)))))
def F_is_pair : Fn := fnOf 1 1 g_is_pair
abbrev S_is_tie : Stmt := top 22
theorem sc_is_tie : FnScope ["value", "places"] ["value", "places"] (defScope S_is_tie) := ⟨rfl, rfl, rfl, by decide +kernel, rfl, by decide +kernel, by decide +kernel⟩
def g_is_tie : M Fl := (sSeq (sIf (cOr (cNot (cTru (cCall F_is_pair (cCons (cVar 0) cNil)))) (cOr (cNot (cTru (cCall F_is_name (cCons (cOp ixD (cVar 0) (cC (.int 0))) cNil)))) (cNot (cTru (cCall F_is_name (cCons (cOp ixD (cVar 0) (cC (.int 1))) cNil)))))) (sRet (cC (.bl false))) sNx)
  (sRet (cAndV (cOp neD (cOp ixD (cVar 0) (cC (.int 0))) (cOp ixD (cVar 0) (cC (.int 1)))) (cAndV (cOp inD (cOp ixD (cVar 0) (cC (.int 0))) (cVar 1)) (cOp inD (cOp ixD (cVar 0) (cC (.int 1))) (cVar 1))))))
def F_is_tie : Fn := fnOf 2 2 g_is_tie
abbrev S_index_in : Stmt := top 24
theorem sc_index_in : FnScope ["ties", "one", "other", "index"] ["ties", "one", "other"] (defScope S_index_in) := ⟨rfl, rfl, rfl, by decide +kernel, rfl, by decide +kernel, by decide +kernel⟩
def b1_index_in : M Fl := (sIf (cTest (cOp inD (cOp ixD (cVar 0) (cVar 3)) (cTup (cCons (cTup (cCons (cVar 1) (cCons (cVar 2) cNil))) (cCons (cTup (cCons (cVar 2) (cCons (cVar 1) cNil))) cNil))))) (sRet (cVar 3)) sNx)
def g_index_in : M Fl := (sSeq (sFor (cRange1 (cCons (cCB lenD (cCons (cVar 0) cNil)) cNil)) (gN 3) b1_index_in)
  (sRet (cC .non)))
def F_index_in : Fn := fnOf 4 3 g_index_in
abbrev S_check_ties : Stmt := top 23
theorem sc_check_ties : FnScope ["ties", "places", "index"] ["ties", "places"] (defScope S_check_ties) := ⟨rfl, rfl, rfl, by decide +kernel, rfl, by decide +kernel, by decide +kernel⟩
def b1_check_ties : M Fl := (sSeq (sIf (cOr (cTest (cOp eqD (cVar 2) (cC (.int 16)))) (cNot (cTru (cCall F_is_tie (cCons (cOp ixD (cVar 0) (cVar 2)) (cCons (cVar 1) cNil)))))) sBad sNx)
  (sIf (cTest (cOp isNotD (cCall F_index_in (cCons (cSl (cVar 0) cNoPart (cPart (cVar 2))) (cCons (cOp ixD (cOp ixD (cVar 0) (cVar 2)) (cC (.int 0))) (cCons (cOp ixD (cOp ixD (cVar 0) (cVar 2)) (cC (.int 1))) cNil)))) (cC .non))) sBad sNx))
def g_check_ties : M Fl := (sSeq (sIf (cNot (cTru (cIsT CS "tuple" (cVar 0)))) sBad sNx)
  (sFor (cRange1 (cCons (cCB lenD (cCons (cVar 0) cNil)) cNil)) (gN 2) b1_check_ties))
def F_check_ties : Fn := fnOf 3 2 g_check_ties
abbrev S_Web___init__ : Stmt := (bodyOf (top 25)).getD 0 (.Pass ⟨0, 0, 0, 0⟩)
theorem sc_Web___init__ : FnScope ["self", "places", "ties"] ["self", "places", "ties"] (defScope S_Web___init__) := ⟨rfl, rfl, rfl, by decide +kernel, rfl, by decide +kernel, by decide +kernel⟩
def g_Web___init__ : M Fl := (sSeq (sExpr (cCall F_check_places (cCons (cVar 1) cNil)))
  (sSeq (sExpr (cCall F_check_ties (cCons (cVar 2) (cCons (cVar 1) cNil))))
  (sFldSet ["Web"] 0 "both" (cTup (cCons (cVar 1) (cCons (cVar 2) cNil))))))
def F_Web___init__ : Fn := fnOf 3 3 g_Web___init__
abbrev S__law_clock : Stmt := top 53
theorem sc__law_clock : FnScope ["_law_net_here", "_law_beats_here"] ["_law_net_here", "_law_beats_here"] (defScope S__law_clock) := ⟨rfl, rfl, rfl, by decide +kernel, rfl, by decide +kernel, by decide +kernel⟩
def g__law_clock : M Fl := (sRet (cMake "Clock" F_Clock___init__ (cCons (cMake "Web" F_Web___init__ (cCons (cOp ixD (cVar 0) (cC (.int 0))) (cCons (cOp ixD (cVar 0) (cC (.int 1))) cNil))) (cCons (cVar 1) cNil))))
def F__law_clock : Fn := fnOf 2 2 g__law_clock
abbrev S_check_clock : Stmt := top 36
theorem sc_check_clock : FnScope ["value"] ["value"] (defScope S_check_clock) := ⟨rfl, rfl, rfl, by decide +kernel, rfl, by decide +kernel, by decide +kernel⟩
def g_check_clock : M Fl := (sIf (cNot (cTru (cIsC CS "Clock" (cVar 0)))) sBad sNx)
def F_check_clock : Fn := fnOf 1 1 g_check_clock
abbrev S_check_index : Stmt := top 29
theorem sc_check_index : FnScope ["web", "index"] ["web", "index"] (defScope S_check_index) := ⟨rfl, rfl, rfl, by decide +kernel, rfl, by decide +kernel, by decide +kernel⟩
def g_check_index : M Fl := (sIf (cOr (cNot (cTru (cCall F_is_count (cCons (cVar 1) cNil)))) (cTest (cOp geD (cVar 1) (cCB lenD (cCons (cProp "Web" F_Web_ties (cVar 0)) cNil))))) sBad sNx)
def F_check_index : Fn := fnOf 2 2 g_check_index
abbrev S_Clock_web : Stmt := (bodyOf (top 35)).getD 2 (.Pass ⟨0, 0, 0, 0⟩)
theorem sc_Clock_web : FnScope ["self"] ["self"] (defScope S_Clock_web) := ⟨rfl, rfl, rfl, by decide +kernel, rfl, by decide +kernel, by decide +kernel⟩
def g_Clock_web : M Fl := (sRet (cOp ixD (cFld ["Clock"] "both" (cVar 0)) (cC (.int 0))))
def F_Clock_web : Fn := fnOf 1 1 g_Clock_web
abbrev S_touch : Stmt := top 40
theorem sc_touch : FnScope ["web", "one", "other", "place"] ["web", "one", "other"] (defScope S_touch) := ⟨rfl, rfl, rfl, by decide +kernel, rfl, by decide +kernel, by decide +kernel⟩
def g_touch : M Fl := (sRet (cAndV (cOp neD (cVar 1) (cVar 2)) (cCB anyD (cCons (cLc [3] (cIter (cOp ixD (cProp "Web" F_Web_ties (cVar 0)) (cVar 1))) (gN 3) tYs (cOp inD (cVar 3) (cOp ixD (cProp "Web" F_Web_ties (cVar 0)) (cVar 2)))) cNil))))
def F_touch : Fn := fnOf 4 3 g_touch
abbrev S_touching : Stmt := top 41
theorem sc_touching : FnScope ["web", "index", "other"] ["web", "index"] (defScope S_touching) := ⟨rfl, rfl, rfl, by decide +kernel, rfl, by decide +kernel, by decide +kernel⟩
def g_touching : M Fl := (sRet (cLc [2] (cRange1 (cCons (cCB lenD (cCons (cProp "Web" F_Web_ties (cVar 0)) cNil)) cNil)) (gN 2) (cTru (cCall F_touch (cCons (cVar 0) (cCons (cVar 1) (cCons (cVar 2) cNil))))) (cVar 2)))
def F_touching : Fn := fnOf 3 2 g_touching
abbrev S_Clock_times : Stmt := (bodyOf (top 35)).getD 3 (.Pass ⟨0, 0, 0, 0⟩)
theorem sc_Clock_times : FnScope ["self"] ["self"] (defScope S_Clock_times) := ⟨rfl, rfl, rfl, by decide +kernel, rfl, by decide +kernel, by decide +kernel⟩
def g_Clock_times : M Fl := (sRet (cOp ixD (cFld ["Clock"] "both" (cVar 0)) (cC (.int 1))))
def F_Clock_times : Fn := fnOf 1 1 g_Clock_times
abbrev S_slack : Stmt := top 42
theorem sc_slack : FnScope ["clock", "index", "time", "near", "other", "low", "each"] ["clock", "index"] (defScope S_slack) := ⟨rfl, rfl, rfl, by decide +kernel, rfl, by decide +kernel, by decide +kernel⟩
def g_slack : M Fl := (sSeq (sExpr (cCall F_check_clock (cCons (cVar 0) cNil)))
  (sSeq (sExpr (cCall F_check_index (cCons (cProp "Clock" F_Clock_web (cVar 0)) (cCons (cVar 1) cNil))))
  (sSeq (sAsgT (gT [(gN 2), (gN 3)]) (cTup (cCons (cOp ixD (cProp "Clock" F_Clock_times (cVar 0)) (cVar 1)) (cCons (cLc [4] (cIter (cCall F_touching (cCons (cProp "Clock" F_Clock_web (cVar 0)) (cCons (cVar 1) cNil)))) (gN 4) tYs (cOp ixD (cProp "Clock" F_Clock_times (cVar 0)) (cVar 4))) cNil))))
  (sSeq (sIf (cTest (cOp inD (cVar 2) (cVar 3))) (sRet (cTup (cCons (cVar 2) (cCons (cVar 2) cNil)))) sNx)
  (sSeq (sAsg 5 (cCB maxLD (cCons (cOp addD (cLst (cCons (cC (.int 0)) cNil)) (cLc [6] (cIter (cVar 3)) (gN 6) (cTest (cOp ltD (cVar 6) (cVar 2))) (cOp addD (cVar 6) (cC (.int 1))))) cNil)))
  (sRet (cTup (cCons (cVar 5) (cCons (cCB minLD (cCons (cOp addD (cLst (cCons (cC (.int 1000000000000)) cNil)) (cLc [6] (cIter (cVar 3)) (gN 6) (cTest (cOp gtD (cVar 6) (cVar 2))) (cOp subD (cVar 6) (cC (.int 1))))) cNil)) cNil)))))))))
def F_slack : Fn := fnOf 7 2 g_slack
abbrev S__law_is_int : Stmt := top 50
theorem sc__law_is_int : FnScope ["_law_value"] ["_law_value"] (defScope S__law_is_int) := ⟨rfl, rfl, rfl, by decide +kernel, rfl, by decide +kernel, by decide +kernel⟩
def g__law_is_int : M Fl := (sRet (cAndV (cIsT CS "int" (cVar 0)) (cNotV (cIsT CS "bool" (cVar 0)))))
def F__law_is_int : Fn := fnOf 1 1 g__law_is_int
abbrev S__law_touch : Stmt := top 51
theorem sc__law_touch : FnScope ["_law_net_here", "_law_found", "_law_k", "_law_m"] ["_law_net_here"] (defScope S__law_touch) := ⟨rfl, rfl, rfl, by decide +kernel, rfl, by decide +kernel, by decide +kernel⟩
def b1__law_touch : M Fl := (sAsg 1 (cOp addD (cVar 1) (cLc [3] (cRange2 (cCons (cOp addD (cVar 2) (cC (.int 1))) (cCons (cCB lenD (cCons (cOp ixD (cVar 0) (cC (.int 1))) cNil)) cNil))) (gN 3) (cTest (cOp eqD (cCB lenSetD (cCons (cOp addD (cOp ixD (cOp ixD (cVar 0) (cC (.int 1))) (cVar 2)) (cOp ixD (cOp ixD (cVar 0) (cC (.int 1))) (cVar 3))) cNil)) (cC (.int 3)))) (cTup (cCons (cVar 2) (cCons (cVar 3) cNil))))))
def g__law_touch : M Fl := (sSeq (sAsg 1 (cLst cNil))
  (sSeq (sFor (cRange1 (cCons (cCB lenD (cCons (cOp ixD (cVar 0) (cC (.int 1))) cNil)) cNil)) (gN 2) b1__law_touch)
  (sRet (cVar 1))))
def F__law_touch : Fn := fnOf 4 1 g__law_touch
abbrev S__law_stand : Stmt := top 52
theorem sc__law_stand : FnScope ["_law_net_here", "_law_beats_here", "_law_k", "_law_m"] ["_law_net_here", "_law_beats_here"] (defScope S__law_stand) := ⟨rfl, rfl, rfl, by decide +kernel, rfl, by decide +kernel, by decide +kernel⟩
def g__law_stand : M Fl := (sRet (cLc [2, 3] (cIter (cCall F__law_touch (cCons (cVar 0) cNil))) (gT [(gN 2), (gN 3)]) tYs (cOp subBD (cOp gtD (cOp ixD (cVar 1) (cVar 2)) (cOp ixD (cVar 1) (cVar 3))) (cOp ltD (cOp ixD (cVar 1) (cVar 2)) (cOp ixD (cVar 1) (cVar 3))))))
def F__law_stand : Fn := fnOf 4 2 g__law_stand
abbrev S__law_stays : Stmt := top 54
theorem sc__law_stays : FnScope ["_law_net_here", "_law_beats_here", "_law_at", "_law_moment"] ["_law_net_here", "_law_beats_here", "_law_at", "_law_moment"] (defScope S__law_stays) := ⟨rfl, rfl, rfl, by decide +kernel, rfl, by decide +kernel, by decide +kernel⟩
def g__law_stays : M Fl := (sRet (cOp eqD (cCall F__law_stand (cCons (cVar 0) (cCons (cOp addD (cOp addD (cSl (cVar 1) cNoPart (cPart (cVar 2))) (cTup (cCons (cVar 3) cNil))) (cSl (cVar 1) (cPart (cOp addD (cVar 2) (cC (.int 1)))) cNoPart)) cNil))) (cCall F__law_stand (cCons (cVar 0) (cCons (cVar 1) cNil)))))
def F__law_stays : Fn := fnOf 4 4 g__law_stays
abbrev S__law_tie_right : Stmt := top 55
theorem sc__law_tie_right : FnScope ["_law_net_here", "_law_beats_here", "_law_at", "_law_told", "_law_each", "_law_low", "_law_high", "_law_moment"] ["_law_net_here", "_law_beats_here", "_law_at", "_law_told"] (defScope S__law_tie_right) := ⟨rfl, rfl, rfl, by decide +kernel, rfl, by decide +kernel, by decide +kernel⟩
def g__law_tie_right : M Fl := (sSeq (sIf (cOr (cNot (cTru (cIsT CS "tuple" (cVar 3)))) (cOr (cTest (cOp neD (cCB lenD (cCons (cVar 3) cNil)) (cC (.int 2)))) (cNot (cTru (cCB allD (cCons (cLc [4] (cIter (cVar 3)) (gN 4) tYs (cCall F__law_is_int (cCons (cVar 4) cNil))) cNil)))))) (sRet (cC (.bl false))) sNx)
  (sSeq (sAsgT (gT [(gN 5), (gN 6)]) (cVar 3))
  (sSeq (sIf (cNot (cChainN (cC (.int 0)) (cLink leD (cVar 5) (cLink leD (cOp ixD (cVar 1) (cVar 2)) (cLink leD (cVar 6) (cLast leD (cOp powD (cC (.int 10)) (cC (.int 12))))))))) (sRet (cC (.bl false))) sNx)
  (sSeq (sIf (cNot (cTru (cCB allD (cCons (cLc [7] (cIter (cLst (cCons (cVar 5) (cCons (cVar 6) (cCons (cOp fdivD (cCB intFnD (cCons (cOp addD (cVar 5) (cVar 6)) cNil)) (cC (.int 2))) (cCons (cOp fdivD (cOp addD (cVar 5) (cOp ixD (cVar 1) (cVar 2))) (cC (.int 2))) cNil)))))) (gN 7) tYs (cCall F__law_stays (cCons (cVar 0) (cCons (cVar 1) (cCons (cVar 2) (cCons (cVar 7) cNil)))))) cNil)))) (sRet (cC (.bl false))) sNx)
  (sSeq (sIf (cAnd (cTest (cOp gtD (cVar 5) (cC (.int 0)))) (cTru (cCall F__law_stays (cCons (cVar 0) (cCons (cVar 1) (cCons (cVar 2) (cCons (cOp subD (cVar 5) (cC (.int 1))) cNil))))))) (sRet (cC (.bl false))) sNx)
  (sRet (cOrV (cOp eqD (cVar 6) (cOp powD (cC (.int 10)) (cC (.int 12)))) (cNotV (cCall F__law_stays (cCons (cVar 0) (cCons (cVar 1) (cCons (cVar 2) (cCons (cOp addD (cVar 6) (cC (.int 1))) cNil)))))))))))))
def F__law_tie_right : Fn := fnOf 8 4 g__law_tie_right
abbrev S__law_right : Stmt := top 56
theorem sc__law_right : FnScope ["_law_jar_here", "_law_turn", "_law_net_here", "_law_beats_here", "_law_mine", "_law_at", "_law_told"] ["_law_jar_here"] (defScope S__law_right) := ⟨rfl, rfl, rfl, by decide +kernel, rfl, by decide +kernel, by decide +kernel⟩
def b1__law_right : M Fl := (sSeq (sAsg 6 (cCall F_slack (cCons (cVar 4) (cCons (cVar 5) cNil))))
  (sIf (cOr (cNot (cTru (cCall F__law_tie_right (cCons (cVar 2) (cCons (cVar 3) (cCons (cVar 5) (cCons (cVar 6) cNil))))))) (cTest (cOp neD (cCB repr2D (cCons (cCallK F_slack 0 2 [1, 0] cNil (cCons (cVar 5) (cCons (cVar 4) cNil))) cNil)) (cCB repr2D (cCons (cVar 6) cNil))))) (sRet (cC (.bl false))) sNx))
def b2__law_right : M Fl := (sSeq (sAsg 2 (cCallJ F__law_net (cCons (cVar 0) (cCons (cC (.int 2)) (cCons (cC (.int 6)) (cCons (cC (.int 9)) cNil))))))
  (sSeq (sAsg 3 (cCallJ F__law_beats (cCons (cVar 0) (cCons (cVar 2) cNil))))
  (sSeq (sAsg 4 (cCall F__law_clock (cCons (cVar 2) (cCons (cVar 3) cNil))))
  (sFor (cRange1 (cCons (cCB lenD (cCons (cVar 3) cNil)) cNil)) (gN 5) b1__law_right))))
def g__law_right : M Fl := (sSeq (sFor (cRange1 (cCons (cC (.int 3)) cNil)) (gN 1) b2__law_right)
  (sRet (cC (.bl true))))
def F__law_right : Fn := fnOf 7 1 g__law_right
abbrev S__law_jar : Stmt := top 44
theorem sc__law_jar : FnScope ["_law_script", "_law_k", "_law_mixed", "_law_cell", "_law_own", "_law_digits"] ["_law_script", "_law_k"] (defScope S__law_jar) := ⟨rfl, rfl, rfl, by decide +kernel, rfl, by decide +kernel, by decide +kernel⟩
def b1__law_jar : M Fl := (sAsg 2 (cOp modD (cCB intFnD (cCons (cOp addD (cOp mulD (cVar 2) (cC (.int 733))) (cVar 3)) cNil)) (cC (.int 1000000009))))
def g__law_jar : M D := (nSeq (sAsg 2 (cOp addD (cOp mulD (cOp mulD (cC (.int 7369)) (cOp addD (cVar 1) (cC (.int 5)))) (cOp addD (cVar 1) (cC (.int 2)))) (cOp mulD (cC (.int 29)) (cCB lenD (cCons (cVar 0) cNil)))))
  (nSeq (sFor (cIter (cSl (cVar 0) cNoPart (cPart (cC (.int 4))))) (gN 3) b1__law_jar)
  (nSeq (sAsg 4 (cIf (cTest (cOp ltD (cVar 1) (cCB lenD (cCons (cVar 0) cNil)))) (cOp ixD (cVar 0) (cVar 1)) (cC (.int 0))))
  (nSeq (sAsg 5 (cIf (cOr (cTest (cOp ltD (cVar 4) (cC (.int 0)))) (cTest (cOp geD (cVar 4) (cOp powD (cC (.int 10)) (cC (.int 18)))))) (cCB absD (cCons (cVar 4) cNil)) (cC (.int 0))))
  (fLst (cCons (cVar 5) (cCons (cOp modD (cCB intFnD (cCons (cOp addD (cOp addD (cOp mulD (cVar 2) (cC (.int 8117))) (cOp mulD (cVar 4) (cC (.int 64013)))) (cOp mulD (cC (.int 105019)) (cOp addD (cVar 1) (cC (.int 1))))) cNil)) (cC (.int 2147483563))) (cCons (cC (.int 0)) cNil))))))))
def F__law_jar : Fn := newOf 6 2 g__law_jar
abbrev S_law : Stmt := top 57
theorem sc_law : FnScope ["_law_script", "_law_k"] ["_law_script"] (defScope S_law) := ⟨rfl, rfl, rfl, by decide +kernel, rfl, by decide +kernel, by decide +kernel⟩
def b1_law : M Fl := (sIf (cNot (cTru (cCallT F__law_right (nCall F__law_jar (cCons (cVar 0) (cCons (cVar 1) cNil)))))) (sRet (cC (.bl false))) sNx)
def g_law : M Fl := (sSeq (sFor (cRange1 (cCons (cCB max2D (cCons (cC (.int 2)) (cCons (cCB min2D (cCons (cCB lenD (cCons (cVar 0) cNil)) (cCons (cC (.int 5)) cNil))) cNil))) cNil)) (gN 1) b1_law)
  (sRet (cC (.bl true))))
def F_law : Fn := fnOf 2 1 g_law
structure Fx (K : PySem.W.Frag) (mg : Str → Option Value) (cl : Str → Addr) where
  n_abs : mg "abs" = none
  n_all : mg "all" = none
  n_any : mg "any" = none
  n_bool : mg "bool" = none
  n_int : mg "int" = none
  n_isinstance : mg "isinstance" = none
  n_len : mg "len" = none
  n_max : mg "max" = none
  n_min : mg "min" = none
  n_range : mg "range" = none
  n_repr : mg "repr" = none
  n_set : mg "set" = none
  n_str : mg "str" = none
  n_tuple : mg "tuple" = none
  i_LONGEST : ∃ t, mg "LONGEST" = some (.int 8 t)
  i_MOST_PLACES : ∃ t, mg "MOST_PLACES" = some (.int 9 t)
  i_MOST_TIES : ∃ t, mg "MOST_TIES" = some (.int 16 t)
  i_MOST_TIME : ∃ t, mg "MOST_TIME" = some (.int 1000000000000 t)
  s_SMALL : ∃ t, mg "SMALL" = some (.str "abcdefghijklmnopqrstuvwxyz" t)
  a__law_dip : Addr
  d__law_dip : FuncData
  F__law_dip : FunD K "_law_dip" "_law_dip" (defArgs S__law_dip) (defBody S__law_dip) (defScope S__law_dip) [] [] a__law_dip d__law_dip
  m__law_dip : mg "_law_dip" = some (.ref a__law_dip)
  a__law_names : Addr
  d__law_names : FuncData
  F__law_names : FunD K "_law_names" "_law_names" (defArgs S__law_names) (defBody S__law_names) (defScope S__law_names) [] [] a__law_names d__law_names
  m__law_names : mg "_law_names" = some (.ref a__law_names)
  a__law_pick : Addr
  d__law_pick : FuncData
  F__law_pick : FunD K "_law_pick" "_law_pick" (defArgs S__law_pick) (defBody S__law_pick) (defScope S__law_pick) [] [] a__law_pick d__law_pick
  m__law_pick : mg "_law_pick" = some (.ref a__law_pick)
  a__law_net : Addr
  d__law_net : FuncData
  F__law_net : FunD K "_law_net" "_law_net" (defArgs S__law_net) (defBody S__law_net) (defScope S__law_net) [] [] a__law_net d__law_net
  m__law_net : mg "_law_net" = some (.ref a__law_net)
  a__law_beats : Addr
  d__law_beats : FuncData
  F__law_beats : FunD K "_law_beats" "_law_beats" (defArgs S__law_beats) (defBody S__law_beats) (defScope S__law_beats) [] [] a__law_beats d__law_beats
  m__law_beats : mg "_law_beats" = some (.ref a__law_beats)
  a_check_web : Addr
  d_check_web : FuncData
  F_check_web : FunD K "check_web" "check_web" (defArgs S_check_web) (defBody S_check_web) (defScope S_check_web) [] [] a_check_web d_check_web
  m_check_web : mg "check_web" = some (.ref a_check_web)
  a_Web_ties : Addr
  d_Web_ties : FuncData
  F_Web_ties : FunD K "ties" "Web.ties" (defArgs S_Web_ties) (defBody S_Web_ties) (defScope S_Web_ties) [] [] a_Web_ties d_Web_ties
  a_is_count : Addr
  d_is_count : FuncData
  F_is_count : FunD K "is_count" "is_count" (defArgs S_is_count) (defBody S_is_count) (defScope S_is_count) [] [] a_is_count d_is_count
  m_is_count : mg "is_count" = some (.ref a_is_count)
  a_is_time : Addr
  d_is_time : FuncData
  F_is_time : FunD K "is_time" "is_time" (defArgs S_is_time) (defBody S_is_time) (defScope S_is_time) [] [] a_is_time d_is_time
  m_is_time : mg "is_time" = some (.ref a_is_time)
  a_check_times : Addr
  d_check_times : FuncData
  F_check_times : FunD K "check_times" "check_times" (defArgs S_check_times) (defBody S_check_times) (defScope S_check_times) [] [] a_check_times d_check_times
  m_check_times : mg "check_times" = some (.ref a_check_times)
  a_Clock___init__ : Addr
  d_Clock___init__ : FuncData
  F_Clock___init__ : FunD K "__init__" "Clock.__init__" (defArgs S_Clock___init__) (defBody S_Clock___init__) (defScope S_Clock___init__) [] [] a_Clock___init__ d_Clock___init__
  a_is_name : Addr
  d_is_name : FuncData
  F_is_name : FunD K "is_name" "is_name" (defArgs S_is_name) (defBody S_is_name) (defScope S_is_name) [] [] a_is_name d_is_name
  m_is_name : mg "is_name" = some (.ref a_is_name)
  a_check_places : Addr
  d_check_places : FuncData
  F_check_places : FunD K "check_places" "check_places" (defArgs S_check_places) (defBody S_check_places) (defScope S_check_places) [] [] a_check_places d_check_places
  m_check_places : mg "check_places" = some (.ref a_check_places)
  a_is_pair : Addr
  d_is_pair : FuncData
  F_is_pair : FunD K "is_pair" "is_pair" (defArgs S_is_pair) (defBody S_is_pair) (defScope S_is_pair) [] [] a_is_pair d_is_pair
  m_is_pair : mg "is_pair" = some (.ref a_is_pair)
  a_is_tie : Addr
  d_is_tie : FuncData
  F_is_tie : FunD K "is_tie" "is_tie" (defArgs S_is_tie) (defBody S_is_tie) (defScope S_is_tie) [] [] a_is_tie d_is_tie
  m_is_tie : mg "is_tie" = some (.ref a_is_tie)
  a_index_in : Addr
  d_index_in : FuncData
  F_index_in : FunD K "index_in" "index_in" (defArgs S_index_in) (defBody S_index_in) (defScope S_index_in) [] [] a_index_in d_index_in
  m_index_in : mg "index_in" = some (.ref a_index_in)
  a_check_ties : Addr
  d_check_ties : FuncData
  F_check_ties : FunD K "check_ties" "check_ties" (defArgs S_check_ties) (defBody S_check_ties) (defScope S_check_ties) [] [] a_check_ties d_check_ties
  m_check_ties : mg "check_ties" = some (.ref a_check_ties)
  a_Web___init__ : Addr
  d_Web___init__ : FuncData
  F_Web___init__ : FunD K "__init__" "Web.__init__" (defArgs S_Web___init__) (defBody S_Web___init__) (defScope S_Web___init__) [] [] a_Web___init__ d_Web___init__
  a__law_clock : Addr
  d__law_clock : FuncData
  F__law_clock : FunD K "_law_clock" "_law_clock" (defArgs S__law_clock) (defBody S__law_clock) (defScope S__law_clock) [] [] a__law_clock d__law_clock
  m__law_clock : mg "_law_clock" = some (.ref a__law_clock)
  a_check_clock : Addr
  d_check_clock : FuncData
  F_check_clock : FunD K "check_clock" "check_clock" (defArgs S_check_clock) (defBody S_check_clock) (defScope S_check_clock) [] [] a_check_clock d_check_clock
  m_check_clock : mg "check_clock" = some (.ref a_check_clock)
  a_check_index : Addr
  d_check_index : FuncData
  F_check_index : FunD K "check_index" "check_index" (defArgs S_check_index) (defBody S_check_index) (defScope S_check_index) [] [] a_check_index d_check_index
  m_check_index : mg "check_index" = some (.ref a_check_index)
  a_Clock_web : Addr
  d_Clock_web : FuncData
  F_Clock_web : FunD K "web" "Clock.web" (defArgs S_Clock_web) (defBody S_Clock_web) (defScope S_Clock_web) [] [] a_Clock_web d_Clock_web
  a_touch : Addr
  d_touch : FuncData
  F_touch : FunD K "touch" "touch" (defArgs S_touch) (defBody S_touch) (defScope S_touch) [] [] a_touch d_touch
  m_touch : mg "touch" = some (.ref a_touch)
  a_touching : Addr
  d_touching : FuncData
  F_touching : FunD K "touching" "touching" (defArgs S_touching) (defBody S_touching) (defScope S_touching) [] [] a_touching d_touching
  m_touching : mg "touching" = some (.ref a_touching)
  a_Clock_times : Addr
  d_Clock_times : FuncData
  F_Clock_times : FunD K "times" "Clock.times" (defArgs S_Clock_times) (defBody S_Clock_times) (defScope S_Clock_times) [] [] a_Clock_times d_Clock_times
  a_slack : Addr
  d_slack : FuncData
  F_slack : FunD K "slack" "slack" (defArgs S_slack) (defBody S_slack) (defScope S_slack) [] [] a_slack d_slack
  m_slack : mg "slack" = some (.ref a_slack)
  a__law_is_int : Addr
  d__law_is_int : FuncData
  F__law_is_int : FunD K "_law_is_int" "_law_is_int" (defArgs S__law_is_int) (defBody S__law_is_int) (defScope S__law_is_int) [] [] a__law_is_int d__law_is_int
  m__law_is_int : mg "_law_is_int" = some (.ref a__law_is_int)
  a__law_touch : Addr
  d__law_touch : FuncData
  F__law_touch : FunD K "_law_touch" "_law_touch" (defArgs S__law_touch) (defBody S__law_touch) (defScope S__law_touch) [] [] a__law_touch d__law_touch
  m__law_touch : mg "_law_touch" = some (.ref a__law_touch)
  a__law_stand : Addr
  d__law_stand : FuncData
  F__law_stand : FunD K "_law_stand" "_law_stand" (defArgs S__law_stand) (defBody S__law_stand) (defScope S__law_stand) [] [] a__law_stand d__law_stand
  m__law_stand : mg "_law_stand" = some (.ref a__law_stand)
  a__law_stays : Addr
  d__law_stays : FuncData
  F__law_stays : FunD K "_law_stays" "_law_stays" (defArgs S__law_stays) (defBody S__law_stays) (defScope S__law_stays) [] [] a__law_stays d__law_stays
  m__law_stays : mg "_law_stays" = some (.ref a__law_stays)
  a__law_tie_right : Addr
  d__law_tie_right : FuncData
  F__law_tie_right : FunD K "_law_tie_right" "_law_tie_right" (defArgs S__law_tie_right) (defBody S__law_tie_right) (defScope S__law_tie_right) [] [] a__law_tie_right d__law_tie_right
  m__law_tie_right : mg "_law_tie_right" = some (.ref a__law_tie_right)
  a__law_right : Addr
  d__law_right : FuncData
  F__law_right : FunD K "_law_right" "_law_right" (defArgs S__law_right) (defBody S__law_right) (defScope S__law_right) [] [] a__law_right d__law_right
  m__law_right : mg "_law_right" = some (.ref a__law_right)
  a__law_jar : Addr
  d__law_jar : FuncData
  F__law_jar : FunD K "_law_jar" "_law_jar" (defArgs S__law_jar) (defBody S__law_jar) (defScope S__law_jar) [] [] a__law_jar d__law_jar
  m__law_jar : mg "_law_jar" = some (.ref a__law_jar)
  a_law : Addr
  d_law : FuncData
  F_law : FunD K "law" "law" (defArgs S_law) (defBody S_law) (defScope S_law) [] [] a_law d_law
  m_law : mg "law" = some (.ref a_law)
  c_Clock : mg "Clock" = some (.ref (cl "Clock"))
  cls_Clock : Cls K (cl "Clock")
  c_Web : mg "Web" = some (.ref (cl "Web"))
  cls_Web : Cls K (cl "Web")
  mk_Clock : Mk K (cl "Clock") a_Clock___init__
  mk_Web : Mk K (cl "Web") a_Web___init__
  at_Clock_both : NoAttr K (cl "Clock") "both"
  at_Web_both : NoAttr K (cl "Web") "both"
  p_Clock_times : Addr
  pr_Clock_times : PropOf K (cl "Clock") "times" p_Clock_times a_Clock_times
  p_Clock_web : Addr
  pr_Clock_web : PropOf K (cl "Clock") "web" p_Clock_web a_Clock_web
  p_Web_ties : Addr
  pr_Web_ties : PropOf K (cl "Web") "ties" p_Web_ties a_Web_ties
  clsx : ClsX K cl CS
theorem bd__law_dip {K : PySem.W.Frag} {mg : Str → Option Value} {cl : Str → Addr} (T : Fx K mg cl) : Binds K T.d__law_dip ["_law_jar_here", "_law_most"] [] := T.F__law_dip.bindsN fun _ _ _ _ _ _ us hl => match us, hl with | [_, _], _ => rfl
theorem ok__law_dip {P : Program} {w : World} {K : PySem.W.Frag} {mg : Str → Option Value} {base : Heap} {cl : Str → Addr} (T : Fx K mg cl) : FnOk P w K mg base (L2.CX P w) 1 T.a__law_dip T.d__law_dip ["_law_jar_here", "_law_most"] (spD K cl F__law_dip) :=
  fn_D (k := 0) (N := ["_law_jar_here", "_law_most", "_law_digit", "_law_seed"]) (g := g__law_dip) T.F__law_dip sc__law_dip fun F cdv A outer s H E hr =>
    (rs_cons (rs_setIx 0 re_int (re_op od_add (re_ix (room1 hr) (re_v 0) re_int) re_int))
    (rs_cons (rs_if (rt_cmp od_gt (re_ix (room1 hr) (re_v 0) re_int) re_int (nomark _)) (rs_cons (rs_asg sc__law_dip.nd (re_op od_mod (re_callTy cd_int rfl T.n_int bt_int (ra_cons (re_ix (room1 hr) (re_v 0) re_int) ra_nil)) (re_v 1)))
    (rs_cons (rs_setIx 0 re_int (re_op od_fdiv (re_callTy cd_int rfl T.n_int bt_int (ra_cons (re_ix (room1 hr) (re_v 0) re_int) ra_nil)) (re_v 1)))
    (rs_one (rs_ret (re_v 2))))) rs_nil)
    (rs_cons (rs_asg sc__law_dip.nd (re_callTy cd_int rfl T.n_int bt_int (ra_cons (re_ix (room1 hr) (re_v 0) re_int) ra_nil)))
    (rs_cons (rs_setIx 0 re_int (re_op od_mod (re_callTy cd_int rfl T.n_int bt_int (ra_cons (re_op od_add (re_op od_add (re_op od_mul (re_v 3) re_int) (re_op od_mul (re_ix (room1 hr) (re_v 0) re_int) re_int)) re_int) ra_nil)) re_int))
    (rs_one (rs_ret (re_op od_mod (re_callTy cd_int rfl T.n_int bt_int (ra_cons (re_op od_fdiv (re_ix (room1 hr) (re_v 0) re_int) re_int) ra_nil)) (re_v 1))))))))
theorem bd__law_names {K : PySem.W.Frag} {mg : Str → Option Value} {cl : Str → Addr} (T : Fx K mg cl) : Binds K T.d__law_names ["_law_jar_here", "_law_most"] [] := T.F__law_names.bindsN fun _ _ _ _ _ _ us hl => match us, hl with | [_, _], _ => rfl
theorem ok__law_names {P : Program} {w : World} {K : PySem.W.Frag} {mg : Str → Option Value} {base : Heap} {cl : Str → Addr} (T : Fx K mg cl) : FnOk P w K mg base (L2.CX P w) 2 T.a__law_names T.d__law_names ["_law_jar_here", "_law_most"] (spD K cl F__law_names) :=
  fn_D (k := 1) (N := ["_law_jar_here", "_law_most", "_law_pool", "_law_at"]) (g := g__law_names) T.F__law_names sc__law_names fun F cdv A outer s H E hr =>
    (rs_cons (rs_asg sc__law_names.nd (re_lst (ra_cons re_str (ra_cons re_str (ra_cons re_str (ra_cons re_str (ra_cons re_str (ra_cons re_str (ra_cons re_str (ra_cons re_str (ra_cons re_str (ra_cons re_str (ra_cons re_str (ra_cons re_str ra_nil))))))))))))))
    (rs_cons (rs_asg sc__law_names.nd (re_callJ (ok__law_dip T) (hr.mono (by omega)) (takes_of rfl rfl rfl rfl) rfl T.m__law_dip T.F__law_dip.kp (bd__law_dip T) (ra_cons (re_v 0) (ra_cons re_int ra_nil))))
    (rs_one (rs_ret (re_sl (re_op od_add (re_sl (re_v 2) (ro_some (re_v 3)) ro_none) (re_sl (re_v 2) ro_none (ro_some (re_v 3)))) ro_none (ro_some (re_v 1)))))))
theorem bd__law_pick {K : PySem.W.Frag} {mg : Str → Option Value} {cl : Str → Addr} (T : Fx K mg cl) : Binds K T.d__law_pick ["_law_jar_here", "_law_menu"] [] := T.F__law_pick.bindsN fun _ _ _ _ _ _ us hl => match us, hl with | [_, _], _ => rfl
theorem ok__law_pick {P : Program} {w : World} {K : PySem.W.Frag} {mg : Str → Option Value} {base : Heap} {cl : Str → Addr} (T : Fx K mg cl) : FnOk P w K mg base (L2.CX P w) 2 T.a__law_pick T.d__law_pick ["_law_jar_here", "_law_menu"] (spD K cl F__law_pick) :=
  fn_D (k := 1) (N := ["_law_jar_here", "_law_menu", "_law_at"]) (g := g__law_pick) T.F__law_pick sc__law_pick fun F cdv A outer s H E hr =>
    (rs_cons (rs_asg sc__law_pick.nd (re_callJ (ok__law_dip T) (hr.mono (by omega)) (takes_of rfl rfl rfl rfl) rfl T.m__law_dip T.F__law_dip.kp (bd__law_dip T) (ra_cons (re_v 0) (ra_cons (re_callB cd_len rfl T.n_len bt_len (ra_cons (re_v 1) ra_nil)) ra_nil))))
    (rs_one (rs_ret (re_ix (room1 hr) (re_v 1) (re_v 2)))))
theorem bd__law_net {K : PySem.W.Frag} {mg : Str → Option Value} {cl : Str → Addr} (T : Fx K mg cl) : Binds K T.d__law_net ["_law_jar_here", "_law_least", "_law_most", "_law_links_most"] [] := T.F__law_net.bindsN fun _ _ _ _ _ _ us hl => match us, hl with | [_, _, _, _], _ => rfl
theorem ok__law_net {P : Program} {w : World} {K : PySem.W.Frag} {mg : Str → Option Value} {base : Heap} {cl : Str → Addr} (T : Fx K mg cl) : FnOk P w K mg base (L2.CX P w) 3 T.a__law_net T.d__law_net ["_law_jar_here", "_law_least", "_law_most", "_law_links_most"] (spD K cl F__law_net) :=
  fn_D (k := 2) (N := ["_law_jar_here", "_law_least", "_law_most", "_law_links_most", "_law_spots", "_law_pairs", "_law_found", "_law_k", "_law_other_spot", "_law_many_links", "_law_turn", "_law_at"]) (g := g__law_net) T.F__law_net sc__law_net fun F cdv A outer s H E hr =>
    (rs_cons (rs_asg sc__law_net.nd (re_callJ (ok__law_names T) (hr.mono (by omega)) (takes_of rfl rfl rfl rfl) rfl T.m__law_names T.F__law_names.kp (bd__law_names T) (ra_cons (re_v 0) (ra_cons (re_op od_add (re_v 1) (re_callJ (ok__law_dip T) (hr.mono (by omega)) (takes_of rfl rfl rfl rfl) rfl T.m__law_dip T.F__law_dip.kp (bd__law_dip T) (ra_cons (re_v 0) (ra_cons (re_op od_add (re_op od_sub (re_v 2) (re_v 1)) re_int) ra_nil)))) ra_nil))))
    (rs_cons (rs_par (i := 5) (j := 6) rfl sc__law_net.nd (rp_v (re_lst ra_nil)) (rp_n (rf_lst ra_nil)) (by rfl))
    (rs_cons (rs_for (passes_of rfl) rfl (ri_range1 rfl T.n_range (ra_cons (re_callB cd_len rfl T.n_len bt_len (ra_cons (re_v 4) ra_nil)) ra_nil)) (rg_n 7 sc__law_net.nd) (rs_one (rs_asg sc__law_net.nd (re_op od_add (re_v 5) (re_lc (own := [("_law_other_spot", 8)]) rfl sc__law_net.nd (ri_seq (re_sl (re_v 4) (ro_some (re_op od_add (re_v 7) re_int)) ro_none)) (blkOk_by (by kernel_rfl)) (fun _ _ _ _ _ => (rg_n 8 sc__law_net.nd)) (fun _ _ _ _ _ => rts_nil) (fun _ _ _ _ _ => (re_tup (ra_cons (re_ix (room1 hr) (re_v 4) (re_v 7)) (ra_cons (re_v 8) ra_nil)))))))))
    (rs_cons (rs_asg sc__law_net.nd (re_callB (cd_min2 rfl) rfl T.n_min bt_min (ra_cons (re_v 3) (ra_cons (re_op od_sub (re_op od_add (re_callB cd_len rfl T.n_len bt_len (ra_cons (re_v 5) ra_nil)) re_int) (re_callJ (ok__law_dip T) (hr.mono (by omega)) (takes_of rfl rfl rfl rfl) rfl T.m__law_dip T.F__law_dip.kp (bd__law_dip T) (ra_cons (re_v 0) (ra_cons (re_callJ (ok__law_pick T) (hr.mono (by omega)) (takes_of rfl rfl rfl rfl) rfl T.m__law_pick T.F__law_pick.kp (bd__law_pick T) (ra_cons (re_v 0) (ra_cons (re_lst (ra_cons re_int (ra_cons re_int (ra_cons (re_callB cd_len rfl T.n_len bt_len (ra_cons (re_v 5) ra_nil)) ra_nil)))) ra_nil))) ra_nil)))) ra_nil))))
    (rs_cons (rs_for (passes_of rfl) rfl (ri_range1 rfl T.n_range (ra_cons (re_callB (cd_min2 rfl) rfl T.n_min bt_min (ra_cons (re_v 9) (ra_cons (re_callB cd_len rfl T.n_len bt_len (ra_cons (re_v 5) ra_nil)) ra_nil))) ra_nil)) (rg_n 10 sc__law_net.nd) (rs_cons (rs_asg sc__law_net.nd (re_callJ (ok__law_dip T) (hr.mono (by omega)) (takes_of rfl rfl rfl rfl) rfl T.m__law_dip T.F__law_dip.kp (bd__law_dip T) (ra_cons (re_v 0) (ra_cons (re_callB cd_len rfl T.n_len bt_len (ra_cons (re_v 5) ra_nil)) ra_nil))))
    (rs_cons (rs_expr (re_app 6 (re_if (rt_cmp (od_eq (room64 hr)) (re_callJ (ok__law_dip T) (hr.mono (by omega)) (takes_of rfl rfl rfl rfl) rfl T.m__law_dip T.F__law_dip.kp (bd__law_dip T) (ra_cons (re_v 0) (ra_cons re_int ra_nil))) re_int (nomark _)) (re_ix (room1 hr) (re_v 5) (re_v 11)) (re_revT (re_ix (room1 hr) (re_v 5) (re_v 11))))))
    (rs_one (rs_asg sc__law_net.nd (re_op od_add (re_sl (re_v 5) ro_none (ro_some (re_v 11))) (re_sl (re_v 5) (ro_some (re_op od_add (re_v 11) re_int)) ro_none)))))))
    (rs_one (rs_ret (re_tup (ra_cons (re_callTy cd_tuple rfl T.n_tuple bt_tuple (ra_cons (re_v 4) ra_nil)) (ra_cons (re_callTy cd_tuple rfl T.n_tuple bt_tuple (ra_cons (re_v 6) ra_nil)) ra_nil))))))))))
theorem bd__law_beats {K : PySem.W.Frag} {mg : Str → Option Value} {cl : Str → Addr} (T : Fx K mg cl) : Binds K T.d__law_beats ["_law_jar_here", "_law_net_here"] [] := T.F__law_beats.bindsN fun _ _ _ _ _ _ us hl => match us, hl with | [_, _], _ => rfl
theorem ok__law_beats {P : Program} {w : World} {K : PySem.W.Frag} {mg : Str → Option Value} {base : Heap} {cl : Str → Addr} (T : Fx K mg cl) : FnOk P w K mg base (L2.CX P w) 3 T.a__law_beats T.d__law_beats ["_law_jar_here", "_law_net_here"] (spD K cl F__law_beats) :=
  fn_D (k := 2) (N := ["_law_jar_here", "_law_net_here", "_law_most", "_law_great", "_law_link"]) (g := g__law_beats) T.F__law_beats sc__law_beats fun F cdv A outer s H E hr =>
    (rs_cons (rs_asg sc__law_beats.nd (re_callJ (ok__law_pick T) (hr.mono (by omega)) (takes_of rfl rfl rfl rfl) rfl T.m__law_pick T.F__law_pick.kp (bd__law_pick T) (ra_cons (re_v 0) (ra_cons (re_lst (ra_cons re_int (ra_cons re_int (ra_cons re_int (ra_cons re_int ra_nil))))) ra_nil))))
    (rs_cons (rs_asg sc__law_beats.nd (re_if (rt_cmp (od_eq (room64 hr)) (re_callJ (ok__law_dip T) (hr.mono (by omega)) (takes_of rfl rfl rfl rfl) rfl T.m__law_dip T.F__law_dip.kp (bd__law_dip T) (ra_cons (re_v 0) (ra_cons re_int ra_nil))) re_int (nomark _)) (re_op od_pow re_int re_int) re_int))
    (rs_one (rs_ret (re_callTy cd_tuple rfl T.n_tuple bt_tuple (ra_cons (re_lc (own := [("_law_link", 4)]) rfl sc__law_beats.nd (ri_seq (re_ix (room1 hr) (re_v 1) re_int)) (blkOk_by (by kernel_rfl)) (fun _ _ _ _ _ => (rg_n 4 sc__law_beats.nd)) (fun _ _ _ _ _ => rts_nil) (fun _ _ _ _ _ => (re_callB cd_abs rfl T.n_abs bt_abs (ra_cons (re_op od_sub (re_v 3) (re_callJ (ok__law_dip T) (hr.mono (by omega)) takes0 rfl T.m__law_dip T.F__law_dip.kp (bd__law_dip T) (ra_cons (re_v 0) (ra_cons (re_v 2) ra_nil)))) ra_nil)))) ra_nil))))))
theorem bd_check_web {K : PySem.W.Frag} {mg : Str → Option Value} {cl : Str → Addr} (T : Fx K mg cl) : Binds K T.d_check_web ["value"] [] := T.F_check_web.bindsN fun _ _ _ _ _ _ us hl => match us, hl with | [_], _ => rfl
theorem ok_check_web {P : Program} {w : World} {K : PySem.W.Frag} {mg : Str → Option Value} {base : Heap} {cl : Str → Addr} (T : Fx K mg cl) : FnOk P w K mg base (L2.CX P w) 1 T.a_check_web T.d_check_web ["value"] (spD K cl F_check_web) :=
  fn_D (k := 0) (N := ["value"]) (g := g_check_web) T.F_check_web sc_check_web fun F cdv A outer s H E hr =>
    (rs_one (rs_if (rt_not (rt_tru (re_isC T.clsx (by decide) (re_v 0) rfl T.n_isinstance rfl T.c_Web))) (rs_one rs_never) rs_nil))
theorem bd_Web_ties {K : PySem.W.Frag} {mg : Str → Option Value} {cl : Str → Addr} (T : Fx K mg cl) : Binds K T.d_Web_ties ["self"] [] := T.F_Web_ties.bindsN fun _ _ _ _ _ _ us hl => match us, hl with | [_], _ => rfl
theorem ok_Web_ties {P : Program} {w : World} {K : PySem.W.Frag} {mg : Str → Option Value} {base : Heap} {cl : Str → Addr} (T : Fx K mg cl) : FnOk P w K mg base (L2.CX P w) 1 T.a_Web_ties T.d_Web_ties ["self"] (spD K cl F_Web_ties) :=
  fn_D (k := 0) (N := ["self"]) (g := g_Web_ties) T.F_Web_ties sc_Web_ties fun F cdv A outer s H E hr =>
    (rs_one (rs_ret (re_ix (room1 hr) (re_fld (fun c hc => by rw [List.mem_singleton.mp hc]; exact ⟨T.cls_Web, T.at_Web_both⟩) (re_v 0)) re_int)))
theorem nx_Web_ties : ∀ d x j, F_Web_ties [.dat d] [] ≠ .exn x j := nx_fn (g := g_Web_ties) (by unfold g_Web_ties; exact nx_ret (nx_op (nx_fld nx_var) nx_c))
theorem bd_is_count {K : PySem.W.Frag} {mg : Str → Option Value} {cl : Str → Addr} (T : Fx K mg cl) : Binds K T.d_is_count ["value"] [] := T.F_is_count.bindsN fun _ _ _ _ _ _ us hl => match us, hl with | [_], _ => rfl
theorem ok_is_count {P : Program} {w : World} {K : PySem.W.Frag} {mg : Str → Option Value} {base : Heap} {cl : Str → Addr} (T : Fx K mg cl) : FnOk P w K mg base (L2.CX P w) 1 T.a_is_count T.d_is_count ["value"] (spD K cl F_is_count) :=
  fn_D (k := 0) (N := ["value"]) (g := g_is_count) T.F_is_count sc_is_count fun F cdv A outer s H E hr =>
    (rs_one (rs_ret (re_and (re_isT T.clsx (re_v 0) rfl T.n_isinstance rfl T.n_int bt_int (by decide)) (re_and (re_not (re_isT T.clsx (re_v 0) rfl T.n_isinstance rfl T.n_bool bt_bool (by decide))) (re_one (re_cmp od_ge (re_v 0) re_int (nomark _)))))))
theorem bd_is_time {K : PySem.W.Frag} {mg : Str → Option Value} {cl : Str → Addr} (T : Fx K mg cl) : Binds K T.d_is_time ["value"] [] := T.F_is_time.bindsN fun _ _ _ _ _ _ us hl => match us, hl with | [_], _ => rfl
theorem ok_is_time {P : Program} {w : World} {K : PySem.W.Frag} {mg : Str → Option Value} {base : Heap} {cl : Str → Addr} (T : Fx K mg cl) : FnOk P w K mg base (L2.CX P w) 2 T.a_is_time T.d_is_time ["value"] (spD K cl F_is_time) :=
  fn_D (k := 1) (N := ["value"]) (g := g_is_time) T.F_is_time sc_is_time fun F cdv A outer s H E hr =>
    (rs_one (rs_ret (re_and (re_call (ok_is_count T) (hr.mono (by omega)) (takes_of rfl rfl rfl rfl) rfl T.m_is_count T.F_is_count.kp (bd_is_count T) (ra_cons (re_v 0) ra_nil)) (re_one (re_cmp od_le (re_v 0) (re_gint rfl T.i_MOST_TIME) (nomark _))))))
theorem bd_check_times {K : PySem.W.Frag} {mg : Str → Option Value} {cl : Str → Addr} (T : Fx K mg cl) : Binds K T.d_check_times ["web", "times"] [] := T.F_check_times.bindsN fun _ _ _ _ _ _ us hl => match us, hl with | [_, _], _ => rfl
theorem ok_check_times {P : Program} {w : World} {K : PySem.W.Frag} {mg : Str → Option Value} {base : Heap} {cl : Str → Addr} (T : Fx K mg cl) : FnOk P w K mg base (L2.CX P w) 3 T.a_check_times T.d_check_times ["web", "times"] (spD K cl F_check_times) :=
  fn_D (k := 2) (N := ["web", "times", "index"]) (g := g_check_times) T.F_check_times sc_check_times fun F cdv A outer s H E hr =>
    (rs_cons (rs_if (rt_not (rt_tru (re_isT T.clsx (re_v 1) rfl T.n_isinstance rfl T.n_tuple bt_tuple (by decide)))) (rs_one rs_never) rs_nil)
    (rs_cons (rs_for (passes_of rfl) rfl (ri_range1 rfl T.n_range (ra_cons (re_callB cd_len rfl T.n_len bt_len (ra_cons (re_v 1) ra_nil)) ra_nil)) (rg_n 2 sc_check_times.nd) (rs_one (rs_if (rt_w (rw_or (rt_cmp (od_eq (room64 hr)) (re_v 2) (re_callB cd_len rfl T.n_len bt_len (ra_cons (re_prop T.cls_Web T.pr_Web_ties (ok_Web_ties T) (hr.mono (by omega)) (bd_Web_ties T) nx_Web_ties (re_v 0)) ra_nil)) (nomark _)) (rw_or1 (rt_not (rt_tru (re_call (ok_is_time T) (hr.mono (by omega)) (takes_of rfl rfl rfl rfl) rfl T.m_is_time T.F_is_time.kp (bd_is_time T) (ra_cons (re_ix (room1 hr) (re_v 1) (re_v 2)) ra_nil))))))) (rs_one rs_never) rs_nil)))
    (rs_one (rs_if (rt_cmp od_lt (re_callB cd_len rfl T.n_len bt_len (ra_cons (re_v 1) ra_nil)) (re_callB cd_len rfl T.n_len bt_len (ra_cons (re_prop T.cls_Web T.pr_Web_ties (ok_Web_ties T) (hr.mono (by omega)) (bd_Web_ties T) nx_Web_ties (re_v 0)) ra_nil)) (nomark _)) (rs_one rs_never) rs_nil))))
theorem bd_Clock___init__ {K : PySem.W.Frag} {mg : Str → Option Value} {cl : Str → Addr} (T : Fx K mg cl) : Binds K T.d_Clock___init__ ["self", "web", "times"] [] := T.F_Clock___init__.bindsN fun _ _ _ _ _ _ us hl => match us, hl with | [_, _, _], _ => rfl
theorem ok_Clock___init__ {P : Program} {w : World} {K : PySem.W.Frag} {mg : Str → Option Value} {base : Heap} {cl : Str → Addr} (T : Fx K mg cl) : FnOk P w K mg base (L2.CX P w) 4 T.a_Clock___init__ T.d_Clock___init__ ["self", "web", "times"] (spD K cl F_Clock___init__) :=
  fn_D (k := 3) (N := ["self", "web", "times"]) (g := g_Clock___init__) T.F_Clock___init__ sc_Clock___init__ fun F cdv A outer s H E hr =>
    (rs_cons (rs_expr (re_call (ok_check_web T) (hr.mono (by omega)) (takes_of rfl rfl rfl rfl) rfl T.m_check_web T.F_check_web.kp (bd_check_web T) (ra_cons (re_v 1) ra_nil)))
    (rs_cons (rs_expr (re_call (ok_check_times T) (hr.mono (by omega)) (takes_of rfl rfl rfl rfl) rfl T.m_check_times T.F_check_times.kp (bd_check_times T) (ra_cons (re_v 1) (ra_cons (re_v 2) ra_nil))))
    (rs_one (rs_fld 0 (fun c hc => by rw [List.mem_singleton.mp hc]; exact ⟨T.cls_Clock, T.at_Clock_both⟩) (re_tup (ra_cons (re_v 1) (ra_cons (re_v 2) ra_nil)))))))
theorem bd_is_name {K : PySem.W.Frag} {mg : Str → Option Value} {cl : Str → Addr} (T : Fx K mg cl) : Binds K T.d_is_name ["value"] [] := T.F_is_name.bindsN fun _ _ _ _ _ _ us hl => match us, hl with | [_], _ => rfl
theorem ok_is_name {P : Program} {w : World} {K : PySem.W.Frag} {mg : Str → Option Value} {base : Heap} {cl : Str → Addr} (T : Fx K mg cl) : FnOk P w K mg base (L2.CX P w) 1 T.a_is_name T.d_is_name ["value"] (spD K cl F_is_name) :=
  fn_D (k := 0) (N := ["value", "sign"]) (g := g_is_name) T.F_is_name sc_is_name fun F cdv A outer s H E hr =>
    (rs_one (rs_ret (re_and (re_isT T.clsx (re_v 0) rfl T.n_isinstance rfl T.n_str bt_str (by decide)) (re_and (re_chain od_lt od_le re_int (re_callB cd_len rfl T.n_len bt_len (ra_cons (re_v 0) ra_nil)) (re_gint rfl T.i_LONGEST)) (re_one (re_callB (cd_all rfl) rfl T.n_all bt_all (ra_cons (re_lc (own := [("sign", 1)]) rfl sc_is_name.nd (ri_seq (re_v 0)) (blkOk_by (by kernel_rfl)) (fun _ _ _ _ _ => (rg_n 1 sc_is_name.nd)) (fun _ _ _ _ _ => rts_nil) (fun _ _ _ _ _ => (re_cmp (od_in (room65 hr)) (re_v 1) (re_gstr rfl T.s_SMALL) (by rfl)))) ra_nil)))))))
theorem bd_check_places {K : PySem.W.Frag} {mg : Str → Option Value} {cl : Str → Addr} (T : Fx K mg cl) : Binds K T.d_check_places ["places"] [] := T.F_check_places.bindsN fun _ _ _ _ _ _ us hl => match us, hl with | [_], _ => rfl
theorem ok_check_places {P : Program} {w : World} {K : PySem.W.Frag} {mg : Str → Option Value} {base : Heap} {cl : Str → Addr} (T : Fx K mg cl) : FnOk P w K mg base (L2.CX P w) 2 T.a_check_places T.d_check_places ["places"] (spD K cl F_check_places) :=
  fn_D (k := 1) (N := ["places", "index"]) (g := g_check_places) T.F_check_places sc_check_places fun F cdv A outer s H E hr =>
    (rs_cons (rs_if (rt_w (rw_or (rt_not (rt_tru (re_isT T.clsx (re_v 0) rfl T.n_isinstance rfl T.n_tuple bt_tuple (by decide)))) (rw_or1 (rt_cmp od_lt (re_callB cd_len rfl T.n_len bt_len (ra_cons (re_v 0) ra_nil)) re_int (nomark _))))) (rs_one rs_never) rs_nil)
    (rs_one (rs_for (passes_of rfl) rfl (ri_range1 rfl T.n_range (ra_cons (re_callB cd_len rfl T.n_len bt_len (ra_cons (re_v 0) ra_nil)) ra_nil)) (rg_n 1 sc_check_places.nd) (rs_one (rs_if (rt_w (rw_or (rt_cmp (od_eq (room64 hr)) (re_v 1) (re_gint rfl T.i_MOST_PLACES) (nomark _)) (rw_or (rt_not (rt_tru (re_call (ok_is_name T) (hr.mono (by omega)) (takes_of rfl rfl rfl rfl) rfl T.m_is_name T.F_is_name.kp (bd_is_name T) (ra_cons (re_ix (room1 hr) (re_v 0) (re_v 1)) ra_nil)))) (rw_or1 (rt_cmp (od_in (room65 hr)) (re_ix (room1 hr) (re_v 0) (re_v 1)) (re_sl (re_v 0) ro_none (ro_some (re_v 1))) (by rfl)))))) (rs_one rs_never) rs_nil)))))
theorem bd_is_pair {K : PySem.W.Frag} {mg : Str → Option Value} {cl : Str → Addr} (T : Fx K mg cl) : Binds K T.d_is_pair ["value"] [] := T.F_is_pair.bindsN fun _ _ _ _ _ _ us hl => match us, hl with | [_], _ => rfl
theorem ok_is_pair {P : Program} {w : World} {K : PySem.W.Frag} {mg : Str → Option Value} {base : Heap} {cl : Str → Addr} (T : Fx K mg cl) : FnOk P w K mg base (L2.CX P w) 1 T.a_is_pair T.d_is_pair ["value"] (spD K cl F_is_pair) :=
  fn_D (k := 0) (N := ["value"]) (g := g_is_pair) T.F_is_pair sc_is_pair fun F cdv A outer s H E hr =>
    (rs_one (rs_ret (re_and (re_isT T.clsx (re_v 0) rfl T.n_isinstance rfl T.n_tuple bt_tuple (by decide)) (re_one (re_cmp (od_eq (room64 hr)) (re_callB cd_len rfl T.n_len bt_len (ra_cons (re_v 0) ra_nil)) re_int (nomark _))))))
theorem bd_is_tie {K : PySem.W.Frag} {mg : Str → Option Value} {cl : Str → Addr} (T : Fx K mg cl) : Binds K T.d_is_tie ["value", "places"] [] := T.F_is_tie.bindsN fun _ _ _ _ _ _ us hl => match us, hl with | [_, _], _ => rfl
theorem ok_is_tie {P : Program} {w : World} {K : PySem.W.Frag} {mg : Str → Option Value} {base : Heap} {cl : Str → Addr} (T : Fx K mg cl) : FnOk P w K mg base (L2.CX P w) 2 T.a_is_tie T.d_is_tie ["value", "places"] (spD K cl F_is_tie) :=
  fn_D (k := 1) (N := ["value", "places"]) (g := g_is_tie) T.F_is_tie sc_is_tie fun F cdv A outer s H E hr =>
    (rs_cons (rs_if (rt_w (rw_or (rt_not (rt_tru (re_call (ok_is_pair T) (hr.mono (by omega)) (takes_of rfl rfl rfl rfl) rfl T.m_is_pair T.F_is_pair.kp (bd_is_pair T) (ra_cons (re_v 0) ra_nil)))) (rw_or (rt_not (rt_tru (re_call (ok_is_name T) (hr.mono (by omega)) (takes_of rfl rfl rfl rfl) rfl T.m_is_name T.F_is_name.kp (bd_is_name T) (ra_cons (re_ix (room1 hr) (re_v 0) re_int) ra_nil)))) (rw_or1 (rt_not (rt_tru (re_call (ok_is_name T) (hr.mono (by omega)) (takes_of rfl rfl rfl rfl) rfl T.m_is_name T.F_is_name.kp (bd_is_name T) (ra_cons (re_ix (room1 hr) (re_v 0) re_int) ra_nil)))))))) (rs_one (rs_ret re_bl)) rs_nil)
    (rs_one (rs_ret (re_and (re_cmp (od_ne (room64 hr)) (re_ix (room1 hr) (re_v 0) re_int) (re_ix (room1 hr) (re_v 0) re_int) (nomark _)) (re_and (re_cmp (od_in (room65 hr)) (re_ix (room1 hr) (re_v 0) re_int) (re_v 1) (by rfl)) (re_one (re_cmp (od_in (room65 hr)) (re_ix (room1 hr) (re_v 0) re_int) (re_v 1) (by rfl))))))))
theorem bd_index_in {K : PySem.W.Frag} {mg : Str → Option Value} {cl : Str → Addr} (T : Fx K mg cl) : Binds K T.d_index_in ["ties", "one", "other"] [] := T.F_index_in.bindsN fun _ _ _ _ _ _ us hl => match us, hl with | [_, _, _], _ => rfl
theorem ok_index_in {P : Program} {w : World} {K : PySem.W.Frag} {mg : Str → Option Value} {base : Heap} {cl : Str → Addr} (T : Fx K mg cl) : FnOk P w K mg base (L2.CX P w) 1 T.a_index_in T.d_index_in ["ties", "one", "other"] (spD K cl F_index_in) :=
  fn_D (k := 0) (N := ["ties", "one", "other", "index"]) (g := g_index_in) T.F_index_in sc_index_in fun F cdv A outer s H E hr =>
    (rs_cons (rs_for (passes_of rfl) rfl (ri_range1 rfl T.n_range (ra_cons (re_callB cd_len rfl T.n_len bt_len (ra_cons (re_v 0) ra_nil)) ra_nil)) (rg_n 3 sc_index_in.nd) (rs_one (rs_if (rt_cmp (od_in (room65 hr)) (re_ix (room1 hr) (re_v 0) (re_v 3)) (re_tup (ra_cons (re_tup (ra_cons (re_v 1) (ra_cons (re_v 2) ra_nil))) (ra_cons (re_tup (ra_cons (re_v 2) (ra_cons (re_v 1) ra_nil))) ra_nil))) (by rfl)) (rs_one (rs_ret (re_v 3))) rs_nil)))
    (rs_one (rs_ret re_non)))
theorem bd_check_ties {K : PySem.W.Frag} {mg : Str → Option Value} {cl : Str → Addr} (T : Fx K mg cl) : Binds K T.d_check_ties ["ties", "places"] [] := T.F_check_ties.bindsN fun _ _ _ _ _ _ us hl => match us, hl with | [_, _], _ => rfl
theorem ok_check_ties {P : Program} {w : World} {K : PySem.W.Frag} {mg : Str → Option Value} {base : Heap} {cl : Str → Addr} (T : Fx K mg cl) : FnOk P w K mg base (L2.CX P w) 3 T.a_check_ties T.d_check_ties ["ties", "places"] (spD K cl F_check_ties) :=
  fn_D (k := 2) (N := ["ties", "places", "index"]) (g := g_check_ties) T.F_check_ties sc_check_ties fun F cdv A outer s H E hr =>
    (rs_cons (rs_if (rt_not (rt_tru (re_isT T.clsx (re_v 0) rfl T.n_isinstance rfl T.n_tuple bt_tuple (by decide)))) (rs_one rs_never) rs_nil)
    (rs_one (rs_for (passes_of rfl) rfl (ri_range1 rfl T.n_range (ra_cons (re_callB cd_len rfl T.n_len bt_len (ra_cons (re_v 0) ra_nil)) ra_nil)) (rg_n 2 sc_check_ties.nd) (rs_cons (rs_if (rt_w (rw_or (rt_cmp (od_eq (room64 hr)) (re_v 2) (re_gint rfl T.i_MOST_TIES) (nomark _)) (rw_or1 (rt_not (rt_tru (re_call (ok_is_tie T) (hr.mono (by omega)) (takes_of rfl rfl rfl rfl) rfl T.m_is_tie T.F_is_tie.kp (bd_is_tie T) (ra_cons (re_ix (room1 hr) (re_v 0) (re_v 2)) (ra_cons (re_v 1) ra_nil)))))))) (rs_one rs_never) rs_nil)
    (rs_one (rs_if (rt_cmp od_isNot (re_call (ok_index_in T) (hr.mono (by omega)) (takes_of rfl rfl rfl rfl) rfl T.m_index_in T.F_index_in.kp (bd_index_in T) (ra_cons (re_sl (re_v 0) ro_none (ro_some (re_v 2))) (ra_cons (re_ix (room1 hr) (re_ix (room1 hr) (re_v 0) (re_v 2)) re_int) (ra_cons (re_ix (room1 hr) (re_ix (room1 hr) (re_v 0) (re_v 2)) re_int) ra_nil)))) re_non (nomark _)) (rs_one rs_never) rs_nil))))))
theorem bd_Web___init__ {K : PySem.W.Frag} {mg : Str → Option Value} {cl : Str → Addr} (T : Fx K mg cl) : Binds K T.d_Web___init__ ["self", "places", "ties"] [] := T.F_Web___init__.bindsN fun _ _ _ _ _ _ us hl => match us, hl with | [_, _, _], _ => rfl
theorem ok_Web___init__ {P : Program} {w : World} {K : PySem.W.Frag} {mg : Str → Option Value} {base : Heap} {cl : Str → Addr} (T : Fx K mg cl) : FnOk P w K mg base (L2.CX P w) 4 T.a_Web___init__ T.d_Web___init__ ["self", "places", "ties"] (spD K cl F_Web___init__) :=
  fn_D (k := 3) (N := ["self", "places", "ties"]) (g := g_Web___init__) T.F_Web___init__ sc_Web___init__ fun F cdv A outer s H E hr =>
    (rs_cons (rs_expr (re_call (ok_check_places T) (hr.mono (by omega)) (takes_of rfl rfl rfl rfl) rfl T.m_check_places T.F_check_places.kp (bd_check_places T) (ra_cons (re_v 1) ra_nil)))
    (rs_cons (rs_expr (re_call (ok_check_ties T) (hr.mono (by omega)) (takes_of rfl rfl rfl rfl) rfl T.m_check_ties T.F_check_ties.kp (bd_check_ties T) (ra_cons (re_v 2) (ra_cons (re_v 1) ra_nil))))
    (rs_one (rs_fld 0 (fun c hc => by rw [List.mem_singleton.mp hc]; exact ⟨T.cls_Web, T.at_Web_both⟩) (re_tup (ra_cons (re_v 1) (ra_cons (re_v 2) ra_nil)))))))
theorem bd__law_clock {K : PySem.W.Frag} {mg : Str → Option Value} {cl : Str → Addr} (T : Fx K mg cl) : Binds K T.d__law_clock ["_law_net_here", "_law_beats_here"] [] := T.F__law_clock.bindsN fun _ _ _ _ _ _ us hl => match us, hl with | [_, _], _ => rfl
theorem ok__law_clock {P : Program} {w : World} {K : PySem.W.Frag} {mg : Str → Option Value} {base : Heap} {cl : Str → Addr} (T : Fx K mg cl) : FnOk P w K mg base (L2.CX P w) 6 T.a__law_clock T.d__law_clock ["_law_net_here", "_law_beats_here"] (spD K cl F__law_clock) :=
  fn_D (k := 5) (N := ["_law_net_here", "_law_beats_here"]) (g := g__law_clock) T.F__law_clock sc__law_clock fun F cdv A outer s H E hr =>
    (rs_one (rs_ret (re_make T.mk_Clock (ok_Clock___init__ T) (hr.mono (by omega)) (takes_of rfl rfl rfl rfl) si0 rfl T.c_Clock (bd_Clock___init__ T) (ra_cons (re_make T.mk_Web (ok_Web___init__ T) (hr.mono (by omega)) (takes_of rfl rfl rfl rfl) si0 rfl T.c_Web (bd_Web___init__ T) (ra_cons (re_ix (room1 hr) (re_v 0) re_int) (ra_cons (re_ix (room1 hr) (re_v 0) re_int) ra_nil))) (ra_cons (re_v 1) ra_nil)))))
theorem bd_check_clock {K : PySem.W.Frag} {mg : Str → Option Value} {cl : Str → Addr} (T : Fx K mg cl) : Binds K T.d_check_clock ["value"] [] := T.F_check_clock.bindsN fun _ _ _ _ _ _ us hl => match us, hl with | [_], _ => rfl
theorem ok_check_clock {P : Program} {w : World} {K : PySem.W.Frag} {mg : Str → Option Value} {base : Heap} {cl : Str → Addr} (T : Fx K mg cl) : FnOk P w K mg base (L2.CX P w) 1 T.a_check_clock T.d_check_clock ["value"] (spD K cl F_check_clock) :=
  fn_D (k := 0) (N := ["value"]) (g := g_check_clock) T.F_check_clock sc_check_clock fun F cdv A outer s H E hr =>
    (rs_one (rs_if (rt_not (rt_tru (re_isC T.clsx (by decide) (re_v 0) rfl T.n_isinstance rfl T.c_Clock))) (rs_one rs_never) rs_nil))
theorem bd_check_index {K : PySem.W.Frag} {mg : Str → Option Value} {cl : Str → Addr} (T : Fx K mg cl) : Binds K T.d_check_index ["web", "index"] [] := T.F_check_index.bindsN fun _ _ _ _ _ _ us hl => match us, hl with | [_, _], _ => rfl
theorem ok_check_index {P : Program} {w : World} {K : PySem.W.Frag} {mg : Str → Option Value} {base : Heap} {cl : Str → Addr} (T : Fx K mg cl) : FnOk P w K mg base (L2.CX P w) 3 T.a_check_index T.d_check_index ["web", "index"] (spD K cl F_check_index) :=
  fn_D (k := 2) (N := ["web", "index"]) (g := g_check_index) T.F_check_index sc_check_index fun F cdv A outer s H E hr =>
    (rs_one (rs_if (rt_w (rw_or (rt_not (rt_tru (re_call (ok_is_count T) (hr.mono (by omega)) (takes_of rfl rfl rfl rfl) rfl T.m_is_count T.F_is_count.kp (bd_is_count T) (ra_cons (re_v 1) ra_nil)))) (rw_or1 (rt_cmp od_ge (re_v 1) (re_callB cd_len rfl T.n_len bt_len (ra_cons (re_prop T.cls_Web T.pr_Web_ties (ok_Web_ties T) (hr.mono (by omega)) (bd_Web_ties T) nx_Web_ties (re_v 0)) ra_nil)) (nomark _))))) (rs_one rs_never) rs_nil))
theorem bd_Clock_web {K : PySem.W.Frag} {mg : Str → Option Value} {cl : Str → Addr} (T : Fx K mg cl) : Binds K T.d_Clock_web ["self"] [] := T.F_Clock_web.bindsN fun _ _ _ _ _ _ us hl => match us, hl with | [_], _ => rfl
theorem ok_Clock_web {P : Program} {w : World} {K : PySem.W.Frag} {mg : Str → Option Value} {base : Heap} {cl : Str → Addr} (T : Fx K mg cl) : FnOk P w K mg base (L2.CX P w) 1 T.a_Clock_web T.d_Clock_web ["self"] (spD K cl F_Clock_web) :=
  fn_D (k := 0) (N := ["self"]) (g := g_Clock_web) T.F_Clock_web sc_Clock_web fun F cdv A outer s H E hr =>
    (rs_one (rs_ret (re_ix (room1 hr) (re_fld (fun c hc => by rw [List.mem_singleton.mp hc]; exact ⟨T.cls_Clock, T.at_Clock_both⟩) (re_v 0)) re_int)))
theorem nx_Clock_web : ∀ d x j, F_Clock_web [.dat d] [] ≠ .exn x j := nx_fn (g := g_Clock_web) (by unfold g_Clock_web; exact nx_ret (nx_op (nx_fld nx_var) nx_c))
theorem bd_touch {K : PySem.W.Frag} {mg : Str → Option Value} {cl : Str → Addr} (T : Fx K mg cl) : Binds K T.d_touch ["web", "one", "other"] [] := T.F_touch.bindsN fun _ _ _ _ _ _ us hl => match us, hl with | [_, _, _], _ => rfl
theorem ok_touch {P : Program} {w : World} {K : PySem.W.Frag} {mg : Str → Option Value} {base : Heap} {cl : Str → Addr} (T : Fx K mg cl) : FnOk P w K mg base (L2.CX P w) 3 T.a_touch T.d_touch ["web", "one", "other"] (spD K cl F_touch) :=
  fn_D (k := 2) (N := ["web", "one", "other", "place"]) (g := g_touch) T.F_touch sc_touch fun F cdv A outer s H E hr =>
    (rs_one (rs_ret (re_and (re_cmp (od_ne (room64 hr)) (re_v 1) (re_v 2) (nomark _)) (re_one (re_callB (cd_any rfl) rfl T.n_any bt_any (ra_cons (re_lc (own := [("place", 3)]) rfl sc_touch.nd (ri_seq (re_ix (room1 hr) (re_prop T.cls_Web T.pr_Web_ties (ok_Web_ties T) (hr.mono (by omega)) (bd_Web_ties T) nx_Web_ties (re_v 0)) (re_v 1))) (blkOk_by (by kernel_rfl)) (fun _ _ _ _ _ => (rg_n 3 sc_touch.nd)) (fun _ _ _ _ _ => rts_nil) (fun _ _ _ _ _ => (re_cmp (od_in (room65 hr)) (re_v 3) (re_ix (room1 hr) (re_prop T.cls_Web T.pr_Web_ties (ok_Web_ties T) (hr.mono (by omega)) (bd_Web_ties T) nx_Web_ties (re_v 0)) (re_v 2)) (by rfl)))) ra_nil))))))
theorem bd_touching {K : PySem.W.Frag} {mg : Str → Option Value} {cl : Str → Addr} (T : Fx K mg cl) : Binds K T.d_touching ["web", "index"] [] := T.F_touching.bindsN fun _ _ _ _ _ _ us hl => match us, hl with | [_, _], _ => rfl
theorem ok_touching {P : Program} {w : World} {K : PySem.W.Frag} {mg : Str → Option Value} {base : Heap} {cl : Str → Addr} (T : Fx K mg cl) : FnOk P w K mg base (L2.CX P w) 4 T.a_touching T.d_touching ["web", "index"] (spD K cl F_touching) :=
  fn_D (k := 3) (N := ["web", "index", "other"]) (g := g_touching) T.F_touching sc_touching fun F cdv A outer s H E hr =>
    (rs_one (rs_ret (re_lc (own := [("other", 2)]) rfl sc_touching.nd (ri_range1 rfl T.n_range (ra_cons (re_callB cd_len rfl T.n_len bt_len (ra_cons (re_prop T.cls_Web T.pr_Web_ties (ok_Web_ties T) (hr.mono (by omega)) (bd_Web_ties T) nx_Web_ties (re_v 0)) ra_nil)) ra_nil)) (blkOk_by (by kernel_rfl)) (fun _ _ _ _ _ => (rg_n 2 sc_touching.nd)) (fun _ _ _ _ _ => (rts_one (rt_tru (re_call (ok_touch T) (hr.mono (by omega)) takes0 rfl T.m_touch T.F_touch.kp (bd_touch T) (ra_cons (re_v 0) (ra_cons (re_v 1) (ra_cons (re_v 2) ra_nil))))))) (fun _ _ _ _ _ => (re_v 2)))))
theorem bd_Clock_times {K : PySem.W.Frag} {mg : Str → Option Value} {cl : Str → Addr} (T : Fx K mg cl) : Binds K T.d_Clock_times ["self"] [] := T.F_Clock_times.bindsN fun _ _ _ _ _ _ us hl => match us, hl with | [_], _ => rfl
theorem ok_Clock_times {P : Program} {w : World} {K : PySem.W.Frag} {mg : Str → Option Value} {base : Heap} {cl : Str → Addr} (T : Fx K mg cl) : FnOk P w K mg base (L2.CX P w) 1 T.a_Clock_times T.d_Clock_times ["self"] (spD K cl F_Clock_times) :=
  fn_D (k := 0) (N := ["self"]) (g := g_Clock_times) T.F_Clock_times sc_Clock_times fun F cdv A outer s H E hr =>
    (rs_one (rs_ret (re_ix (room1 hr) (re_fld (fun c hc => by rw [List.mem_singleton.mp hc]; exact ⟨T.cls_Clock, T.at_Clock_both⟩) (re_v 0)) re_int)))
theorem nx_Clock_times : ∀ d x j, F_Clock_times [.dat d] [] ≠ .exn x j := nx_fn (g := g_Clock_times) (by unfold g_Clock_times; exact nx_ret (nx_op (nx_fld nx_var) nx_c))
theorem bd_slack {K : PySem.W.Frag} {mg : Str → Option Value} {cl : Str → Addr} (T : Fx K mg cl) : Binds K T.d_slack ["clock", "index"] [] := T.F_slack.bindsN fun _ _ _ _ _ _ us hl => match us, hl with | [_, _], _ => rfl
theorem kb_slack_0_index_clock {K : PySem.W.Frag} {mg : Str → Option Value} {cl : Str → Addr} (T : Fx K mg cl) : KBp K T.d_slack ["clock", "index"] 0 ["index", "clock"] [1, 0] := kb_p T.F_slack 0 ["index", "clock"] [1, 0] fun _ _ _ _ _ _ us ws h1 h2 => match us, ws, h1, h2 with | [], [_, _], _, _ => rfl
theorem ok_slack {P : Program} {w : World} {K : PySem.W.Frag} {mg : Str → Option Value} {base : Heap} {cl : Str → Addr} (T : Fx K mg cl) : FnOk P w K mg base (L2.CX P w) 5 T.a_slack T.d_slack ["clock", "index"] (spD K cl F_slack) :=
  fn_D (k := 4) (N := ["clock", "index", "time", "near", "other", "low", "each"]) (g := g_slack) T.F_slack sc_slack fun F cdv A outer s H E hr =>
    (rs_cons (rs_expr (re_call (ok_check_clock T) (hr.mono (by omega)) (takes_of rfl rfl rfl rfl) rfl T.m_check_clock T.F_check_clock.kp (bd_check_clock T) (ra_cons (re_v 0) ra_nil)))
    (rs_cons (rs_expr (re_call (ok_check_index T) (hr.mono (by omega)) (takes_of rfl rfl rfl rfl) rfl T.m_check_index T.F_check_index.kp (bd_check_index T) (ra_cons (re_prop T.cls_Clock T.pr_Clock_web (ok_Clock_web T) (hr.mono (by omega)) (bd_Clock_web T) nx_Clock_web (re_v 0)) (ra_cons (re_v 1) ra_nil))))
    (rs_cons (rs_asgT (re_tup (ra_cons (re_ix (room1 hr) (re_prop T.cls_Clock T.pr_Clock_times (ok_Clock_times T) (hr.mono (by omega)) (bd_Clock_times T) nx_Clock_times (re_v 0)) (re_v 1)) (ra_cons (re_lc (own := [("other", 4)]) rfl sc_slack.nd (ri_seq (re_call (ok_touching T) (hr.mono (by omega)) (takes_of rfl rfl rfl rfl) rfl T.m_touching T.F_touching.kp (bd_touching T) (ra_cons (re_prop T.cls_Clock T.pr_Clock_web (ok_Clock_web T) (hr.mono (by omega)) (bd_Clock_web T) nx_Clock_web (re_v 0)) (ra_cons (re_v 1) ra_nil)))) (blkOk_by (by kernel_rfl)) (fun _ _ _ _ _ => (rg_n 4 sc_slack.nd)) (fun _ _ _ _ _ => rts_nil) (fun _ _ _ _ _ => (re_ix (room1 hr) (re_prop T.cls_Clock T.pr_Clock_times (ok_Clock_times T) (hr.mono (by omega)) (bd_Clock_times T) nx_Clock_times (re_v 0)) (re_v 4)))) ra_nil))) (rg_t rfl (rgs_cons (rg_n 2 sc_slack.nd) (rgs_cons (rg_n 3 sc_slack.nd) rgs_nil))))
    (rs_cons (rs_if (rt_cmp (od_in (room65 hr)) (re_v 2) (re_v 3) (by rfl)) (rs_one (rs_ret (re_tup (ra_cons (re_v 2) (ra_cons (re_v 2) ra_nil))))) rs_nil)
    (rs_cons (rs_asg sc_slack.nd (re_callB (cd_maxL rfl) rfl T.n_max bt_max (ra_cons (re_op od_add (re_lst (ra_cons re_int ra_nil)) (re_lc (own := [("each", 6)]) rfl sc_slack.nd (ri_seq (re_v 3)) (blkOk_by (by kernel_rfl)) (fun _ _ _ _ _ => (rg_n 6 sc_slack.nd)) (fun _ _ _ _ _ => (rts_one (rt_cmp od_lt (re_v 6) (re_v 2) (nomark _)))) (fun _ _ _ _ _ => (re_op od_add (re_v 6) re_int)))) ra_nil)))
    (rs_one (rs_ret (re_tup (ra_cons (re_v 5) (ra_cons (re_callB (cd_minL rfl) rfl T.n_min bt_min (ra_cons (re_op od_add (re_lst (ra_cons (re_gint rfl T.i_MOST_TIME) ra_nil)) (re_lc (own := [("each", 6)]) rfl sc_slack.nd (ri_seq (re_v 3)) (blkOk_by (by kernel_rfl)) (fun _ _ _ _ _ => (rg_n 6 sc_slack.nd)) (fun _ _ _ _ _ => (rts_one (rt_cmp od_gt (re_v 6) (re_v 2) (nomark _)))) (fun _ _ _ _ _ => (re_op od_sub (re_v 6) re_int)))) ra_nil)) ra_nil))))))))))
theorem bd__law_is_int {K : PySem.W.Frag} {mg : Str → Option Value} {cl : Str → Addr} (T : Fx K mg cl) : Binds K T.d__law_is_int ["_law_value"] [] := T.F__law_is_int.bindsN fun _ _ _ _ _ _ us hl => match us, hl with | [_], _ => rfl
theorem ok__law_is_int {P : Program} {w : World} {K : PySem.W.Frag} {mg : Str → Option Value} {base : Heap} {cl : Str → Addr} (T : Fx K mg cl) : FnOk P w K mg base (L2.CX P w) 1 T.a__law_is_int T.d__law_is_int ["_law_value"] (spD K cl F__law_is_int) :=
  fn_D (k := 0) (N := ["_law_value"]) (g := g__law_is_int) T.F__law_is_int sc__law_is_int fun F cdv A outer s H E hr =>
    (rs_one (rs_ret (re_and (re_isT T.clsx (re_v 0) rfl T.n_isinstance rfl T.n_int bt_int (by decide)) (re_one (re_not (re_isT T.clsx (re_v 0) rfl T.n_isinstance rfl T.n_bool bt_bool (by decide)))))))
theorem bd__law_touch {K : PySem.W.Frag} {mg : Str → Option Value} {cl : Str → Addr} (T : Fx K mg cl) : Binds K T.d__law_touch ["_law_net_here"] [] := T.F__law_touch.bindsN fun _ _ _ _ _ _ us hl => match us, hl with | [_], _ => rfl
theorem ok__law_touch {P : Program} {w : World} {K : PySem.W.Frag} {mg : Str → Option Value} {base : Heap} {cl : Str → Addr} (T : Fx K mg cl) : FnOk P w K mg base (L2.CX P w) 1 T.a__law_touch T.d__law_touch ["_law_net_here"] (spD K cl F__law_touch) :=
  fn_D (k := 0) (N := ["_law_net_here", "_law_found", "_law_k", "_law_m"]) (g := g__law_touch) T.F__law_touch sc__law_touch fun F cdv A outer s H E hr =>
    (rs_cons (rs_asg sc__law_touch.nd (re_lst ra_nil))
    (rs_cons (rs_for (passes_of rfl) rfl (ri_range1 rfl T.n_range (ra_cons (re_callB cd_len rfl T.n_len bt_len (ra_cons (re_ix (room1 hr) (re_v 0) re_int) ra_nil)) ra_nil)) (rg_n 2 sc__law_touch.nd) (rs_one (rs_asg sc__law_touch.nd (re_op od_add (re_v 1) (re_lc (own := [("_law_m", 3)]) rfl sc__law_touch.nd (ri_range2 rfl T.n_range (ra_cons (re_op od_add (re_v 2) re_int) (ra_cons (re_callB cd_len rfl T.n_len bt_len (ra_cons (re_ix (room1 hr) (re_v 0) re_int) ra_nil)) ra_nil))) (blkOk_by (by kernel_rfl)) (fun _ _ _ _ _ => (rg_n 3 sc__law_touch.nd)) (fun _ _ _ _ _ => (rts_one (rt_cmp (od_eq (room64 hr)) (re_lenSet rfl rfl T.n_len rfl T.n_set bt_len bt_set (ra_cons (re_op od_add (re_ix (room1 hr) (re_ix (room1 hr) (re_v 0) re_int) (re_v 2)) (re_ix (room1 hr) (re_ix (room1 hr) (re_v 0) re_int) (re_v 3))) ra_nil)) re_int (nomark _)))) (fun _ _ _ _ _ => (re_tup (ra_cons (re_v 2) (ra_cons (re_v 3) ra_nil)))))))))
    (rs_one (rs_ret (re_v 1)))))
theorem bd__law_stand {K : PySem.W.Frag} {mg : Str → Option Value} {cl : Str → Addr} (T : Fx K mg cl) : Binds K T.d__law_stand ["_law_net_here", "_law_beats_here"] [] := T.F__law_stand.bindsN fun _ _ _ _ _ _ us hl => match us, hl with | [_, _], _ => rfl
theorem ok__law_stand {P : Program} {w : World} {K : PySem.W.Frag} {mg : Str → Option Value} {base : Heap} {cl : Str → Addr} (T : Fx K mg cl) : FnOk P w K mg base (L2.CX P w) 2 T.a__law_stand T.d__law_stand ["_law_net_here", "_law_beats_here"] (spD K cl F__law_stand) :=
  fn_D (k := 1) (N := ["_law_net_here", "_law_beats_here", "_law_k", "_law_m"]) (g := g__law_stand) T.F__law_stand sc__law_stand fun F cdv A outer s H E hr =>
    (rs_one (rs_ret (re_lc (own := [("_law_k", 2), ("_law_m", 3)]) rfl sc__law_stand.nd (ri_seq (re_call (ok__law_touch T) (hr.mono (by omega)) (takes_of rfl rfl rfl rfl) rfl T.m__law_touch T.F__law_touch.kp (bd__law_touch T) (ra_cons (re_v 0) ra_nil))) (blkOk_by (by kernel_rfl)) (fun _ _ _ _ _ => (rg_t rfl (rgs_cons (rg_n 2 sc__law_stand.nd) (rgs_cons (rg_n 3 sc__law_stand.nd) rgs_nil)))) (fun _ _ _ _ _ => rts_nil) (fun _ _ _ _ _ => (re_op od_subB (re_cmp od_gt (re_ix (room1 hr) (re_v 1) (re_v 2)) (re_ix (room1 hr) (re_v 1) (re_v 3)) (nomark _)) (re_cmp od_lt (re_ix (room1 hr) (re_v 1) (re_v 2)) (re_ix (room1 hr) (re_v 1) (re_v 3)) (nomark _)))))))
theorem bd__law_stays {K : PySem.W.Frag} {mg : Str → Option Value} {cl : Str → Addr} (T : Fx K mg cl) : Binds K T.d__law_stays ["_law_net_here", "_law_beats_here", "_law_at", "_law_moment"] [] := T.F__law_stays.bindsN fun _ _ _ _ _ _ us hl => match us, hl with | [_, _, _, _], _ => rfl
theorem ok__law_stays {P : Program} {w : World} {K : PySem.W.Frag} {mg : Str → Option Value} {base : Heap} {cl : Str → Addr} (T : Fx K mg cl) : FnOk P w K mg base (L2.CX P w) 3 T.a__law_stays T.d__law_stays ["_law_net_here", "_law_beats_here", "_law_at", "_law_moment"] (spD K cl F__law_stays) :=
  fn_D (k := 2) (N := ["_law_net_here", "_law_beats_here", "_law_at", "_law_moment"]) (g := g__law_stays) T.F__law_stays sc__law_stays fun F cdv A outer s H E hr =>
    (rs_one (rs_ret (re_cmp (od_eq (room64 hr)) (re_call (ok__law_stand T) (hr.mono (by omega)) (takes_of rfl rfl rfl rfl) rfl T.m__law_stand T.F__law_stand.kp (bd__law_stand T) (ra_cons (re_v 0) (ra_cons (re_op od_add (re_op od_add (re_sl (re_v 1) ro_none (ro_some (re_v 2))) (re_tup (ra_cons (re_v 3) ra_nil))) (re_sl (re_v 1) (ro_some (re_op od_add (re_v 2) re_int)) ro_none)) ra_nil))) (re_call (ok__law_stand T) (hr.mono (by omega)) (takes_of rfl rfl rfl rfl) rfl T.m__law_stand T.F__law_stand.kp (bd__law_stand T) (ra_cons (re_v 0) (ra_cons (re_v 1) ra_nil))) (nomark _))))
theorem bd__law_tie_right {K : PySem.W.Frag} {mg : Str → Option Value} {cl : Str → Addr} (T : Fx K mg cl) : Binds K T.d__law_tie_right ["_law_net_here", "_law_beats_here", "_law_at", "_law_told"] [] := T.F__law_tie_right.bindsN fun _ _ _ _ _ _ us hl => match us, hl with | [_, _, _, _], _ => rfl
theorem ok__law_tie_right {P : Program} {w : World} {K : PySem.W.Frag} {mg : Str → Option Value} {base : Heap} {cl : Str → Addr} (T : Fx K mg cl) : FnOk P w K mg base (L2.CX P w) 4 T.a__law_tie_right T.d__law_tie_right ["_law_net_here", "_law_beats_here", "_law_at", "_law_told"] (spD K cl F__law_tie_right) :=
  fn_D (k := 3) (N := ["_law_net_here", "_law_beats_here", "_law_at", "_law_told", "_law_each", "_law_low", "_law_high", "_law_moment"]) (g := g__law_tie_right) T.F__law_tie_right sc__law_tie_right fun F cdv A outer s H E hr =>
    (rs_cons (rs_if (rt_w (rw_or (rt_not (rt_tru (re_isT T.clsx (re_v 3) rfl T.n_isinstance rfl T.n_tuple bt_tuple (by decide)))) (rw_or (rt_cmp (od_ne (room64 hr)) (re_callB cd_len rfl T.n_len bt_len (ra_cons (re_v 3) ra_nil)) re_int (nomark _)) (rw_or1 (rt_not (rt_tru (re_callB (cd_all rfl) rfl T.n_all bt_all (ra_cons (re_lc (own := [("_law_each", 4)]) rfl sc__law_tie_right.nd (ri_seq (re_v 3)) (blkOk_by (by kernel_rfl)) (fun _ _ _ _ _ => (rg_n 4 sc__law_tie_right.nd)) (fun _ _ _ _ _ => rts_nil) (fun _ _ _ _ _ => (re_call (ok__law_is_int T) (hr.mono (by omega)) takes0 rfl T.m__law_is_int T.F__law_is_int.kp (bd__law_is_int T) (ra_cons (re_v 4) ra_nil)))) ra_nil)))))))) (rs_one (rs_ret re_bl)) rs_nil)
    (rs_cons (rs_asgT (re_v 3) (rg_t rfl (rgs_cons (rg_n 5 sc__law_tie_right.nd) (rgs_cons (rg_n 6 sc__law_tie_right.nd) rgs_nil))))
    (rs_cons (rs_if (rt_not (rt_chainN re_int (rch_link od_le (re_v 5) (rch_link od_le (re_ix (room1 hr) (re_v 1) (re_v 2)) (rch_link od_le (re_v 6) (rch_last od_le (re_op od_pow re_int re_int))))))) (rs_one (rs_ret re_bl)) rs_nil)
    (rs_cons (rs_if (rt_not (rt_tru (re_callB (cd_all rfl) rfl T.n_all bt_all (ra_cons (re_lc (own := [("_law_moment", 7)]) rfl sc__law_tie_right.nd (ri_seq (re_lst (ra_cons (re_v 5) (ra_cons (re_v 6) (ra_cons (re_op od_fdiv (re_callTy cd_int rfl T.n_int bt_int (ra_cons (re_op od_add (re_v 5) (re_v 6)) ra_nil)) re_int) (ra_cons (re_op od_fdiv (re_op od_add (re_v 5) (re_ix (room1 hr) (re_v 1) (re_v 2))) re_int) ra_nil)))))) (blkOk_by (by kernel_rfl)) (fun _ _ _ _ _ => (rg_n 7 sc__law_tie_right.nd)) (fun _ _ _ _ _ => rts_nil) (fun _ _ _ _ _ => (re_call (ok__law_stays T) (hr.mono (by omega)) takes0 rfl T.m__law_stays T.F__law_stays.kp (bd__law_stays T) (ra_cons (re_v 0) (ra_cons (re_v 1) (ra_cons (re_v 2) (ra_cons (re_v 7) ra_nil))))))) ra_nil)))) (rs_one (rs_ret re_bl)) rs_nil)
    (rs_cons (rs_if (rt_w (rw_and (rt_cmp od_gt (re_v 5) re_int (nomark _)) (rw_and1 (rt_tru (re_call (ok__law_stays T) (hr.mono (by omega)) (takes_of rfl rfl rfl rfl) rfl T.m__law_stays T.F__law_stays.kp (bd__law_stays T) (ra_cons (re_v 0) (ra_cons (re_v 1) (ra_cons (re_v 2) (ra_cons (re_op od_sub (re_v 5) re_int) ra_nil))))))))) (rs_one (rs_ret re_bl)) rs_nil)
    (rs_one (rs_ret (re_or (re_cmp (od_eq (room64 hr)) (re_v 6) (re_op od_pow re_int re_int) (nomark _)) (re_one (re_not (re_call (ok__law_stays T) (hr.mono (by omega)) (takes_of rfl rfl rfl rfl) rfl T.m__law_stays T.F__law_stays.kp (bd__law_stays T) (ra_cons (re_v 0) (ra_cons (re_v 1) (ra_cons (re_v 2) (ra_cons (re_op od_add (re_v 6) re_int) ra_nil)))))))))))))))
theorem bd__law_right {K : PySem.W.Frag} {mg : Str → Option Value} {cl : Str → Addr} (T : Fx K mg cl) : Binds K T.d__law_right ["_law_jar_here"] [] := T.F__law_right.bindsN fun _ _ _ _ _ _ us hl => match us, hl with | [_], _ => rfl
theorem ok__law_right {P : Program} {w : World} {K : PySem.W.Frag} {mg : Str → Option Value} {base : Heap} {cl : Str → Addr} (T : Fx K mg cl) : FnG P w K mg base 7 T.a__law_right T.d__law_right ["_law_jar_here"] (spD K cl F__law_right) :=
  fnG_D (k := 6) (N := ["_law_jar_here", "_law_turn", "_law_net_here", "_law_beats_here", "_law_mine", "_law_at", "_law_told"]) (g := g__law_right) T.F__law_right sc__law_right fun F cdv A outer s H E hr hG =>
    (rs_cons (rs_for (passes_of rfl) rfl (ri_range1 rfl T.n_range (ra_cons re_int ra_nil)) (rg_n 1 sc__law_right.nd) (rs_cons (rs_asg sc__law_right.nd (re_callJ (ok__law_net T) (hr.mono (by omega)) (takes_of rfl rfl rfl rfl) rfl T.m__law_net T.F__law_net.kp (bd__law_net T) (ra_cons (re_v 0) (ra_cons re_int (ra_cons re_int (ra_cons re_int ra_nil))))))
    (rs_cons (rs_asg sc__law_right.nd (re_callJ (ok__law_beats T) (hr.mono (by omega)) (takes_of rfl rfl rfl rfl) rfl T.m__law_beats T.F__law_beats.kp (bd__law_beats T) (ra_cons (re_v 0) (ra_cons (re_v 2) ra_nil))))
    (rs_cons (rs_asg sc__law_right.nd (re_call (ok__law_clock T) (hr.mono (by omega)) (takes_of rfl rfl rfl rfl) rfl T.m__law_clock T.F__law_clock.kp (bd__law_clock T) (ra_cons (re_v 2) (ra_cons (re_v 3) ra_nil))))
    (rs_one (rs_for (passes_of rfl) rfl (ri_range1 rfl T.n_range (ra_cons (re_callB cd_len rfl T.n_len bt_len (ra_cons (re_v 3) ra_nil)) ra_nil)) (rg_n 5 sc__law_right.nd) (rs_cons (rs_asg sc__law_right.nd (re_call (ok_slack T) (hr.mono (by omega)) (takes_of rfl rfl rfl rfl) rfl T.m_slack T.F_slack.kp (bd_slack T) (ra_cons (re_v 4) (ra_cons (re_v 5) ra_nil))))
    (rs_one (rs_if (rt_w (rw_or (rt_not (rt_tru (re_call (ok__law_tie_right T) (hr.mono (by omega)) (takes_of rfl rfl rfl rfl) rfl T.m__law_tie_right T.F__law_tie_right.kp (bd__law_tie_right T) (ra_cons (re_v 2) (ra_cons (re_v 3) (ra_cons (re_v 5) (ra_cons (re_v 6) ra_nil))))))) (rw_or1 (rt_cmp (od_ne (room64 hr)) (re_callB (cd_repr2 hG (room64 hr)) rfl T.n_repr bt_repr (ra_cons (re_callK0 (ks := ["index", "clock"]) (ok_slack T) (hr.mono (by omega)) (takes_of rfl rfl rfl rfl) si0 rfl T.m_slack T.F_slack.kp (kb_slack_0_index_clock T) (rk_cons (re_v 5) (rk_cons (re_v 4) rk_nil))) ra_nil)) (re_callB (cd_repr2 hG (room64 hr)) rfl T.n_repr bt_repr (ra_cons (re_v 6) ra_nil)) (nomark _))))) (rs_one (rs_ret re_bl)) rs_nil)))))))))
    (rs_one (rs_ret re_bl)))
theorem bd__law_jar {K : PySem.W.Frag} {mg : Str → Option Value} {cl : Str → Addr} (T : Fx K mg cl) : Binds K T.d__law_jar ["_law_script", "_law_k"] [] := T.F__law_jar.bindsN fun _ _ _ _ _ _ us hl => match us, hl with | [_, _], _ => rfl
theorem ok__law_jar {P : Program} {w : World} {K : PySem.W.Frag} {mg : Str → Option Value} {base : Heap} {cl : Str → Addr} (T : Fx K mg cl) : FnOk P w K mg base (L2.CX P w) 1 T.a__law_jar T.d__law_jar ["_law_script", "_law_k"] (spN K cl F__law_jar) :=
  fn_N (k := 0) (N := ["_law_script", "_law_k", "_law_mixed", "_law_cell", "_law_own", "_law_digits"]) (g := g__law_jar) T.F__law_jar sc__law_jar fun F cdv A outer s H E hr =>
    (rn_cons (rs_asg sc__law_jar.nd (re_op od_add (re_op od_mul (re_op od_mul re_int (re_op od_add (re_v 1) re_int)) (re_op od_add (re_v 1) re_int)) (re_op od_mul re_int (re_callB cd_len rfl T.n_len bt_len (ra_cons (re_v 0) ra_nil)))))
    (rn_cons (rs_for (passes_of rfl) rfl (ri_seq (re_sl (re_v 0) ro_none (ro_some re_int))) (rg_n 3 sc__law_jar.nd) (rs_one (rs_asg sc__law_jar.nd (re_op od_mod (re_callTy cd_int rfl T.n_int bt_int (ra_cons (re_op od_add (re_op od_mul (re_v 2) re_int) (re_v 3)) ra_nil)) re_int))))
    (rn_cons (rs_asg sc__law_jar.nd (re_if (rt_cmp od_lt (re_v 1) (re_callB cd_len rfl T.n_len bt_len (ra_cons (re_v 0) ra_nil)) (nomark _)) (re_ix (room1 hr) (re_v 0) (re_v 1)) re_int))
    (rn_cons (rs_asg sc__law_jar.nd (re_if (rt_w (rw_or (rt_cmp od_lt (re_v 4) re_int (nomark _)) (rw_or1 (rt_cmp od_ge (re_v 4) (re_op od_pow re_int re_int) (nomark _))))) (re_callB cd_abs rfl T.n_abs bt_abs (ra_cons (re_v 4) ra_nil)) re_int))
    (rn_ret (rf_lst (ra_cons (re_v 5) (ra_cons (re_op od_mod (re_callTy cd_int rfl T.n_int bt_int (ra_cons (re_op od_add (re_op od_add (re_op od_mul (re_v 2) re_int) (re_op od_mul (re_v 4) re_int)) (re_op od_mul re_int (re_op od_add (re_v 1) re_int))) ra_nil)) re_int) (ra_cons re_int ra_nil)))))))))
theorem bd_law {K : PySem.W.Frag} {mg : Str → Option Value} {cl : Str → Addr} (T : Fx K mg cl) : Binds K T.d_law ["_law_script"] [] := T.F_law.bindsN fun _ _ _ _ _ _ us hl => match us, hl with | [_], _ => rfl
theorem ok_law {P : Program} {w : World} {K : PySem.W.Frag} {mg : Str → Option Value} {base : Heap} {cl : Str → Addr} (T : Fx K mg cl) : FnG P w K mg base 8 T.a_law T.d_law ["_law_script"] (spD K cl F_law) :=
  fnG_D (k := 7) (N := ["_law_script", "_law_k"]) (g := g_law) T.F_law sc_law fun F cdv A outer s H E hr hG =>
    (rs_cons (rs_for (passes_of rfl) rfl (ri_range1 rfl T.n_range (ra_cons (re_callB (cd_max2 rfl) rfl T.n_max bt_max (ra_cons re_int (ra_cons (re_callB (cd_min2 rfl) rfl T.n_min bt_min (ra_cons (re_callB cd_len rfl T.n_len bt_len (ra_cons (re_v 0) ra_nil)) (ra_cons re_int ra_nil))) ra_nil))) ra_nil)) (rg_n 1 sc_law.nd) (rs_one (rs_if (rt_not (rt_tru (re_callGT (ok__law_right T) hG (hr.mono (by omega)) (takes_of rfl rfl rfl rfl) rfl T.m__law_right T.F__law_right.kp (bd__law_right T) (rf_call (ok__law_jar T) (hr.mono (by omega)) (takes_of rfl rfl rfl rfl) rfl T.m__law_jar T.F__law_jar.kp (bd__law_jar T) (ra_cons (re_v 0) (ra_cons (re_v 1) ra_nil)))))) (rs_one (rs_ret re_bl)) rs_nil)))
    (rs_one (rs_ret re_bl)))
/-! the head -/
def fa : List He.Fa := [.free "abs", .free "all", .free "any", .free "bool", .free "int", .free "isinstance", .free "len", .free "max", .free "min", .free "range", .free "repr", .free "set", .free "str", .free "tuple", .int "LONGEST" 8, .int "MOST_PLACES" 9, .int "MOST_TIES" 16, .int "MOST_TIME" 1000000000000, .str "SMALL" "abcdefghijklmnopqrstuvwxyz", .glo "_law_dip", .glo "_law_names", .glo "_law_pick", .glo "_law_net", .glo "_law_beats", .glo "check_web", .glo "is_count", .glo "is_time", .glo "check_times", .glo "is_name", .glo "check_places", .glo "is_pair", .glo "is_tie", .glo "index_in", .glo "check_ties", .glo "_law_clock", .glo "check_clock", .glo "check_index", .glo "touch", .glo "touching", .glo "slack", .glo "_law_is_int", .glo "_law_touch", .glo "_law_stand", .glo "_law_stays", .glo "_law_tie_right", .glo "_law_right", .glo "_law_jar", .glo "law", .glo "Clock", .cls "Clock", .glo "Web", .cls "Web", .mkr "Clock", .mkr "Web", .noat "Clock" "both", .noat "Web" "both"]
def fc : List Fc := [.prp "Clock" "times", .prp "Clock" "web", .prp "Web" "ties", .ins "Web", .ins "Clock", .own "Web" "Web" true, .own "Web" "Clock" false, .own "Clock" "Web" false, .own "Clock" "Clock" true]
def e__law_dip : Df := ⟨.g "_law_dip", "_law_dip", "_law_dip", defArgs S__law_dip, defBody S__law_dip, defScope S__law_dip⟩
def e__law_names : Df := ⟨.g "_law_names", "_law_names", "_law_names", defArgs S__law_names, defBody S__law_names, defScope S__law_names⟩
def e__law_pick : Df := ⟨.g "_law_pick", "_law_pick", "_law_pick", defArgs S__law_pick, defBody S__law_pick, defScope S__law_pick⟩
def e__law_net : Df := ⟨.g "_law_net", "_law_net", "_law_net", defArgs S__law_net, defBody S__law_net, defScope S__law_net⟩
def e__law_beats : Df := ⟨.g "_law_beats", "_law_beats", "_law_beats", defArgs S__law_beats, defBody S__law_beats, defScope S__law_beats⟩
def e_check_web : Df := ⟨.g "check_web", "check_web", "check_web", defArgs S_check_web, defBody S_check_web, defScope S_check_web⟩
def e_Web_ties : Df := ⟨.p "Web" "ties", "ties", "Web.ties", defArgs S_Web_ties, defBody S_Web_ties, defScope S_Web_ties⟩
def e_is_count : Df := ⟨.g "is_count", "is_count", "is_count", defArgs S_is_count, defBody S_is_count, defScope S_is_count⟩
def e_is_time : Df := ⟨.g "is_time", "is_time", "is_time", defArgs S_is_time, defBody S_is_time, defScope S_is_time⟩
def e_check_times : Df := ⟨.g "check_times", "check_times", "check_times", defArgs S_check_times, defBody S_check_times, defScope S_check_times⟩
def e_Clock___init__ : Df := ⟨.m "Clock" "__init__", "__init__", "Clock.__init__", defArgs S_Clock___init__, defBody S_Clock___init__, defScope S_Clock___init__⟩
def e_is_name : Df := ⟨.g "is_name", "is_name", "is_name", defArgs S_is_name, defBody S_is_name, defScope S_is_name⟩
def e_check_places : Df := ⟨.g "check_places", "check_places", "check_places", defArgs S_check_places, defBody S_check_places, defScope S_check_places⟩
def e_is_pair : Df := ⟨.g "is_pair", "is_pair", "is_pair", defArgs S_is_pair, defBody S_is_pair, defScope S_is_pair⟩
def e_is_tie : Df := ⟨.g "is_tie", "is_tie", "is_tie", defArgs S_is_tie, defBody S_is_tie, defScope S_is_tie⟩
def e_index_in : Df := ⟨.g "index_in", "index_in", "index_in", defArgs S_index_in, defBody S_index_in, defScope S_index_in⟩
def e_check_ties : Df := ⟨.g "check_ties", "check_ties", "check_ties", defArgs S_check_ties, defBody S_check_ties, defScope S_check_ties⟩
def e_Web___init__ : Df := ⟨.m "Web" "__init__", "__init__", "Web.__init__", defArgs S_Web___init__, defBody S_Web___init__, defScope S_Web___init__⟩
def e__law_clock : Df := ⟨.g "_law_clock", "_law_clock", "_law_clock", defArgs S__law_clock, defBody S__law_clock, defScope S__law_clock⟩
def e_check_clock : Df := ⟨.g "check_clock", "check_clock", "check_clock", defArgs S_check_clock, defBody S_check_clock, defScope S_check_clock⟩
def e_check_index : Df := ⟨.g "check_index", "check_index", "check_index", defArgs S_check_index, defBody S_check_index, defScope S_check_index⟩
def e_Clock_web : Df := ⟨.p "Clock" "web", "web", "Clock.web", defArgs S_Clock_web, defBody S_Clock_web, defScope S_Clock_web⟩
def e_touch : Df := ⟨.g "touch", "touch", "touch", defArgs S_touch, defBody S_touch, defScope S_touch⟩
def e_touching : Df := ⟨.g "touching", "touching", "touching", defArgs S_touching, defBody S_touching, defScope S_touching⟩
def e_Clock_times : Df := ⟨.p "Clock" "times", "times", "Clock.times", defArgs S_Clock_times, defBody S_Clock_times, defScope S_Clock_times⟩
def e_slack : Df := ⟨.g "slack", "slack", "slack", defArgs S_slack, defBody S_slack, defScope S_slack⟩
def e__law_is_int : Df := ⟨.g "_law_is_int", "_law_is_int", "_law_is_int", defArgs S__law_is_int, defBody S__law_is_int, defScope S__law_is_int⟩
def e__law_touch : Df := ⟨.g "_law_touch", "_law_touch", "_law_touch", defArgs S__law_touch, defBody S__law_touch, defScope S__law_touch⟩
def e__law_stand : Df := ⟨.g "_law_stand", "_law_stand", "_law_stand", defArgs S__law_stand, defBody S__law_stand, defScope S__law_stand⟩
def e__law_stays : Df := ⟨.g "_law_stays", "_law_stays", "_law_stays", defArgs S__law_stays, defBody S__law_stays, defScope S__law_stays⟩
def e__law_tie_right : Df := ⟨.g "_law_tie_right", "_law_tie_right", "_law_tie_right", defArgs S__law_tie_right, defBody S__law_tie_right, defScope S__law_tie_right⟩
def e__law_right : Df := ⟨.g "_law_right", "_law_right", "_law_right", defArgs S__law_right, defBody S__law_right, defScope S__law_right⟩
def e__law_jar : Df := ⟨.g "_law_jar", "_law_jar", "_law_jar", defArgs S__law_jar, defBody S__law_jar, defScope S__law_jar⟩
def e_law : Df := ⟨.g "law", "law", "law", defArgs S_law, defBody S_law, defScope S_law⟩
def fn : List Df := [e__law_dip, e__law_names, e__law_pick, e__law_net, e__law_beats, e_check_web, e_Web_ties, e_is_count, e_is_time, e_check_times, e_Clock___init__, e_is_name, e_check_places, e_is_pair, e_is_tie, e_index_in, e_check_ties, e_Web___init__, e__law_clock, e_check_clock, e_check_index, e_Clock_web, e_touch, e_touching, e_Clock_times, e_slack, e__law_is_int, e__law_touch, e__law_stand, e__law_stays, e__law_tie_right, e__law_right, e__law_jar, e_law]
abbrev R : PySem.W.OpenRow := PySem.W.OpenLaw.row PySem.Challenge.rw_hurryways_k30_whole_slack_of_ties
abbrev hk : PySem.W.Hook := hookX 5 fa fc fn
def ob (s : PySem.W.SharedT) : AlX := obsXG 5 fa fc fn (HandSHeadRun.getT s)
theorem ob_eq (s : PySem.W.SharedT) : ob s = hk.obs s.abs := obsXG_eq (HandSHeadRun.getT_eq s)
def clK (K : PySem.W.Frag) (c : Str) : Addr := He.ga K c
theorem facts {K : PySem.W.Frag} {h : Heap} {mg : Str → Option Value} (KX : K.In h) (G : h.Ns mainGlobals mg) (c : SaysX fa fc fn K) : ∃ T : Fx K mg (clK K), T.a_law = He.ga K "law" := by
  obtain ⟨d0, f0⟩ := c.df 0 (d := e__law_dip) rfl
  obtain ⟨d1, f1⟩ := c.df 1 (d := e__law_names) rfl
  obtain ⟨d2, f2⟩ := c.df 2 (d := e__law_pick) rfl
  obtain ⟨d3, f3⟩ := c.df 3 (d := e__law_net) rfl
  obtain ⟨d4, f4⟩ := c.df 4 (d := e__law_beats) rfl
  obtain ⟨d5, f5⟩ := c.df 5 (d := e_check_web) rfl
  obtain ⟨d6, f6⟩ := c.df 6 (d := e_Web_ties) rfl
  obtain ⟨d7, f7⟩ := c.df 7 (d := e_is_count) rfl
  obtain ⟨d8, f8⟩ := c.df 8 (d := e_is_time) rfl
  obtain ⟨d9, f9⟩ := c.df 9 (d := e_check_times) rfl
  obtain ⟨d10, f10⟩ := c.df 10 (d := e_Clock___init__) rfl
  obtain ⟨d11, f11⟩ := c.df 11 (d := e_is_name) rfl
  obtain ⟨d12, f12⟩ := c.df 12 (d := e_check_places) rfl
  obtain ⟨d13, f13⟩ := c.df 13 (d := e_is_pair) rfl
  obtain ⟨d14, f14⟩ := c.df 14 (d := e_is_tie) rfl
  obtain ⟨d15, f15⟩ := c.df 15 (d := e_index_in) rfl
  obtain ⟨d16, f16⟩ := c.df 16 (d := e_check_ties) rfl
  obtain ⟨d17, f17⟩ := c.df 17 (d := e_Web___init__) rfl
  obtain ⟨d18, f18⟩ := c.df 18 (d := e__law_clock) rfl
  obtain ⟨d19, f19⟩ := c.df 19 (d := e_check_clock) rfl
  obtain ⟨d20, f20⟩ := c.df 20 (d := e_check_index) rfl
  obtain ⟨d21, f21⟩ := c.df 21 (d := e_Clock_web) rfl
  obtain ⟨d22, f22⟩ := c.df 22 (d := e_touch) rfl
  obtain ⟨d23, f23⟩ := c.df 23 (d := e_touching) rfl
  obtain ⟨d24, f24⟩ := c.df 24 (d := e_Clock_times) rfl
  obtain ⟨d25, f25⟩ := c.df 25 (d := e_slack) rfl
  obtain ⟨d26, f26⟩ := c.df 26 (d := e__law_is_int) rfl
  obtain ⟨d27, f27⟩ := c.df 27 (d := e__law_touch) rfl
  obtain ⟨d28, f28⟩ := c.df 28 (d := e__law_stand) rfl
  obtain ⟨d29, f29⟩ := c.df 29 (d := e__law_stays) rfl
  obtain ⟨d30, f30⟩ := c.df 30 (d := e__law_tie_right) rfl
  obtain ⟨d31, f31⟩ := c.df 31 (d := e__law_right) rfl
  obtain ⟨d32, f32⟩ := c.df 32 (d := e__law_jar) rfl
  obtain ⟨d33, f33⟩ := c.df 33 (d := e_law) rfl
  have cls_Clock := He.cls_ok (c.fact 49 rfl)
  have cls_Web := He.cls_ok (c.fact 51 rfl)
  exact ⟨{ n_abs := He.free_ok KX G (c.fact 0 rfl), n_all := He.free_ok KX G (c.fact 1 rfl), n_any := He.free_ok KX G (c.fact 2 rfl), n_bool := He.free_ok KX G (c.fact 3 rfl), n_int := He.free_ok KX G (c.fact 4 rfl), n_isinstance := He.free_ok KX G (c.fact 5 rfl), n_len := He.free_ok KX G (c.fact 6 rfl), n_max := He.free_ok KX G (c.fact 7 rfl), n_min := He.free_ok KX G (c.fact 8 rfl), n_range := He.free_ok KX G (c.fact 9 rfl), n_repr := He.free_ok KX G (c.fact 10 rfl), n_set := He.free_ok KX G (c.fact 11 rfl), n_str := He.free_ok KX G (c.fact 12 rfl), n_tuple := He.free_ok KX G (c.fact 13 rfl), i_LONGEST := He.int_ok KX G (c.fact 14 rfl), i_MOST_PLACES := He.int_ok KX G (c.fact 15 rfl), i_MOST_TIES := He.int_ok KX G (c.fact 16 rfl), i_MOST_TIME := He.int_ok KX G (c.fact 17 rfl), s_SMALL := He.str_ok KX G (c.fact 18 rfl), a__law_dip := _, d__law_dip := d0, F__law_dip := f0, m__law_dip := He.glo_ok KX G (c.fact 19 rfl), a__law_names := _, d__law_names := d1, F__law_names := f1, m__law_names := He.glo_ok KX G (c.fact 20 rfl), a__law_pick := _, d__law_pick := d2, F__law_pick := f2, m__law_pick := He.glo_ok KX G (c.fact 21 rfl), a__law_net := _, d__law_net := d3, F__law_net := f3, m__law_net := He.glo_ok KX G (c.fact 22 rfl), a__law_beats := _, d__law_beats := d4, F__law_beats := f4, m__law_beats := He.glo_ok KX G (c.fact 23 rfl), a_check_web := _, d_check_web := d5, F_check_web := f5, m_check_web := He.glo_ok KX G (c.fact 24 rfl), a_Web_ties := _, d_Web_ties := d6, F_Web_ties := f6, a_is_count := _, d_is_count := d7, F_is_count := f7, m_is_count := He.glo_ok KX G (c.fact 25 rfl), a_is_time := _, d_is_time := d8, F_is_time := f8, m_is_time := He.glo_ok KX G (c.fact 26 rfl), a_check_times := _, d_check_times := d9, F_check_times := f9, m_check_times := He.glo_ok KX G (c.fact 27 rfl), a_Clock___init__ := _, d_Clock___init__ := d10, F_Clock___init__ := f10, a_is_name := _, d_is_name := d11, F_is_name := f11, m_is_name := He.glo_ok KX G (c.fact 28 rfl), a_check_places := _, d_check_places := d12, F_check_places := f12, m_check_places := He.glo_ok KX G (c.fact 29 rfl), a_is_pair := _, d_is_pair := d13, F_is_pair := f13, m_is_pair := He.glo_ok KX G (c.fact 30 rfl), a_is_tie := _, d_is_tie := d14, F_is_tie := f14, m_is_tie := He.glo_ok KX G (c.fact 31 rfl), a_index_in := _, d_index_in := d15, F_index_in := f15, m_index_in := He.glo_ok KX G (c.fact 32 rfl), a_check_ties := _, d_check_ties := d16, F_check_ties := f16, m_check_ties := He.glo_ok KX G (c.fact 33 rfl), a_Web___init__ := _, d_Web___init__ := d17, F_Web___init__ := f17, a__law_clock := _, d__law_clock := d18, F__law_clock := f18, m__law_clock := He.glo_ok KX G (c.fact 34 rfl), a_check_clock := _, d_check_clock := d19, F_check_clock := f19, m_check_clock := He.glo_ok KX G (c.fact 35 rfl), a_check_index := _, d_check_index := d20, F_check_index := f20, m_check_index := He.glo_ok KX G (c.fact 36 rfl), a_Clock_web := _, d_Clock_web := d21, F_Clock_web := f21, a_touch := _, d_touch := d22, F_touch := f22, m_touch := He.glo_ok KX G (c.fact 37 rfl), a_touching := _, d_touching := d23, F_touching := f23, m_touching := He.glo_ok KX G (c.fact 38 rfl), a_Clock_times := _, d_Clock_times := d24, F_Clock_times := f24, a_slack := _, d_slack := d25, F_slack := f25, m_slack := He.glo_ok KX G (c.fact 39 rfl), a__law_is_int := _, d__law_is_int := d26, F__law_is_int := f26, m__law_is_int := He.glo_ok KX G (c.fact 40 rfl), a__law_touch := _, d__law_touch := d27, F__law_touch := f27, m__law_touch := He.glo_ok KX G (c.fact 41 rfl), a__law_stand := _, d__law_stand := d28, F__law_stand := f28, m__law_stand := He.glo_ok KX G (c.fact 42 rfl), a__law_stays := _, d__law_stays := d29, F__law_stays := f29, m__law_stays := He.glo_ok KX G (c.fact 43 rfl), a__law_tie_right := _, d__law_tie_right := d30, F__law_tie_right := f30, m__law_tie_right := He.glo_ok KX G (c.fact 44 rfl), a__law_right := _, d__law_right := d31, F__law_right := f31, m__law_right := He.glo_ok KX G (c.fact 45 rfl), a__law_jar := _, d__law_jar := d32, F__law_jar := f32, m__law_jar := He.glo_ok KX G (c.fact 46 rfl), a_law := _, d_law := d33, F_law := f33, m_law := He.glo_ok KX G (c.fact 47 rfl), c_Clock := He.glo_ok KX G (c.fact 48 rfl), cls_Clock := cls_Clock, c_Web := He.glo_ok KX G (c.fact 50 rfl), cls_Web := cls_Web, mk_Clock := He.mkr_ok (c.fact 52 rfl), mk_Web := He.mkr_ok (c.fact 53 rfl), at_Clock_both := He.noat_ok (c.fact 54 rfl), at_Web_both := He.noat_ok (c.fact 55 rfl), p_Clock_times := _, pr_Clock_times := Fc.prp_ok (c.more 0 rfl), p_Clock_web := _, pr_Clock_web := Fc.prp_ok (c.more 1 rfl), p_Web_ties := _, pr_Web_ties := Fc.prp_ok (c.more 2 rfl), clsx := ⟨(List.forall_mem_cons.mpr ⟨(Fc.ins_ok (c.more 3 rfl) cls_Web).1, (List.forall_mem_cons.mpr ⟨(Fc.ins_ok (c.more 4 rfl) cls_Clock).1, (fun _ h => nomatch h)⟩)⟩), (List.forall_mem_cons.mpr ⟨(Fc.ins_ok (c.more 3 rfl) cls_Web).2.1, (List.forall_mem_cons.mpr ⟨(Fc.ins_ok (c.more 4 rfl) cls_Clock).2.1, (fun _ h => nomatch h)⟩)⟩), (List.forall_mem_cons.mpr ⟨(Fc.ins_ok (c.more 3 rfl) cls_Web).2.2, (List.forall_mem_cons.mpr ⟨(Fc.ins_ok (c.more 4 rfl) cls_Clock).2.2, (fun _ h => nomatch h)⟩)⟩), (List.forall_mem_cons.mpr ⟨(List.forall_mem_cons.mpr ⟨(of_decide_eq_true (c.more 5 rfl)), (List.forall_mem_cons.mpr ⟨(of_decide_eq_true (c.more 6 rfl)), (fun _ h => nomatch h)⟩)⟩), (List.forall_mem_cons.mpr ⟨(List.forall_mem_cons.mpr ⟨(of_decide_eq_true (c.more 7 rfl)), (List.forall_mem_cons.mpr ⟨(of_decide_eq_true (c.more 8 rfl)), (fun _ h => nomatch h)⟩)⟩), (fun _ h => nomatch h)⟩)⟩)⟩ }, rfl⟩
end K30

namespace K30
open PySem L2 DL PySem.Spec PyProof.Rows

def loose0 : List Str := ["_wall", "WrongValue", "InvalidText", "InvalidIndex", "NotAWeb", "NotAClock", "InvalidPlaces", "InvalidTies", "InvalidTimes", "MOST_PLACES", "MOST_TIES", "MOST_TIME", "SMALL", "LONGEST", "HEAD", "TIE", "is_name", "is_count", "is_pair", "check_places", "is_tie", "check_ties", "index_in", "Web", "web_told", "web_of", "check_web", "check_index", "DIGITS", "LONGEST_TIME"]
def loose1 : List Str := ["is_time", "check_times", "Clock", "check_clock", "number_told", "clock_told", "touch", "touching", "slack", "_law_jar", "_law_dip", "_law_pick", "_law_names", "_law_net", "_law_beats", "_law_is_int", "_law_touch", "_law_stand", "_law_clock", "_law_stays", "_law_tie_right", "_law_right"]
def loose : List Str := loose0 ++ loose1
open PySem.W PySem.Calls HandSHeadRun
theorem triple {α β γ δ : Type} {o : Option α} {f : α → β} {g : α → γ} {h : α → δ} {a : β} {b : γ} {c : δ} (h1 : o.map f = some a) (h2 : o.map g = some b) (h3 : o.map h = some c) : o.map (fun s => (f s, g s, h s)) = some (a, b, c) := by
  cases o with
  | none => cases h1
  | some x => cases h1; cases h2; cases h3; rfl
theorem runA (w : World) (os : OsState) : (endF (stepQ (denQ tabQ) R.prog w) 20000 R.prog w os).map (fun s => looksF R.prog (boot_heap w.params) s.abs) = some true := by kernel_rfl
theorem runB (w : World) (os : OsState) : (endF (stepQ (denQ tabQ) R.prog w) 20000 R.prog w os).map (fun s => seenQ (PySem.W.view R.prog [57]) loose (importedModules R.prog.main.body) (fun s => xlAt (PySem.W.view R.prog [57]) [] s && recOk R.toRowW.records s) s.abs) = some (openGood (PySem.W.view R.prog [57]) loose) := by kernel_rfl
abbrev KK (s : PySem.W.SharedT) : PySem.W.Frag := He.frG (HandSHeadRun.getT s) (He.asD (HandSHeadRun.getT s) 5)
/-- what is seen, part by part -/
theorem parts {fa : List He.Fa} {fc : List Fc} {fn : List Df} {k : Nat} {o : Option PySem.W.SharedT} (h1 : o.map (fun s => fa.all fun f => f.ok (KK s)) = some true) (h2 : o.map (fun s => fc.all fun f => f.ok (KK s)) = some true)
    (h3 : o.map (fun s => (fn.take k).all fun d => d.ok (KK s)) = some true) (h4 : o.map (fun s => (fn.drop k).all fun d => d.ok (KK s)) = some true)
    (h5 : o.map (fun s => (fn.take k).map fun d => dfV (KK s) (d.at_.ad (KK s))) = some ((fn.take k).map Df.val)) (h6 : o.map (fun s => (fn.drop k).map fun d => dfV (KK s) (d.at_.ad (KK s))) = some ((fn.drop k).map Df.val)) :
    o.map (fun s => obsXG 5 fa fc fn (HandSHeadRun.getT s)) = some (valX fn) := by
  cases o with
  | none => cases h1
  | some x =>
    have e1 := Option.some.inj h1
    have e2 := Option.some.inj h2
    have e3 := Option.some.inj h3
    have e4 := Option.some.inj h4
    have e5 := Option.some.inj h5
    have e6 := Option.some.inj h6
    have a : (fn.all fun d => d.ok (KK x)) = true := by
      rw [← List.take_append_drop k fn, List.all_append]
      exact Bool.and_eq_true_iff.mpr ⟨e3, e4⟩
    have m : (fn.map fun d => dfV (KK x) (d.at_.ad (KK x))) = fn.map Df.val := by
      rw [← List.take_append_drop k fn, List.map_append, List.map_append]
      exact e5 ▸ e6 ▸ rfl
    exact congrArg some (Prod.ext (Bool.and_eq_true_iff.mpr ⟨e1, Bool.and_eq_true_iff.mpr ⟨e2, a⟩⟩) m)
theorem runC1 (w : World) (os : OsState) : (endF (stepQ (denQ tabQ) R.prog w) 20000 R.prog w os).map (fun s => fa.all fun f => f.ok (KK s)) = some true := by kernel_rfl
theorem runC2 (w : World) (os : OsState) : (endF (stepQ (denQ tabQ) R.prog w) 20000 R.prog w os).map (fun s => fc.all fun f => f.ok (KK s)) = some true := by kernel_rfl
theorem runC3 (w : World) (os : OsState) : (endF (stepQ (denQ tabQ) R.prog w) 20000 R.prog w os).map (fun s => (fn.take 17).all fun d => d.ok (KK s)) = some true := by kernel_rfl
theorem runC4 (w : World) (os : OsState) : (endF (stepQ (denQ tabQ) R.prog w) 20000 R.prog w os).map (fun s => (fn.drop 17).all fun d => d.ok (KK s)) = some true := by kernel_rfl
theorem runC5 (w : World) (os : OsState) : (endF (stepQ (denQ tabQ) R.prog w) 20000 R.prog w os).map (fun s => (fn.take 17).map fun d => dfV (KK s) (d.at_.ad (KK s))) = some ((fn.take 17).map Df.val) := by kernel_rfl
theorem runC6 (w : World) (os : OsState) : (endF (stepQ (denQ tabQ) R.prog w) 20000 R.prog w os).map (fun s => (fn.drop 17).map fun d => dfV (KK s) (d.at_.ad (KK s))) = some ((fn.drop 17).map Df.val) := by kernel_rfl
theorem runC (w : World) (os : OsState) : (endF (stepQ (denQ tabQ) R.prog w) 20000 R.prog w os).map ob = some (hk.val w) := by
  have h := parts (fa := fa) (fc := fc) (fn := fn) (k := 17) (o := (endF (stepQ (denQ tabQ) R.prog w) 20000 R.prog w os)) (runC1 w os) (runC2 w os) (runC3 w os) (runC4 w os) (runC5 w os) (runC6 w os)
  exact h
theorem run (w : World) : HandSHeadRun.RunEq R (PySem.W.view R.prog [57]) hk ob 20000 loose w := fun os => triple (runA w os) (runB w os) (runC w os)
end K30

namespace DL
open PySem L2 PySem.Spec PyProof.Rows

/-! ### typed values and how they stand as data -/
section
variable {α β γ δ ε ζ ρ σ X : Type}
abbrev Nm : Type := {s : Str // PyData.strOk s = true}
def eI : Int → D := fun i => .int i
def eB : Bool → D := fun b => .bl b
def eS : Nm → D := fun s => .str s.1
def eU : Unit → D := fun _ => .non
def eO (e : α → D) : Option α → D
  | none => .non
  | some a => e a
def eT (e : α → D) : List α → D := fun l => .tup (l.map e)
def eL (e : α → D) : List α → D := fun l => .lst (l.map e)
def eP (a : α → D) (b : β → D) : α × β → D := fun p => .tup [a p.1, b p.2]
def eP3 (a : α → D) (b : β → D) (c : γ → D) : α × β × γ → D := fun p => .tup [a p.1, b p.2.1, c p.2.2]
def eP4 (a : α → D) (b : β → D) (c : γ → D) (d : δ → D) : α × β × γ × δ → D := fun p => .tup [a p.1, b p.2.1, c p.2.2.1, d p.2.2.2]
def eP5 (a : α → D) (b : β → D) (c : γ → D) (d : δ → D) (x : ε → D) : α × β × γ × δ × ε → D := fun p => .tup [a p.1, b p.2.1, c p.2.2.1, d p.2.2.2.1, x p.2.2.2.2]
def eH2 (a : α → D) (b : β → D) : α × β → D := fun p => .lst [a p.1, b p.2]
def eH3 (a : α → D) (b : β → D) (c : γ → D) : α × β × γ → D := fun p => .lst [a p.1, b p.2.1, c p.2.2]
def eH4 (a : α → D) (b : β → D) (c : γ → D) (d : δ → D) : α × β × γ × δ → D := fun p => .lst [a p.1, b p.2.1, c p.2.2.1, d p.2.2.2]
def eDs (e : α → D) : List (Nm × α) → D := fun d => .dct (d.map fun p => .inr p.1.1) (d.map fun p => e p.2)
def eDi (e : α → D) : List (Int × α) → D := fun d => .dct (d.map fun p => .inl p.1) (d.map fun p => e p.2)

/-! ### what a mirror gives, typed -/
def TC (f : M R) (e e' : Env) (enc : α → D) (o : Option α) : Prop := ∀ a, o = some a → f e = .ok (.val (enc a)) e'
abbrev TV (f : M R) (e : Env) (enc : α → D) (o : Option α) : Prop := TC f e e enc o
def TR (f : M R) (e : Env) (enc : α → D) (o : Option α) : Prop := ∀ a, o = some a → ∃ r, f e = .ok r e ∧ e.rd r = some (enc a)
def TF (f : M R) (e e0 e1 : Env) (enc : α → D) (o : Option α) : Prop := ∀ a, o = some a → ∃ r, f e = .ok r e ∧ e0.frz r = some (enc a, e1)
def TX (f : M R) (e e' : Env) (enc : α → D) (o : Option α) : Prop := ∀ a, o = some a → ∃ r e1, f e = .ok r e1 ∧ e1.frz r = some (enc a, e')
def TB (f : M Bool) (e : Env) (o : Option Bool) : Prop := ∀ b, o = some b → f e = .ok b e
def TI (f : M (List D)) (e e' : Env) (enc : α → D) (o : Option (List α)) : Prop := ∀ l, o = some l → f e = .ok (l.map enc) e'
def TN (f : M D) (e e' : Env) (enc : α → D) (o : Option α) : Prop := ∀ a, o = some a → f e = .ok (enc a) e'
variable {f f1 f2 f3 f4 f5 f6 : M R} {e e0 e1 e2 e3 e4 e5 e' : Env} {enc : α → D} {o : Option α} {i j : Nat}
theorem TC.r (h : TV f e enc o) : TR f e enc o := fun a ha => ⟨_, h a ha, rfl⟩
theorem TC.fz (h : TV f e enc o) : TF f e e0 e0 enc o := fun a ha => ⟨_, h a ha, rfl⟩
theorem TC.x (h : TC f e e' enc o) : TX f e e' enc o := fun a ha => ⟨_, _, h a ha, rfl⟩
theorem tv_var (i : Nat) {a : α} (h : e.s[i]? = some (.dat (enc a))) : TV (cVar i) e enc (some a) := fun _ ha => by
  cases ha
  rw [v_var, h]
  rfl
theorem tr_own (i : Nat) {a : α} (h : e.s[i]? = some (.own (enc a))) : TR (cVar i) e enc (some a) := fun _ ha => by
  cases ha
  exact ⟨.whole i, by rw [v_var, h]; rfl, by rw [v_rdW, h]; rfl⟩
theorem tf_own (i : Nat) {a : α} (h : e.s[i]? = some (.own (enc a))) (h0 : e0.s[i]? = some (.own (enc a))) : TF (cVar i) e e0 (e0.setS i (.dat (enc a))) enc (some a) := fun _ ha => by
  cases ha
  exact ⟨.whole i, by rw [v_var, h]; rfl, by rw [v_frzW, h0]; rfl⟩
theorem tx_own (i : Nat) {a : α} (h : e.s[i]? = some (.own (enc a))) : TX (cVar i) e (e.setS i (.dat (enc a))) enc (some a) := fun _ ha => by
  cases ha
  exact ⟨.whole i, e, by rw [v_var, h]; rfl, by rw [v_frzW, h]; rfl⟩
theorem tv_c {d : D} {a : α} (h : d = enc a) : TV (cC d) e enc (some a) := fun _ ha => by
  cases ha
  rw [h]
  rfl
/-- a value where None may stand -/
theorem tv_some (h : TC f e e' enc o) : TC f e e' (eO enc) (o.map some) := fun a ha => by
  obtain ⟨b, hb, rfl⟩ := Option.map_eq_some_iff.mp ha
  exact h b hb
theorem tx_some (h : TX f e e' enc o) : TX f e e' (eO enc) (o.map some) := fun a ha => by
  obtain ⟨b, hb, rfl⟩ := Option.map_eq_some_iff.mp ha
  exact h b hb
theorem tc_un {o : Option (Option α)} (h : TC f e e' (eO enc) o) : TC f e e' enc (o.bind fun x => x) := fun a ha => by
  obtain ⟨b, hb, rfl⟩ := Option.bind_eq_some_iff.mp ha
  exact h _ hb
theorem tr_un {o : Option (Option α)} (h : TR f e (eO enc) o) : TR f e enc (o.bind fun x => x) := fun a ha => by
  obtain ⟨b, hb, rfl⟩ := Option.bind_eq_some_iff.mp ha
  exact h _ hb
theorem tv_noneO {f : M R} (h : TC f e e' eU (some ())) : TC f e e' (eO enc) (some none) := fun a ha => by
  cases ha
  exact h () rfl

/-! ### operations -/
variable {ea : α → D} {eb : β → D} {ec : γ → D} {ed : δ → D} {ee : ε → D} {ez : ζ → D} {er : ρ → D} {oa : Option α} {ob : Option β} {oc : Option γ} {od : Option δ} {oe : Option ε} {oz : Option ζ}
def Op2 (g : D → D → Option D) (ea : α → D) (eb : β → D) (ec : γ → D) (h : α → β → Option γ) : Prop := ∀ a b c, h a b = some c → g (ea a) (eb b) = some (ec c)
theorem bind2 {h : α → β → Option γ} {c : γ} (q : (oa.bind fun a => ob.bind fun b => h a b) = some c) : ∃ a b, oa = some a ∧ ob = some b ∧ h a b = some c := by
  obtain ⟨a, ha, q⟩ := Option.bind_eq_some_iff.mp q
  obtain ⟨b, hb, q⟩ := Option.bind_eq_some_iff.mp q
  exact ⟨a, b, ha, hb, q⟩
theorem tv_op {g : D → D → Option D} {h : α → β → Option γ} (hg : Op2 g ea eb ec h) (h1 : TR f1 e ea oa) (h2 : TR f2 e eb ob) : TV (cOp g f1 f2) e ec (oa.bind fun a => ob.bind fun b => h a b) := fun c q => by
  obtain ⟨a, b, ha, hb, q⟩ := bind2 q
  obtain ⟨r1, p1, p2⟩ := h1 a ha
  obtain ⟨r2, p3, p4⟩ := h2 b hb
  rw [v_op, p1, v_bnd, p3, v_bnd, p2, p4, v_opt2, hg a b c q]
  rfl
theorem tv_chain {g g' : D → D → Option D} {h : α → β → Option Bool} {h' : β → γ → Option Bool} (hg : Op2 g ea eb eB h) (hg' : Op2 g' eb ec eB h') (h1 : TR f1 e ea oa) (h2 : TR f2 e eb ob) (h3 : TR f3 e ec oc) :
    TV (cChain g g' f1 f2 f3) e eB (oa.bind fun a => ob.bind fun b => (h a b).bind fun x => if x then oc.bind fun c => h' b c else some false) := fun z q => by
  obtain ⟨a, b, ha, hb, q⟩ := bind2 q
  obtain ⟨x, hx, q⟩ := Option.bind_eq_some_iff.mp q
  obtain ⟨r1, p1, p2⟩ := h1 a ha
  obtain ⟨r2, p3, p4⟩ := h2 b hb
  rw [v_ch, p1, v_bnd, p3, v_bnd, p2, p4, v_opt2, hg a b x hx]
  cases x with
  | true =>
    rw [if_pos rfl] at q
    obtain ⟨c, hc, q⟩ := Option.bind_eq_some_iff.mp q
    obtain ⟨r3, p5, p6⟩ := h3 c hc
    show chO g' f3 r2 e (some (.bl true)) = _
    rw [v_chT, p5, v_bnd, p4, p6, v_opt2, hg' b c z q]
    rfl
  | false =>
    cases q
    rfl
def Fn1 (g : List D → Option D) (ea : α → D) (ec : γ → D) (h : α → Option γ) : Prop := ∀ a c, h a = some c → g [ea a] = some (ec c)
def Fn2 (g : List D → Option D) (ea : α → D) (eb : β → D) (ec : γ → D) (h : α → β → Option γ) : Prop := ∀ a b c, h a b = some c → g [ea a, eb b] = some (ec c)
theorem tv_cb1 {g : List D → Option D} {h : α → Option γ} (hg : Fn1 g ea ec h) (h1 : TR f1 e ea oa) : TV (cCB g (cCons f1 cNil)) e ec (oa.bind fun a => h a) := fun c q => by
  obtain ⟨a, ha, q⟩ := Option.bind_eq_some_iff.mp q
  obtain ⟨r1, p1, p2⟩ := h1 a ha
  rw [v_cb, v_cons, p1, v_bnd, v_nil, v_bnd, v_bnd, v_rds, p2, v_rds0, v_rds2, Option.bind_some, hg a c q]
  rfl
theorem tv_cb2 {g : List D → Option D} {h : α → β → Option γ} (hg : Fn2 g ea eb ec h) (h1 : TR f1 e ea oa) (h2 : TR f2 e eb ob) : TV (cCB g (cCons f1 (cCons f2 cNil))) e ec (oa.bind fun a => ob.bind fun b => h a b) := fun c q => by
  obtain ⟨a, b, ha, hb, q⟩ := bind2 q
  obtain ⟨r1, p1, p2⟩ := h1 a ha
  obtain ⟨r2, p3, p4⟩ := h2 b hb
  rw [v_cb, v_cons, p1, v_bnd, v_cons, p3, v_bnd, v_nil, v_bnd, v_bnd, v_bnd, v_rds, p2, v_rds, p4, v_rds0, v_rds2, v_rds2, Option.bind_some, hg a b c q]
  rfl
theorem tv_neg {n : Int} (h1 : TV f1 e eI (some n)) : TV (cNeg f1) e eI (some (-n)) := fun c q => by
  cases q
  rw [v_neg, h1 _ rfl]
  rfl
/-! ### tests -/
variable {b1 b2 : M Bool} {o1 o2 : Option Bool} {p q : Bool}
theorem tb_test (h : TV f e eB o1) : TB (cTest f) e o1 := fun b hb => by rw [v_tst, h b hb]; rfl
def Tru (enc : α → D) (h : α → Bool) : Prop := ∀ a, tru (enc a) = some (h a)
theorem tb_tru {h : α → Bool} (ht : Tru enc h) (h1 : TR f e enc o) : TB (cTru f) e (o.map h) := fun b hb => by
  obtain ⟨a, ha, rfl⟩ := Option.map_eq_some_iff.mp hb
  obtain ⟨r, p1, p2⟩ := h1 a ha
  rw [v_tru, p1, v_bnd, p2, Option.bind_some, ht]
  rfl
theorem tru_B : Tru eB id := fun _ => rfl
theorem tru_I : Tru eI fun i => i != 0 := fun _ => rfl
theorem tru_T : Tru (eT enc) fun l => !l.isEmpty := fun l => by cases l <;> rfl
theorem tru_L : Tru (eL enc) fun l => !l.isEmpty := fun l => by cases l <;> rfl
theorem tb_not (h : TB b1 e o1) : TB (cNot b1) e (o1.map (!·)) := fun b hb => by
  obtain ⟨a, ha, rfl⟩ := Option.map_eq_some_iff.mp hb
  rw [v_not, h a ha]
  rfl
theorem tb_and (h1 : TB b1 e o1) (h2 : TB b2 e o2) : TB (cAnd b1 b2) e (o1.bind fun b => if b then o2 else some false) := fun b hb => by
  obtain ⟨a, ha, hb⟩ := Option.bind_eq_some_iff.mp hb
  rw [v_and, h1 a ha, v_bnd]
  cases a with
  | true => exact h2 b hb
  | false => cases hb; rfl
theorem tb_or (h1 : TB b1 e o1) (h2 : TB b2 e o2) : TB (cOr b1 b2) e (o1.bind fun b => if b then some true else o2) := fun b hb => by
  obtain ⟨a, ha, hb⟩ := Option.bind_eq_some_iff.mp hb
  rw [v_or, h1 a ha, v_bnd]
  cases a with
  | true => cases hb; rfl
  | false => exact h2 b hb
theorem tb_andP (h1 : TB b1 e (some p)) (h2 : TB b2 e (some q)) : TB (cAnd b1 b2) e (some (p && q)) := fun b hb => by
  cases hb
  rw [v_and, h1 _ rfl, v_bnd]
  cases p with
  | true => exact h2 _ rfl
  | false => rfl
theorem tb_orP (h1 : TB b1 e (some p)) (h2 : TB b2 e (some q)) : TB (cOr b1 b2) e (some (p || q)) := fun b hb => by
  cases hb
  rw [v_or, h1 _ rfl, v_bnd]
  cases p with
  | true => rfl
  | false => exact h2 _ rfl
theorem tv_and (h1 : TV f1 e eB o1) (h2 : TV f2 e eB o2) : TV (cAndV f1 f2) e eB (o1.bind fun b => if b then o2 else some false) := fun b hb => by
  obtain ⟨a, ha, hb⟩ := Option.bind_eq_some_iff.mp hb
  rw [v_andV, h1 a ha, v_bnd]
  cases a with
  | true => exact h2 b hb
  | false => cases hb; rfl
theorem tv_or (h1 : TV f1 e eB o1) (h2 : TV f2 e eB o2) : TV (cOrV f1 f2) e eB (o1.bind fun b => if b then some true else o2) := fun b hb => by
  obtain ⟨a, ha, hb⟩ := Option.bind_eq_some_iff.mp hb
  rw [v_orV, h1 a ha, v_bnd]
  cases a with
  | true => cases hb; rfl
  | false => exact h2 b hb
theorem tv_andP (h1 : TV f1 e eB (some p)) (h2 : TV f2 e eB (some q)) : TV (cAndV f1 f2) e eB (some (p && q)) := fun b hb => by
  cases hb
  rw [v_andV, h1 _ rfl, v_bnd]
  cases p with
  | true => exact h2 _ rfl
  | false => rfl
theorem tv_orP (h1 : TV f1 e eB (some p)) (h2 : TV f2 e eB (some q)) : TV (cOrV f1 f2) e eB (some (p || q)) := fun b hb => by
  cases hb
  rw [v_orV, h1 _ rfl, v_bnd]
  cases p with
  | true => rfl
  | false => exact h2 _ rfl
theorem tv_not (h1 : TV f1 e eB o1) : TV (cNotV f1) e eB (o1.map (!·)) := fun b hb => by
  obtain ⟨a, ha, rfl⟩ := Option.map_eq_some_iff.mp hb
  rw [v_notV, h1 a ha]
  rfl
theorem tx_if {oa oa' : Option α} (hc : TB b1 e o1) (h1 : TX f1 e e' ea oa) (h2 : TX f2 e e' ea oa') : TX (cIf b1 f1 f2) e e' ea (o1.bind fun b => if b then oa else oa') := fun a q => by
  obtain ⟨b, hb, q⟩ := Option.bind_eq_some_iff.mp q
  rw [v_if, hc b hb, v_bnd]
  cases b with
  | true => exact h1 a q
  | false => exact h2 a q
theorem tv_if {oa oa' : Option α} (hc : TB b1 e o1) (h1 : TV f1 e ea oa) (h2 : TV f2 e ea oa') : TV (cIf b1 f1 f2) e ea (o1.bind fun b => if b then oa else oa') := fun a q => by
  obtain ⟨b, hb, q⟩ := Option.bind_eq_some_iff.mp q
  rw [v_if, hc b hb, v_bnd]
  cases b with
  | true => exact h1 a q
  | false => exact h2 a q
theorem tr_if {oa oa' : Option α} (hc : TB b1 e o1) (h1 : TR f1 e ea oa) (h2 : TR f2 e ea oa') : TR (cIf b1 f1 f2) e ea (o1.bind fun b => if b then oa else oa') := fun a q => by
  obtain ⟨b, hb, q⟩ := Option.bind_eq_some_iff.mp q
  rw [v_if, hc b hb, v_bnd]
  cases b with
  | true => exact h1 a q
  | false => exact h2 a q

/-! ### displays -/
theorem frzs_cons {f : M R} {r : R} {rs : List R} {d : D} {ds : List D} (h : e.frz r = some (d, e1)) (t : e1.frzs rs = some (ds, e2)) : e.frzs (r :: rs) = some (d :: ds, e2) := by rw [v_frzs, h, v_frz2, t, v_frzC]
/-- arguments, frozen from e0 on -/
def TA (fs : M (List R)) (e e0 e1 : Env) (ds : List D) : Prop := ∃ rs, fs e = .ok rs e ∧ e0.frzs rs = some (ds, e1)
theorem ta_nil : TA cNil e e0 e0 [] := ⟨[], rfl, rfl⟩
theorem ta_cons {fs : M (List R)} {ds : List D} {a : α} (h : TF f e e0 e1 ea (some a)) (t : TA fs e e1 e2 ds) : TA (cCons f fs) e e0 e2 (ea a :: ds) := by
  obtain ⟨r, p1, p2⟩ := h a rfl
  obtain ⟨rs, p3, p4⟩ := t
  exact ⟨r :: rs, by rw [v_cons, p1, v_bnd, p3, v_bnd], frzs_cons (f := f) p2 p4⟩
theorem TF.at {a : α} (h : TF f e e0 e1 ea oa) (ha : oa = some a) : TF f e e0 e1 ea (some a) := fun b hb => by
  cases hb
  exact h a ha
theorem tup_ta {fs : M (List R)} {ds : List D} (h : TA fs e e e1 ds) (hl : ds.length ≤ 1000) : cTup fs e = .ok (.val (.tup ds)) e1 := by
  obtain ⟨rs, p1, p2⟩ := h
  rw [v_tup, p1, v_bnd, p2, v_tupO hl]
theorem lst_ta {fs : M (List R)} {ds : List D} (h : TA fs e e e1 ds) (hl : ds.length ≤ 1000) : cLst fs e = .ok (.val (.lst ds)) e1 := by
  obtain ⟨rs, p1, p2⟩ := h
  rw [v_lst, p1, v_bnd, p2, v_lstO hl]
theorem flst_ta {fs : M (List R)} {ds : List D} (h : TA fs e e e1 ds) (hl : ds.length ≤ 1000) : fLst fs e = .ok (.lst ds) e1 := by
  obtain ⟨rs, p1, p2⟩ := h
  rw [v_fLst, p1, v_bnd, p2]
  exact if_pos (by rw [sizeLine_eq]; omega)
theorem tc_tup0 : TV (cTup cNil) e (eT enc) (some []) := fun _ q => by cases q; exact tup_ta ta_nil (by simp)
theorem tc_tup1 (h : TF f e e e1 enc o) : TC (cTup (cCons f cNil)) e e1 (eT enc) (o.bind fun a => some [a]) := fun _ q => by
  obtain ⟨a, ha, q⟩ := Option.bind_eq_some_iff.mp q
  cases q
  exact tup_ta (ta_cons (h.at ha) ta_nil) (by simp)
theorem tc_tup2 {o' : Option α} (h : TF f e e e1 enc o) (h2 : TF f2 e e1 e2 enc o') : TC (cTup (cCons f (cCons f2 cNil))) e e2 (eT enc) (o.bind fun a => o'.bind fun b => some [a, b]) := fun _ q => by
  obtain ⟨a, b, ha, hb, q⟩ := bind2 q
  cases q
  exact tup_ta (ta_cons (h.at ha) (ta_cons (h2.at hb) ta_nil)) (by simp)
theorem tc_tup3 {o' o'' : Option α} (h : TF f e e e1 enc o) (h2 : TF f2 e e1 e2 enc o') (h3 : TF f3 e e2 e3 enc o'') : TC (cTup (cCons f (cCons f2 (cCons f3 cNil)))) e e3 (eT enc) (o.bind fun a => o'.bind fun b => o''.bind fun c => some [a, b, c]) := fun _ q => by
  obtain ⟨a, b, ha, hb, q⟩ := bind2 q
  obtain ⟨c, hc, q⟩ := Option.bind_eq_some_iff.mp q
  cases q
  exact tup_ta (ta_cons (h.at ha) (ta_cons (h2.at hb) (ta_cons (h3.at hc) ta_nil))) (by simp)
theorem tc_pair (h : TF f e e e1 ea oa) (h2 : TF f2 e e1 e2 eb ob) : TC (cTup (cCons f (cCons f2 cNil))) e e2 (eP ea eb) (oa.bind fun a => ob.bind fun b => some (a, b)) := fun _ q => by
  obtain ⟨a, b, ha, hb, q⟩ := bind2 q
  cases q
  exact tup_ta (ta_cons (h.at ha) (ta_cons (h2.at hb) ta_nil)) (by simp)
theorem tc_pair3 (h : TF f e e e1 ea oa) (h2 : TF f2 e e1 e2 eb ob) (h3 : TF f3 e e2 e3 ec oc) : TC (cTup (cCons f (cCons f2 (cCons f3 cNil)))) e e3 (eP3 ea eb ec) (oa.bind fun a => ob.bind fun b => oc.bind fun c => some (a, b, c)) := fun _ q => by
  obtain ⟨a, b, ha, hb, q⟩ := bind2 q
  obtain ⟨c, hc, q⟩ := Option.bind_eq_some_iff.mp q
  cases q
  exact tup_ta (ta_cons (h.at ha) (ta_cons (h2.at hb) (ta_cons (h3.at hc) ta_nil))) (by simp)
theorem tc_lst0 : TV (cLst cNil) e (eL enc) (some []) := fun _ q => by cases q; exact lst_ta ta_nil (by simp)
theorem tc_lst1 (h : TF f e e e1 enc o) : TC (cLst (cCons f cNil)) e e1 (eL enc) (o.bind fun a => some [a]) := fun _ q => by
  obtain ⟨a, ha, q⟩ := Option.bind_eq_some_iff.mp q
  cases q
  exact lst_ta (ta_cons (h.at ha) ta_nil) (by simp)
theorem tc_lst2 {o' : Option α} (h : TF f e e e1 enc o) (h2 : TF f2 e e1 e2 enc o') : TC (cLst (cCons f (cCons f2 cNil))) e e2 (eL enc) (o.bind fun a => o'.bind fun b => some [a, b]) := fun _ q => by
  obtain ⟨a, b, ha, hb, q⟩ := bind2 q
  cases q
  exact lst_ta (ta_cons (h.at ha) (ta_cons (h2.at hb) ta_nil)) (by simp)
theorem tc_lst3 {o' o'' : Option α} (h : TF f e e e1 enc o) (h2 : TF f2 e e1 e2 enc o') (h3 : TF f3 e e2 e3 enc o'') : TC (cLst (cCons f (cCons f2 (cCons f3 cNil)))) e e3 (eL enc) (o.bind fun a => o'.bind fun b => o''.bind fun c => some [a, b, c]) := fun _ q => by
  obtain ⟨a, b, ha, hb, q⟩ := bind2 q
  obtain ⟨c, hc, q⟩ := Option.bind_eq_some_iff.mp q
  cases q
  exact lst_ta (ta_cons (h.at ha) (ta_cons (h2.at hb) (ta_cons (h3.at hc) ta_nil))) (by simp)
theorem tc_h2 (h : TF f e e e1 ea oa) (h2 : TF f2 e e1 e2 eb ob) : TC (cLst (cCons f (cCons f2 cNil))) e e2 (eH2 ea eb) (oa.bind fun a => ob.bind fun b => some (a, b)) := fun _ q => by
  obtain ⟨a, b, ha, hb, q⟩ := bind2 q
  cases q
  exact lst_ta (ta_cons (h.at ha) (ta_cons (h2.at hb) ta_nil)) (by simp)
theorem tc_h3 (h : TF f e e e1 ea oa) (h2 : TF f2 e e1 e2 eb ob) (h3 : TF f3 e e2 e3 ec oc) : TC (cLst (cCons f (cCons f2 (cCons f3 cNil)))) e e3 (eH3 ea eb ec) (oa.bind fun a => ob.bind fun b => oc.bind fun c => some (a, b, c)) := fun _ q => by
  obtain ⟨a, b, ha, hb, q⟩ := bind2 q
  obtain ⟨c, hc, q⟩ := Option.bind_eq_some_iff.mp q
  cases q
  exact lst_ta (ta_cons (h.at ha) (ta_cons (h2.at hb) (ta_cons (h3.at hc) ta_nil))) (by simp)
theorem tn_lst0 : TN (fLst cNil) e e (eL enc) (some []) := fun _ q => by cases q; exact flst_ta ta_nil (by simp)
theorem tn_lst1 (h : TF f e e e1 enc o) : TN (fLst (cCons f cNil)) e e1 (eL enc) (o.bind fun a => some [a]) := fun _ q => by
  obtain ⟨a, ha, q⟩ := Option.bind_eq_some_iff.mp q
  cases q
  exact flst_ta (ta_cons (h.at ha) ta_nil) (by simp)
def addL (a b : List α) : Option (List α) := if a.length + b.length ≤ sizeLine then some (a ++ b) else none
theorem addL_inv {a b c : List α} (h : addL a b = some c) : a.length + b.length ≤ sizeLine ∧ c = a ++ b := by
  unfold addL at h
  split at h
  · rename_i hl; cases h; exact ⟨hl, rfl⟩
  · cases h
theorem tn_add {oa ob : Option (List α)} (h1 : TR f1 e (eL enc) oa) (h2 : TR f2 e (eL enc) ob) : TN (fAdd f1 f2) e e (eL enc) (oa.bind fun a => ob.bind fun b => addL a b) := fun c q => by
  obtain ⟨a, b, ha, hb, q⟩ := bind2 q
  obtain ⟨r1, p1, p2⟩ := h1 a ha
  obtain ⟨r2, p3, p4⟩ := h2 b hb
  obtain ⟨hl, rfl⟩ := addL_inv q
  show ((f1 e).bnd fun x e1 => (f2 e1).bnd fun y e2 => fAddO (e2.rd x) (e2.rd y) e2) = _
  rw [p1, v_bnd, p3, v_bnd, p2, p4]
  show (if _ then _ else _) = _
  rw [List.length_map, List.length_map, if_pos hl, eL, List.map_append]
def repL (a : List α) (k : Int) : Option (List α) := if -(2 ^ 63) ≤ k ∧ k < 2 ^ 63 ∧ a.length * k.toNat ≤ sizeLine then some (List.replicate k.toNat a).flatten else none
theorem tn_rep {oa : Option (List α)} {ob : Option Int} (h1 : TR f1 e (eL enc) oa) (h2 : TR f2 e eI ob) : TN (fMul f1 f2) e e (eL enc) (oa.bind fun a => ob.bind fun b => repL a b) := fun c q => by
  obtain ⟨a, b, ha, hb, q⟩ := bind2 q
  obtain ⟨r1, p1, p2⟩ := h1 a ha
  obtain ⟨r2, p3, p4⟩ := h2 b hb
  unfold repL at q
  split at q
  · rename_i h
    cases q
    show ((f1 e).bnd fun x e1 => (f2 e1).bnd fun y e2 => fMulO (e2.rd x) (e2.rd y) e2) = _
    rw [p1, v_bnd, p3, v_bnd, p2, p4]
    show (if _ then _ else _) = _
    rw [List.length_map, if_pos h, eL, List.map_flatten, List.map_replicate]
  · cases q
theorem tn_listL {oa : Option (List α)} (h1 : TR f1 e (eL enc) oa) : TN (fList (cCons f1 cNil)) e e (eL enc) (oa.bind fun a => some a) := fun c q => by
  obtain ⟨a, ha, q⟩ := Option.bind_eq_some_iff.mp q
  cases q
  obtain ⟨r1, p1, p2⟩ := h1 _ ha
  show ((cCons f1 cNil e).bnd _) = _
  rw [v_cons, p1, v_bnd, v_nil, v_bnd, v_bnd]
  show fListO (e.rd r1) e = _
  rw [p2]
  rfl
theorem tn_listT {oa : Option (List α)} (h1 : TR f1 e (eT enc) oa) : TN (fList (cCons f1 cNil)) e e (eL enc) (oa.bind fun a => some a) := fun c q => by
  obtain ⟨a, ha, q⟩ := Option.bind_eq_some_iff.mp q
  cases q
  obtain ⟨r1, p1, p2⟩ := h1 _ ha
  show ((cCons f1 cNil e).bnd _) = _
  rw [v_cons, p1, v_bnd, v_nil, v_bnd, v_bnd]
  show fListO (e.rd r1) e = _
  rw [p2]
  rfl
theorem tn_dct : TN fDct e e (eDs enc) (some []) := fun _ q => by cases q; rfl
theorem tn_dctI : TN fDct e e (eDi enc) (some []) := fun _ q => by cases q; rfl
theorem tn_dct1 {ob : Option Nm} (hk : TV f1 e eS ob) (hv : TX f2 e e1 enc o) : TN (fDct1 f1 f2) e e1 (eDs enc) (ob.bind fun k => o.bind fun a => some [(k, a)]) := fun _ q => by
  obtain ⟨k, a, h1, h2, q⟩ := bind2 q
  cases q
  obtain ⟨r, e2, p1, p2⟩ := hv a h2
  show ((f1 e).bnd _) = _
  rw [hk k h1, v_bnd]
  show dct1O f2 e (kD (.str k.1)) = _
  show ((f2 e).bnd _) = _
  rw [p1, v_bnd, p2]
  rfl
end
end DL

namespace DL
open PySem L2 PySem.Spec PyProof.Rows

/-! ### typed: calls -/
section
variable {α β γ δ ε ζ ρ σ X : Type}
variable {f f1 f2 f3 f4 f5 f6 : M R} {e e0 e1 e2 e3 e4 e5 e6 e' : Env} {enc : α → D} {o : Option α} {i j : Nat}
variable {ea : α → D} {eb : β → D} {ec : γ → D} {ed : δ → D} {ee : ε → D} {ez : ζ → D} {er : ρ → D} {oa : Option α} {ob : Option β} {oc : Option γ} {od : Option δ} {oe : Option ε} {oz : Option ζ}
theorem call_ta {Φ : Fn} {fs : M (List R)} {ds : List D} {d : D} (h : TA fs e e e1 ds) (hΦ : Φ (ds.map A.dat) [] = .ok d []) : cCall Φ fs e = .ok (.val d) e1 := by
  obtain ⟨rs, p1, p2⟩ := h
  rw [v_call, p1, v_bnd, p2, v_callF, hΦ]
  rfl
theorem tc_call1 {Φ : Fn} {t : α → Option ρ} (hΦ : ∀ a r, t a = some r → Φ [.dat (ea a)] [] = .ok (er r) []) (h1 : TF f1 e e e1 ea oa) : TC (cCall Φ (cCons f1 cNil)) e e1 er (oa.bind fun a => t a) := fun r q => by
  obtain ⟨a, ha, q⟩ := Option.bind_eq_some_iff.mp q
  exact call_ta (ta_cons (h1.at ha) ta_nil) (hΦ a r q)
theorem tc_call2 {Φ : Fn} {t : α → β → Option ρ} (hΦ : ∀ a b r, t a b = some r → Φ [.dat (ea a), .dat (eb b)] [] = .ok (er r) []) (h1 : TF f1 e e e1 ea oa) (h2 : TF f2 e e1 e2 eb ob) :
    TC (cCall Φ (cCons f1 (cCons f2 cNil))) e e2 er (oa.bind fun a => ob.bind fun b => t a b) := fun r q => by
  obtain ⟨a, b, ha, hb, q⟩ := bind2 q
  exact call_ta (ta_cons (h1.at ha) (ta_cons (h2.at hb) ta_nil)) (hΦ a b r q)
theorem tc_call3 {Φ : Fn} {t : α → β → γ → Option ρ} (hΦ : ∀ a b c r, t a b c = some r → Φ [.dat (ea a), .dat (eb b), .dat (ec c)] [] = .ok (er r) []) (h1 : TF f1 e e e1 ea oa) (h2 : TF f2 e e1 e2 eb ob) (h3 : TF f3 e e2 e3 ec oc) :
    TC (cCall Φ (cCons f1 (cCons f2 (cCons f3 cNil)))) e e3 er (oa.bind fun a => ob.bind fun b => oc.bind fun c => t a b c) := fun r q => by
  obtain ⟨a, b, ha, hb, q⟩ := bind2 q
  obtain ⟨c, hc, q⟩ := Option.bind_eq_some_iff.mp q
  exact call_ta (ta_cons (h1.at ha) (ta_cons (h2.at hb) (ta_cons (h3.at hc) ta_nil))) (hΦ a b c r q)
theorem tc_call4 {Φ : Fn} {t : α → β → γ → δ → Option ρ} (hΦ : ∀ a b c d r, t a b c d = some r → Φ [.dat (ea a), .dat (eb b), .dat (ec c), .dat (ed d)] [] = .ok (er r) []) (h1 : TF f1 e e e1 ea oa) (h2 : TF f2 e e1 e2 eb ob) (h3 : TF f3 e e2 e3 ec oc)
    (h4 : TF f4 e e3 e4 ed od) : TC (cCall Φ (cCons f1 (cCons f2 (cCons f3 (cCons f4 cNil))))) e e4 er (oa.bind fun a => ob.bind fun b => oc.bind fun c => od.bind fun d => t a b c d) := fun r q => by
  obtain ⟨a, b, ha, hb, q⟩ := bind2 q
  obtain ⟨c, d, hc, hd, q⟩ := bind2 q
  exact call_ta (ta_cons (h1.at ha) (ta_cons (h2.at hb) (ta_cons (h3.at hc) (ta_cons (h4.at hd) ta_nil)))) (hΦ a b c d r q)
theorem tc_call5 {Φ : Fn} {t : α → β → γ → δ → ε → Option ρ} (hΦ : ∀ a b c d x r, t a b c d x = some r → Φ [.dat (ea a), .dat (eb b), .dat (ec c), .dat (ed d), .dat (ee x)] [] = .ok (er r) []) (h1 : TF f1 e e e1 ea oa) (h2 : TF f2 e e1 e2 eb ob)
    (h3 : TF f3 e e2 e3 ec oc) (h4 : TF f4 e e3 e4 ed od) (h5 : TF f5 e e4 e5 ee oe) : TC (cCall Φ (cCons f1 (cCons f2 (cCons f3 (cCons f4 (cCons f5 cNil)))))) e e5 er (oa.bind fun a => ob.bind fun b => oc.bind fun c => od.bind fun d => oe.bind fun x => t a b c d x) := fun r q => by
  obtain ⟨a, b, ha, hb, q⟩ := bind2 q
  obtain ⟨c, d, hc, hd, q⟩ := bind2 q
  obtain ⟨x, hx, q⟩ := Option.bind_eq_some_iff.mp q
  exact call_ta (ta_cons (h1.at ha) (ta_cons (h2.at hb) (ta_cons (h3.at hc) (ta_cons (h4.at hd) (ta_cons (h5.at hx) ta_nil))))) (hΦ a b c d x r q)
/-! keyword calls: values alone -/
theorem callK_ta {Φ : Fn} {n nk : Nat} {p : List Nat} {fs gs : M (List R)} {ds zs : List D} {d : D} (h : TA fs e e e1 ds) (h2 : TA gs e1 e1 e2 zs) (hn : ds.length = n) (hk : zs.length = nk) (hΦ : Φ ((prm p (ds ++ zs)).map A.dat) [] = .ok d []) :
    cCallK Φ n nk p fs gs e = .ok (.val d) e2 := by
  obtain ⟨rs, p1, p2⟩ := h
  obtain ⟨qs, p3, p4⟩ := h2
  show ((fs e).bnd _) = _
  rw [p1, v_bnd, p2]
  show ((gs e1).bnd _) = _
  rw [p3, v_bnd, p4]
  show (if _ then _ else _) = _
  rw [if_pos ⟨hn, hk⟩, hΦ]
  rfl
theorem tc_callK02 {Φ : Fn} {p : List Nat} {t : α → β → Option ρ} (hΦ : ∀ a b r, t a b = some r → Φ ((prm p [ea a, eb b]).map A.dat) [] = .ok (er r) []) (h1 : TV f1 e ea oa) (h2 : TV f2 e eb ob) :
    TV (cCallK Φ 0 2 p cNil (cCons f1 (cCons f2 cNil))) e er (oa.bind fun a => ob.bind fun b => t a b) := fun r q => by
  obtain ⟨a, b, ha, hb, q⟩ := bind2 q
  exact callK_ta (ds := []) ta_nil (ta_cons (h1.fz.at ha) (ta_cons (h2.fz.at hb) ta_nil)) rfl rfl (hΦ a b r q)
theorem tc_callK01 {Φ : Fn} {p : List Nat} {t : α → Option ρ} (hΦ : ∀ a r, t a = some r → Φ ((prm p [ea a]).map A.dat) [] = .ok (er r) []) (h1 : TV f1 e ea oa) :
    TV (cCallK Φ 0 1 p cNil (cCons f1 cNil)) e er (oa.bind fun a => t a) := fun r q => by
  obtain ⟨a, ha, q⟩ := Option.bind_eq_some_iff.mp q
  exact callK_ta (ds := []) ta_nil (ta_cons (h1.fz.at ha) ta_nil) rfl rfl (hΦ a r q)
theorem tc_callK03 {Φ : Fn} {p : List Nat} {t : α → β → γ → Option ρ} (hΦ : ∀ a b c r, t a b c = some r → Φ ((prm p [ea a, eb b, ec c]).map A.dat) [] = .ok (er r) []) (h1 : TV f1 e ea oa) (h2 : TV f2 e eb ob) (h3 : TV f3 e ec oc) :
    TV (cCallK Φ 0 3 p cNil (cCons f1 (cCons f2 (cCons f3 cNil)))) e er (oa.bind fun a => ob.bind fun b => oc.bind fun c => t a b c) := fun r q => by
  obtain ⟨a, b, ha, hb, q⟩ := bind2 q
  obtain ⟨c, hc, q⟩ := Option.bind_eq_some_iff.mp q
  exact callK_ta (ds := []) ta_nil (ta_cons (h1.fz.at ha) (ta_cons (h2.fz.at hb) (ta_cons (h3.fz.at hc) ta_nil))) rfl rfl (hΦ a b c r q)
theorem tc_callK04 {Φ : Fn} {p : List Nat} {t : α → β → γ → δ → Option ρ} (hΦ : ∀ a b c d r, t a b c d = some r → Φ ((prm p [ea a, eb b, ec c, ed d]).map A.dat) [] = .ok (er r) []) (h1 : TV f1 e ea oa) (h2 : TV f2 e eb ob) (h3 : TV f3 e ec oc) (h4 : TV f4 e ed od) :
    TV (cCallK Φ 0 4 p cNil (cCons f1 (cCons f2 (cCons f3 (cCons f4 cNil))))) e er (oa.bind fun a => ob.bind fun b => oc.bind fun c => od.bind fun d => t a b c d) := fun r q => by
  obtain ⟨a, b, ha, hb, q⟩ := bind2 q
  obtain ⟨c, d, hc, hd, q⟩ := bind2 q
  exact callK_ta (ds := []) ta_nil (ta_cons (h1.fz.at ha) (ta_cons (h2.fz.at hb) (ta_cons (h3.fz.at hc) (ta_cons (h4.fz.at hd) ta_nil)))) rfl rfl (hΦ a b c d r q)
theorem tc_callK12 {Φ : Fn} {p : List Nat} {t : α → β → γ → Option ρ} (hΦ : ∀ a b c r, t a b c = some r → Φ ((prm p [ea a, eb b, ec c]).map A.dat) [] = .ok (er r) []) (h1 : TV f1 e ea oa) (h2 : TV f2 e eb ob) (h3 : TV f3 e ec oc) :
    TV (cCallK Φ 1 2 p (cCons f1 cNil) (cCons f2 (cCons f3 cNil))) e er (oa.bind fun a => ob.bind fun b => oc.bind fun c => t a b c) := fun r q => by
  obtain ⟨a, b, ha, hb, q⟩ := bind2 q
  obtain ⟨c, hc, q⟩ := Option.bind_eq_some_iff.mp q
  exact callK_ta (ta_cons (h1.fz.at ha) ta_nil) (ta_cons (h2.fz.at hb) (ta_cons (h3.fz.at hc) ta_nil)) rfl rfl (hΦ a b c r q)
theorem tc_callK11 {Φ : Fn} {p : List Nat} {t : α → β → Option ρ} (hΦ : ∀ a b r, t a b = some r → Φ ((prm p [ea a, eb b]).map A.dat) [] = .ok (er r) []) (h1 : TV f1 e ea oa) (h2 : TV f2 e eb ob) :
    TV (cCallK Φ 1 1 p (cCons f1 cNil) (cCons f2 cNil)) e er (oa.bind fun a => ob.bind fun b => t a b) := fun r q => by
  obtain ⟨a, b, ha, hb, q⟩ := bind2 q
  exact callK_ta (ta_cons (h1.fz.at ha) ta_nil) (ta_cons (h2.fz.at hb) ta_nil) rfl rfl (hΦ a b r q)
/-! objects of own classes -/
def IsC (c : Str) (enc : α → D) : Prop := ∀ a, isObjC c (enc a) = true
theorem tv_prop {c : Str} {Φ : Fn} {t : α → Option ρ} (hc : IsC c ea) (hΦ : ∀ a r, t a = some r → Φ [.dat (ea a)] [] = .ok (er r) []) (h1 : TV f1 e ea oa) : TV (cProp c Φ f1) e er (oa.bind fun a => t a) := fun r q => by
  obtain ⟨a, ha, q⟩ := Option.bind_eq_some_iff.mp q
  rw [v_prop, h1 a ha, v_bnd, v_frzV, v_propO, hc a, if_pos rfl, hΦ a r q]
  rfl
theorem tv_fld {cs : List Str} {n : Str} {h : α → γ} (hg : ∀ a, fldD cs n (ea a) = some (ec (h a))) (h1 : TR f1 e ea oa) : TV (cFld cs n f1) e ec (oa.bind fun a => some (h a)) := fun c q => by
  obtain ⟨a, ha, q⟩ := Option.bind_eq_some_iff.mp q
  cases q
  obtain ⟨r, p1, p2⟩ := h1 a ha
  rw [v_fld, p1, v_bnd, p2, Option.bind_some, hg]
  rfl
def HasM (c m : Str) (enc : α → D) : Prop := ∀ a, (isObjC c (enc a) && !hasN m (enc a)) = true
theorem meth_ta {c m : Str} {Φ : Fn} {fs : M (List R)} {ds : List D} {d dr : D} (h0 : f e = .ok (.val d) e) (hc : (isObjC c d && !hasN m d) = true) (h : TA fs e e e1 ds) (hΦ : Φ (.dat d :: ds.map A.dat) [] = .ok dr []) : cMeth c m Φ f fs e = .ok (.val dr) e1 := by
  obtain ⟨rs, p1, p2⟩ := h
  rw [v_meth, h0, v_bnd, v_frzV, v_methO, hc, if_pos rfl, p1, v_bnd, p2, v_methF, hΦ]
  rfl
theorem tc_meth1 {c m : Str} {Φ : Fn} {t : α → β → Option ρ} (hc : HasM c m ea) (hΦ : ∀ a b r, t a b = some r → Φ [.dat (ea a), .dat (eb b)] [] = .ok (er r) []) (h1 : TV f1 e ea oa) (h2 : TF f2 e e e1 eb ob) :
    TC (cMeth c m Φ f1 (cCons f2 cNil)) e e1 er (oa.bind fun a => ob.bind fun b => t a b) := fun r q => by
  obtain ⟨a, b, ha, hb, q⟩ := bind2 q
  exact meth_ta (h1 a ha) (hc a) (ta_cons (h2.at hb) ta_nil) (hΦ a b r q)
theorem tc_meth2 {c m : Str} {Φ : Fn} {t : α → β → γ → Option ρ} (hc : HasM c m ea) (hΦ : ∀ a b x r, t a b x = some r → Φ [.dat (ea a), .dat (eb b), .dat (ec x)] [] = .ok (er r) []) (h1 : TV f1 e ea oa) (h2 : TF f2 e e e1 eb ob) (h3 : TF f3 e e1 e2 ec oc) :
    TC (cMeth c m Φ f1 (cCons f2 (cCons f3 cNil))) e e2 er (oa.bind fun a => ob.bind fun b => oc.bind fun x => t a b x) := fun r q => by
  obtain ⟨a, b, ha, hb, q⟩ := bind2 q
  obtain ⟨x, hx, q⟩ := Option.bind_eq_some_iff.mp q
  exact meth_ta (h1 a ha) (hc a) (ta_cons (h2.at hb) (ta_cons (h3.at hx) ta_nil)) (hΦ a b x r q)
theorem methK_ta {c m : Str} {Φ : Fn} {n nk : Nat} {p : List Nat} {fs gs : M (List R)} {ds zs : List D} {d dr : D} (h0 : f e = .ok (.val d) e) (hc : (isObjC c d && !hasN m d) = true) (h : TA fs e e e1 ds) (h2 : TA gs e1 e1 e2 zs) (hn : ds.length = n) (hk : zs.length = nk)
    (hΦ : Φ ((prm p (d :: ds ++ zs)).map A.dat) [] = .ok dr []) : cMethK c m Φ n nk p f fs gs e = .ok (.val dr) e2 := by
  obtain ⟨rs, p1, p2⟩ := h
  obtain ⟨qs, p3, p4⟩ := h2
  show ((f e).bnd _) = _
  rw [h0, v_bnd]
  show (if _ then _ else _) = _
  rw [if_pos hc, p1, v_bnd, p2]
  show ((gs e1).bnd _) = _
  rw [p3, v_bnd, p4]
  show (if _ then _ else _) = _
  rw [if_pos ⟨hn, hk⟩, hΦ]
  rfl
theorem tc_methK02 {c m : Str} {Φ : Fn} {p : List Nat} {t : α → β → γ → Option ρ} (hc : HasM c m ea) (hΦ : ∀ a b x r, t a b x = some r → Φ ((prm p [ea a, eb b, ec x]).map A.dat) [] = .ok (er r) []) (h1 : TV f1 e ea oa) (h2 : TV f2 e eb ob) (h3 : TV f3 e ec oc) :
    TV (cMethK c m Φ 0 2 p f1 cNil (cCons f2 (cCons f3 cNil))) e er (oa.bind fun a => ob.bind fun b => oc.bind fun x => t a b x) := fun r q => by
  obtain ⟨a, b, ha, hb, q⟩ := bind2 q
  obtain ⟨x, hx, q⟩ := Option.bind_eq_some_iff.mp q
  exact methK_ta (ds := []) (h1 a ha) (hc a) ta_nil (ta_cons (h2.fz.at hb) (ta_cons (h3.fz.at hx) ta_nil)) rfl rfl (hΦ a b x r q)
theorem tc_methK01 {c m : Str} {Φ : Fn} {p : List Nat} {t : α → β → Option ρ} (hc : HasM c m ea) (hΦ : ∀ a b r, t a b = some r → Φ ((prm p [ea a, eb b]).map A.dat) [] = .ok (er r) []) (h1 : TV f1 e ea oa) (h2 : TV f2 e eb ob) :
    TV (cMethK c m Φ 0 1 p f1 cNil (cCons f2 cNil)) e er (oa.bind fun a => ob.bind fun b => t a b) := fun r q => by
  obtain ⟨a, b, ha, hb, q⟩ := bind2 q
  exact methK_ta (ds := []) (h1 a ha) (hc a) ta_nil (ta_cons (h2.fz.at hb) ta_nil) rfl rfl (hΦ a b r q)
theorem tc_make2 {c : Str} {Φ : Fn} {t : α → β → Option ρ} (hr : ∀ r, ∃ ns l, er r = .obj c ns l) (hΦ : ∀ a b r, t a b = some r → Φ [.jar 0, .dat (ea a), .dat (eb b)] [.obj c [] []] = .ok .non [er r]) (h1 : TF f1 e e e1 ea oa) (h2 : TF f2 e e1 e2 eb ob) :
    TC (cMake c Φ (cCons f1 (cCons f2 cNil))) e e2 er (oa.bind fun a => ob.bind fun b => t a b) := fun r q => by
  obtain ⟨a, b, ha, hb, q⟩ := bind2 q
  obtain ⟨rs, p1, p2⟩ := ta_cons (h1.at ha) (ta_cons (h2.at hb) ta_nil)
  obtain ⟨ns, l, hl⟩ := hr r
  have z := hΦ a b r q
  rw [hl] at z
  rw [v_make, p1, v_bnd, p2, v_makF, hl]
  show makeO c e2 (Φ [.jar 0, .dat (ea a), .dat (eb b)] [.obj c [] []]) = _
  rw [z, v_makeO]
def ownIn (c : Str) (Φ : Fn) (eo : β → D) (ex : α → D) (h : β → α → Bool) : Prop := ∀ o x, isObjC c (eo o) = true ∧ Φ [.dat (eo o), .dat (ex x)] [] = .ok (.bl (h o x)) []
theorem op_inOwn {c : Str} {Φ : Fn} {h : β → α → Bool} (q : ownIn c Φ eb ea h) : Op2 (inOwn c Φ) ea eb eB fun x o => some (h o x) := fun x o z e => by
  cases e
  obtain ⟨h1, h2⟩ := q o x
  unfold inOwn askOwn
  rw [h1, if_pos rfl, h2]
  rfl
theorem op_notInOwn {c : Str} {Φ : Fn} {h : β → α → Bool} (q : ownIn c Φ eb ea h) : Op2 (notInOwn c Φ) ea eb eB fun x o => some (!h o x) := fun x o z e => by
  cases e
  obtain ⟨h1, h2⟩ := q o x
  unfold notInOwn askOwn
  rw [h1, if_pos rfl, h2]
  rfl
/-- isinstance, known -/
theorem tv_isT {cs : List Str} {T : String} {h : α → Bool} (hg : ∀ a, isiTy cs T (ea a) = some (h a)) (h1 : TR f1 e ea oa) : TV (cIsT cs T f1) e eB (oa.bind fun a => some (h a)) := fun c q => by
  obtain ⟨a, ha, q⟩ := Option.bind_eq_some_iff.mp q
  cases q
  obtain ⟨r, p1, p2⟩ := h1 a ha
  rw [v_isT, p1, v_bnd, p2, Option.bind_some, hg]
  rfl
theorem tv_isC {cs : List Str} {T : Str} {h : α → Bool} (hg : ∀ a, isiC cs T (ea a) = some (h a)) (h1 : TR f1 e ea oa) : TV (cIsC cs T f1) e eB (oa.bind fun a => some (h a)) := fun c q => by
  obtain ⟨a, ha, q⟩ := Option.bind_eq_some_iff.mp q
  cases q
  obtain ⟨r, p1, p2⟩ := h1 a ha
  rw [v_isC, p1, v_bnd, p2, Option.bind_some, hg]
  rfl

/-! ### what is walked over -/
theorem iter_tx {d : α → D} {g : α → List β} (hg : ∀ a, seqItems (d a) = some ((g a).map eb)) {oa : Option α} (h : TX f e e' d oa) : TI (cIter f) e e' eb (oa.bind fun a => some (g a)) := fun l q => by
  obtain ⟨a, ha, q⟩ := Option.bind_eq_some_iff.mp q
  cases q
  obtain ⟨r, e2, p1, p2⟩ := h a ha
  show ((f e).bnd _) = _
  rw [p1, v_bnd, p2]
  show optB (seqItems (d a)) e' = _
  rw [hg]
  rfl
theorem ti_L {oa : Option (List α)} (h : TX f e e' (eL ea) oa) : TI (cIter f) e e' ea (oa.bind fun a => some a) := iter_tx (g := id) (fun _ => rfl) h
theorem ti_T {oa : Option (List α)} (h : TX f e e' (eT ea) oa) : TI (cIter f) e e' ea (oa.bind fun a => some a) := iter_tx (g := id) (fun _ => rfl) h
theorem ti_P {oa : Option (α × α)} (h : TX f e e' (eP ea ea) oa) : TI (cIter f) e e' ea (oa.bind fun a => some [a.1, a.2]) := iter_tx (g := fun a => [a.1, a.2]) (fun _ => rfl) h
def rngT (lo : Int) (n : Nat) : List Int := (List.range n).map fun i => lo + (i : Nat)
def inW (n : Int) : Bool := match n with
  | .ofNat m => Nat.ble m 4611686018427387903
  | .negSucc m => Nat.ble m 4611686018427387903
theorem inW_ok {n : Int} (h : inW n = true) : -(2 ^ 62) ≤ n ∧ n < 2 ^ 62 := by
  cases n with
  | ofNat m =>
    have : m ≤ 4611686018427387903 := Nat.le_of_ble_eq_true h
    rw [Int.ofNat_eq_natCast]
    omega
  | negSucc m =>
    have : m ≤ 4611686018427387903 := Nat.le_of_ble_eq_true h
    rw [Int.negSucc_eq]
    omega
theorem inW_of {n : Int} (h : 0 ≤ n) (h2 : n < 4611686018427387904) : inW n = true := by
  cases n with
  | ofNat m =>
    rw [Int.ofNat_eq_natCast] at h2
    exact Nat.ble_eq_true_of_le (by omega)
  | negSucc m =>
    rw [Int.negSucc_eq] at h
    omega
@[irreducible] def rngO (n : Int) : Option (List Int) := bif inW n then some (rngT 0 n.toNat) else none
@[irreducible] def rngO2 (m n : Int) : Option (List Int) := bif inW m then bif inW n then some (rngT m (n - m).toNat) else none else none
theorem ti_rng1 {oa : Option Int} (h : TV f e eI oa) : TI (cRange1 (cCons f cNil)) e e eI (oa.bind fun n => rngO n) := fun l q => by
  obtain ⟨a, ha, q⟩ := Option.bind_eq_some_iff.mp q
  unfold rngO at q
  cases hw : inW a with
  | true =>
    rw [hw] at q
    have hr := inW_ok hw
    cases q
    show ((cCons f cNil e).bnd _) = _
    rw [v_cons, h a ha, v_bnd, v_nil, v_bnd, v_bnd]
    show optB (if _ then _ else _) e = _
    rw [if_pos hr]
    unfold rngT
    rw [List.map_map]
    rfl
  | false => rw [hw] at q; cases q
theorem ti_rng2 {oa ob : Option Int} (h : TV f e eI oa) (h2 : TV f2 e eI ob) : TI (cRange2 (cCons f (cCons f2 cNil))) e e eI (oa.bind fun m => ob.bind fun n => rngO2 m n) := fun l q => by
  obtain ⟨a, b, ha, hb, q⟩ := bind2 q
  unfold rngO2 at q
  cases hw : inW a with
  | false => rw [hw] at q; cases q
  | true =>
   rw [hw] at q
   cases hw2 : inW b with
   | false => rw [hw2] at q; cases q
   | true =>
    rw [hw2] at q
    have hr : -(2 ^ 62) ≤ a ∧ a < 2 ^ 62 ∧ -(2 ^ 62) ≤ b ∧ b < 2 ^ 62 := ⟨(inW_ok hw).1, (inW_ok hw).2, (inW_ok hw2).1, (inW_ok hw2).2⟩
    cases q
    show ((cCons f (cCons f2 cNil) e).bnd _) = _
    rw [v_cons, h a ha, v_bnd, v_cons, h2 b hb, v_bnd, v_nil, v_bnd, v_bnd, v_bnd]
    show optB (if _ then _ else _) e = _
    rw [if_pos hr]
    unfold rngT
    rw [List.map_map]
    rfl

/-! ### comprehensions -/
def lcP (l : List α) (p : α → Bool) (h : α → β) : Option (List β) := if l.length ≤ sizeLine then some ((l.filter p).map h) else none
def lcGo (p : α → Option Bool) (h : α → Option β) : List α → Option (List β)
  | [] => some []
  | a :: l => (p a).bind fun b => if b then (h a).bind fun y => (lcGo p h l).bind fun ys => some (y :: ys) else lcGo p h l
def lcO (l : List α) (p : α → Option Bool) (h : α → Option β) : Option (List β) := if l.length ≤ sizeLine then lcGo p h l else none
theorem lcL_go {vs : List Nat} {g : Tg} {t : M Bool} {f : M R} {p : α → Option Bool} {h : α → Option β} (E : α → Env)
    (H : ∀ a, g (ea a) (e1.wipe vs) = some (E a) ∧ (E a).wipe vs = e1.wipe vs) (ht : ∀ a, TB t (E a) (p a)) (hf : ∀ a, TX f (E a) (E a) eb (h a)) :
    ∀ {l : List α} {acc : List D} {ys : List β} {e : Env}, e.wipe vs = e1.wipe vs → acc.length + l.length ≤ sizeLine → lcGo p h l = some ys → ∃ e', lcL vs g t f (l.map ea) acc e = .ok (acc ++ ys.map eb) e' ∧ e'.wipe vs = e1.wipe vs
  | [], acc, ys, e, hw, _, q => by
    cases q
    exact ⟨e, by rw [List.map_nil, List.map_nil, List.append_nil]; rfl, hw⟩
  | a :: l, acc, ys, e, hw, hl, q => by
    obtain ⟨b, hb, q⟩ := Option.bind_eq_some_iff.mp q
    obtain ⟨g1, g2⟩ := H a
    rw [List.length_cons] at hl
    rw [List.map_cons, lcL, hw, g1]
    simp only [ht a b hb]
    cases b with
    | true =>
      rw [if_pos rfl] at q
      obtain ⟨y, hy, q⟩ := Option.bind_eq_some_iff.mp q
      obtain ⟨zs, hz, q⟩ := Option.bind_eq_some_iff.mp q
      cases q
      obtain ⟨r, e2, p1, p2⟩ := hf a y hy
      simp only [p1, p2]
      rw [if_pos (by omega)]
      obtain ⟨e', q1, q2⟩ := lcL_go E H ht hf (l := l) (acc := acc ++ [eb y]) (ys := zs) (e := E a) g2 (by rw [List.length_append, List.length_singleton]; omega) hz
      exact ⟨e', by rw [q1]; simp, q2⟩
    | false =>
      rw [if_neg (by decide)] at q
      exact lcL_go E H ht hf (l := l) (acc := acc) (ys := ys) (e := E a) g2 (by omega) q
theorem tc_lcO {vs : List Nat} {fi : M (List D)} {g : Tg} {t : M Bool} {f : M R} {p : α → Option Bool} {h : α → Option β} {ol : Option (List α)} (E : α → Env) (hi : TI fi e e1 ea ol) (pl : plainAt e1 vs = true)
    (H : ∀ a, g (ea a) (e1.wipe vs) = some (E a) ∧ (E a).wipe vs = e1.wipe vs) (ht : ∀ a, TB t (E a) (p a)) (hf : ∀ a, TX f (E a) (E a) eb (h a)) : TC (cLc vs fi g t f) e e1 (eL eb) (ol.bind fun l => lcO l p h) := fun ys q => by
  obtain ⟨l, hl, q⟩ := Option.bind_eq_some_iff.mp q
  unfold lcO at q
  split at q
  · rename_i hs
    obtain ⟨e', q1, q2⟩ := lcL_go (acc := []) (e := e1) E H ht hf rfl (by simpa using hs) q
    unfold cLc
    rw [hi l hl, v_bnd, if_pos pl, q1]
    simp only [List.nil_append]
    rw [back_wipe q2]
    rfl
  · cases q
theorem lcGo_pure {p : α → Bool} {h : α → β} : ∀ l : List α, lcGo (fun a => some (p a)) (fun a => some (h a)) l = some ((l.filter p).map h)
  | [] => rfl
  | a :: l => by
    rw [lcGo, Option.bind_some, lcGo_pure l]
    cases hp : p a <;> simp [hp]
theorem lcO_pure {l : List α} {p : α → Bool} {h : α → β} : lcO l (fun a => some (p a)) (fun a => some (h a)) = lcP l p h := by
  unfold lcO lcP
  rw [lcGo_pure]
theorem lcGo_eq {p : α → Option Bool} {h : α → Option β} {p' : α → Bool} {h' : α → β} : ∀ {l : List α}, (∀ a ∈ l, p a = some (p' a)) → (∀ a ∈ l, p' a = true → h a = some (h' a)) → lcGo p h l = some ((l.filter p').map h')
  | [], _, _ => rfl
  | a :: l, hp, hh => by
    rw [lcGo, hp a List.mem_cons_self, Option.bind_some, lcGo_eq (fun b hb => hp b (List.mem_cons_of_mem _ hb)) (fun b hb => hh b (List.mem_cons_of_mem _ hb))]
    cases hq : p' a with
    | true => rw [hh a List.mem_cons_self hq]; simp [hq]
    | false => simp [hq]
theorem lcO_eq {l : List α} {p : α → Option Bool} {h : α → Option β} (p' : α → Bool) (h' : α → β) (hl : l.length ≤ 16777216) (hp : ∀ a ∈ l, p a = some (p' a)) (hh : ∀ a ∈ l, p' a = true → h a = some (h' a)) : lcO l p h = some ((l.filter p').map h') := by
  unfold lcO
  rw [if_pos (by rw [sizeLine_eq]; exact hl), lcGo_eq hp hh]
theorem lcP_eq {l : List α} {p : α → Bool} {h : α → β} (hl : l.length ≤ 16777216) : lcP l p h = some ((l.filter p).map h) := if_pos (by rw [sizeLine_eq]; exact hl)
theorem tc_lcP {vs : List Nat} {fi : M (List D)} {g : Tg} {t : M Bool} {f : M R} {p : α → Bool} {h : α → β} {ol : Option (List α)} (E : α → Env) (hi : TI fi e e1 ea ol) (pl : plainAt e1 vs = true)
    (H : ∀ a, g (ea a) (e1.wipe vs) = some (E a) ∧ (E a).wipe vs = e1.wipe vs) (ht : ∀ a, TB t (E a) (some (p a))) (hf : ∀ a, TX f (E a) (E a) eb (some (h a))) : TC (cLc vs fi g t f) e e1 (eL eb) (ol.bind fun l => lcP l p h) := by
  have := tc_lcO E hi pl H ht hf
  simp only [lcO_pure] at this
  exact this
theorem tb_yes : TB tYs e (some true) := fun _ q => by cases q; rfl

/-! ### dicts -/
def putA {κ : Type} [DecidableEq κ] (d : List (κ × α)) (k : κ) (v : α) : List (κ × α) := if d.any (fun p => decide (p.1 = k)) then d.map fun p => if p.1 = k then (p.1, v) else p else d ++ [(k, v)]
theorem putDv_s (d : List (Nm × α)) (k : Nm) (v : α) : putDv (d.map fun p => Sum.inr p.1.1) (d.map fun p => ea p.2) (.inr k.1) (ea v) = ((putA d k v).map fun p => Sum.inr p.1.1, (putA d k v).map fun p => ea p.2) := by
  unfold putDv putA
  have e0 : ∀ p : Nm × α, ((Sum.inr p.1.1 : Key) = Sum.inr k.1) ↔ p.1 = k := fun p => ⟨fun z => Subtype.ext (Sum.inr.inj z), fun z => by rw [z]⟩
  have e1 : ((d.map fun p => (Sum.inr p.1.1 : Key)).any fun j => decide (j = Sum.inr k.1)) = d.any fun p => decide (p.1 = k) := by
    rw [List.any_map]
    refine congrArg (List.any d) (funext fun p => ?_)
    exact decide_eq_decide.mpr (e0 p)
  rw [e1]
  by_cases h : (d.any fun p => decide (p.1 = k)) = true
  · rw [if_pos h, if_pos h, List.map_map, List.map_map, List.zip_map', List.map_map]
    congr 1
    · refine List.map_congr_left fun p _ => ?_
      simp only [Function.comp]
      split <;> rfl
    · refine List.map_congr_left fun p _ => ?_
      simp only [Function.comp, e0]
      split <;> rfl
  · rw [if_neg h, if_neg h, List.map_append, List.map_append]
    rfl
theorem putDv_i (d : List (Int × α)) (k : Int) (v : α) : putDv (d.map fun p => Sum.inl p.1) (d.map fun p => ea p.2) (.inl k) (ea v) = ((putA d k v).map fun p => Sum.inl p.1, (putA d k v).map fun p => ea p.2) := by
  unfold putDv putA
  have e0 : ∀ p : Int × α, ((Sum.inl p.1 : Key) = Sum.inl k) ↔ p.1 = k := fun p => ⟨fun z => Sum.inl.inj z, fun z => by rw [z]⟩
  have e1 : ((d.map fun p => (Sum.inl p.1 : Key)).any fun j => decide (j = Sum.inl k)) = d.any fun p => decide (p.1 = k) := by
    rw [List.any_map]
    refine congrArg (List.any d) (funext fun p => ?_)
    exact decide_eq_decide.mpr (e0 p)
  rw [e1]
  by_cases h : (d.any fun p => decide (p.1 = k)) = true
  · rw [if_pos h, if_pos h, List.map_map, List.map_map, List.zip_map', List.map_map]
    congr 1
    · refine List.map_congr_left fun p _ => ?_
      simp only [Function.comp]
      split <;> rfl
    · refine List.map_congr_left fun p _ => ?_
      simp only [Function.comp, e0]
      split <;> rfl
  · rw [if_neg h, if_neg h, List.map_append, List.map_append]
    rfl
def getA {κ : Type} [DecidableEq κ] (d : List (κ × α)) (k : κ) : Option α := (d.find? fun p => decide (p.1 = k)).map (·.2)
theorem zip_find {κ : Type} {p : κ × α → Bool} {fk : κ × α → Key} {k : Key} (h : ∀ q, (decide (fk q = k)) = p q) : ∀ d : List (κ × α), (((d.map fk).zip (d.map fun q => ea q.2)).find? fun kv => decide (kv.1 = k)).map (·.2) = ((d.find? p).map (·.2)).map ea
  | [] => rfl
  | q :: d => by
    rw [List.map_cons, List.map_cons, List.zip_cons_cons, List.find?_cons, List.find?_cons, h q]
    cases p q with
    | true => rfl
    | false => exact zip_find h d
theorem ix_s (d : List (Nm × α)) (k : Nm) : ixD (eDs ea d) (eS k) = (getA d k).map ea := by
  simp only [eDs, eS, ixD, keyOf, Option.bind_some]
  exact zip_find (fk := fun p => .inr p.1.1) (p := fun p => decide (p.1 = k)) (fun q => decide_eq_decide.mpr ⟨fun z => Subtype.ext (Sum.inr.inj z), fun z => by rw [z]⟩) d
theorem ix_i (d : List (Int × α)) (k : Int) : ixD (eDi ea d) (eI k) = (getA d k).map ea := by
  simp only [eDi, eI, ixD, keyOf, Option.bind_some]
  exact zip_find (fk := fun p => .inl p.1) (p := fun p => decide (p.1 = k)) (fun q => decide_eq_decide.mpr ⟨fun z => Sum.inl.inj z, fun z => by rw [z]⟩) d
theorem op_ixS : Op2 ixD (eDs ea) eS ea fun d k => getA d k := fun d k c h => by rw [ix_s, show getA d k = some c from h]; rfl
theorem op_ixI : Op2 ixD (eDi ea) eI ea fun d k => getA d k := fun d k c h => by rw [ix_i, show getA d k = some c from h]; rfl
theorem hasK_map {κ : Type} {fk : κ → Key} (k : κ) [DecidableEq κ] (h : ∀ a b, fk a = fk b → a = b) (l : List (κ × α)) : hasK (l.map fun p => fk p.1) (fk k) = l.any fun p => decide (p.1 = k) := by
  unfold hasK
  rw [List.any_map]
  exact congrArg (List.any l) (funext fun p => decide_eq_decide.mpr ⟨h _ _, fun z => congrArg fk z⟩)
def hasA {κ : Type} [DecidableEq κ] (d : List (κ × α)) (k : κ) : Bool := d.any fun p => decide (p.1 = k)
theorem op_inDs : Op2 inD eS (eDs ea) eB fun k d => some (hasA d k) := fun k d c h => by
  cases h
  show (inB _ _).map D.bl = _
  have : hasK (d.map fun p => (Sum.inr p.1.1 : Key)) (.inr k.1) = hasA d k := hasK_map (fk := fun k : Nm => (Sum.inr k.1 : Key)) k (fun a b z => Subtype.ext (Sum.inr.inj z)) d
  show some (D.bl (hasK (d.map fun p => (Sum.inr p.1.1 : Key)) (.inr k.1))) = _
  rw [this]
  rfl
theorem op_notInDs : Op2 notInD eS (eDs ea) eB fun k d => some (!hasA d k) := fun k d c h => by
  cases h
  have : hasK (d.map fun p => (Sum.inr p.1.1 : Key)) (.inr k.1) = hasA d k := hasK_map (fk := fun k : Nm => (Sum.inr k.1 : Key)) k (fun a b z => Subtype.ext (Sum.inr.inj z)) d
  show some (D.bl (!hasK (d.map fun p => (Sum.inr p.1.1 : Key)) (.inr k.1))) = _
  rw [this]
  rfl
/-- d.get(k, other) -/
theorem tv_get2 {od : Option (List (Nm × α))} {ok : Option Nm} (h1 : TR f1 e (eDs ea) od) (h2 : TV f2 e eS ok) (h3 : TV f3 e ea oa) : TV (cGet2 f1 f2 f3) e ea (od.bind fun d => ok.bind fun k => oa.bind fun a => some ((getA d k).getD a)) := fun c q => by
  obtain ⟨d, k, hd, hk, q⟩ := bind2 q
  obtain ⟨a, ha, q⟩ := Option.bind_eq_some_iff.mp q
  cases q
  obtain ⟨r, p1, p2⟩ := h1 d hd
  show ((f1 e).bnd _) = _
  rw [p1, v_bnd, p2]
  show ((f2 e).bnd _) = _
  rw [h2 k hk, v_bnd, h3 a ha, v_bnd]
  show get2V r (ea a) e (kD (.str k.1)) = _
  show (match e.rd r with
    | some (.dct ks l) => Out.ok (R.val ((zipAt ks l (.inr k.1)).getD (ea a))) e
    | _ => Out.bad) = _
  rw [p2]
  show Out.ok (R.val ((zipAt _ _ (.inr k.1)).getD (ea a))) e = _
  have z : zipAt (d.map fun p => Sum.inr p.1.1) (d.map fun p => ea p.2) (.inr k.1) = (getA d k).map ea := zip_find (fk := fun p => .inr p.1.1) (p := fun p => decide (p.1 = k)) (fun q => decide_eq_decide.mpr ⟨fun z => Subtype.ext (Sum.inr.inj z), fun z => by rw [z]⟩) d
  rw [z]
  cases getA d k <;> rfl
end
end DL

namespace DL
open PySem L2 PySem.Spec PyProof.Rows

/-! ### typed: equal values -/
section
variable {α β γ δ ε ζ ρ σ X : Type}
variable {f f1 f2 f3 f4 f5 f6 : M R} {e e0 e1 e2 e3 e4 e5 e6 e' : Env} {enc : α → D} {o : Option α} {i j : Nat}
variable {ea : α → D} {eb : β → D} {ec : γ → D} {ed : δ → D} {ee : ε → D} {ez : ζ → D} {er : ρ → D} {oa : Option α} {ob : Option β} {oc : Option γ} {od : Option δ} {oe : Option ε} {oz : Option ζ}
structure EqT [DecidableEq α] (k : Nat) (enc : α → D) : Prop where
  sh : ∀ a, Sh k (enc a)
  eq : ∀ a b, eqB (enc a) (enc b) = decide (a = b)
theorem EqT.mono [DecidableEq α] {k j : Nat} (h : EqT k ea) (hj : k ≤ j) : EqT j ea := ⟨fun a => (h.sh a).mono hj, h.eq⟩
theorem eqB_int {a b : Int} : eqB (.int a) (.int b) = decide (a = b) := by
  show (a == b) = _
  by_cases h : a = b <;> simp [h]
theorem eqB_bl {a b : Bool} : eqB (.bl a) (.bl b) = decide (a = b) := by
  cases a <;> cases b <;> rfl
theorem eq_I : EqT 0 eI := ⟨fun _ => .int, fun _ _ => eqB_int⟩
theorem eq_B : EqT 0 eB := ⟨fun _ => .bl, fun _ _ => eqB_bl⟩
theorem eq_S : EqT 0 eS := ⟨fun a => .str a.2, fun a b => by
  show eqB (.str a.1) (.str b.1) = _
  rw [eqB_str]
  exact decide_eq_decide.mpr ⟨fun z => Subtype.ext z, fun z => by rw [z]⟩⟩
theorem eqvAll_map [DecidableEq α] {k : Nat} (h : EqT k ea) : ∀ l m : List α, PyData.eqvAll (D.pyL (l.map ea)) (D.pyL (m.map ea)) = decide (l = m)
  | [], [] => by simp [D.pyL, PyData.eqvAll]
  | [], _ :: _ => by simp [D.pyL, PyData.eqvAll]
  | _ :: _, [] => by simp [D.pyL, PyData.eqvAll]
  | a :: l, b :: m => by
    rw [List.map_cons, List.map_cons, eqvAll_cons, h.eq, eqvAll_map h l m]
    by_cases h : a = b <;> by_cases h2 : l = m <;> simp [h, h2]
theorem eq_T [DecidableEq α] {k : Nat} (h : EqT k ea) : EqT (k + 1) (eT ea) := ⟨fun l => .tup fun d hd => by
  obtain ⟨s, hs, rfl⟩ := List.mem_map.mp hd
  exact h.sh s, fun a b => by
  show eqB (.tup _) (.tup _) = _
  rw [eqB_tup, eqvAll_map h]⟩
theorem eq_L [DecidableEq α] {k : Nat} (h : EqT k ea) : EqT (k + 1) (eL ea) := ⟨fun l => .lst fun d hd => by
  obtain ⟨s, hs, rfl⟩ := List.mem_map.mp hd
  exact h.sh s, fun a b => by
  show eqB (.lst _) (.lst _) = _
  rw [eqB_lst, eqvAll_map h]⟩
theorem sh2 {k : Nat} {a b : D} (h : Sh k a) (h2 : Sh k b) : ∀ d ∈ [a, b], Sh k d := fun d hd => by
  rcases List.mem_cons.mp
                                                                                                              hd with rfl | hd
  · exact h
  · rw [List.mem_singleton.mp hd]; exact h2
theorem sh3 {k : Nat} {a b c : D} (h : Sh k a) (h2 : Sh k b) (h3 : Sh k c) : ∀ d ∈ [a, b, c], Sh k d := fun d hd => by
  rcases List.mem_cons.mp
                                                                                                              hd with rfl | hd
  · exact h
  · exact sh2 h2 h3 d hd
theorem sh4 {k : Nat} {a b c x : D} (h : Sh k a) (h2 : Sh k b) (h3 : Sh k c) (h4 : Sh k x) : ∀ d ∈ [a, b, c, x], Sh k d := fun d hd => by
  rcases List.mem_cons.mp
                                                                                                              hd with rfl | hd
  · exact h
  · exact sh3 h2 h3 h4 d hd
theorem eqvAll_nil : PyData.eqvAll (D.pyL []) (D.pyL []) = true := by simp [D.pyL, PyData.eqvAll]
theorem eq_P [DecidableEq α] [DecidableEq β] {k : Nat} (h : EqT k ea) (h2 : EqT k eb) : EqT (k + 1) (eP ea eb) := ⟨fun p => .tup (sh2 (h.sh _) (h2.sh _)), fun a b => by
  show eqB (.tup _) (.tup _) = _
  rw [eqB_tup, eqvAll_cons, eqvAll_cons, h.eq, h2.eq, eqvAll_nil]
  obtain ⟨a1, a2⟩ := a
  obtain ⟨b1, b2⟩ := b
  by_cases q : a1 = b1 <;> by_cases q2 : a2 = b2 <;> simp [q, q2]⟩
theorem eq_P3 [DecidableEq α] [DecidableEq β] [DecidableEq γ] {k : Nat} (h : EqT k ea) (h2 : EqT k eb) (h3 : EqT k ec) : EqT (k + 1) (eP3 ea eb ec) := ⟨fun p => .tup (sh3 (h.sh _) (h2.sh _) (h3.sh _)), fun a b => by
  show eqB (.tup _) (.tup _) = _
  rw [eqB_tup, eqvAll_cons, eqvAll_cons, eqvAll_cons, h.eq, h2.eq, h3.eq, eqvAll_nil]
  obtain ⟨a1, a2, a3⟩ := a
  obtain ⟨b1, b2, b3⟩ := b
  by_cases q : a1 = b1 <;> by_cases q2 : a2 = b2 <;> by_cases q3 : a3 = b3 <;> simp [q, q2, q3]⟩
theorem eq_H2 [DecidableEq α] [DecidableEq β] {k : Nat} (h : EqT k ea) (h2 : EqT k eb) : EqT (k + 1) (eH2 ea eb) := ⟨fun p => .lst (sh2 (h.sh _) (h2.sh _)), fun a b => by
  show eqB (.lst _) (.lst _) = _
  rw [eqB_lst, eqvAll_cons, eqvAll_cons, h.eq, h2.eq, eqvAll_nil]
  obtain ⟨a1, a2⟩ := a
  obtain ⟨b1, b2⟩ := b
  by_cases q : a1 = b1 <;> by_cases q2 : a2 = b2 <;> simp [q, q2]⟩
theorem eq_H3 [DecidableEq α] [DecidableEq β] [DecidableEq γ] {k : Nat} (h : EqT k ea) (h2 : EqT k eb) (h3 : EqT k ec) : EqT (k + 1) (eH3 ea eb ec) := ⟨fun p => .lst (sh3 (h.sh _) (h2.sh _) (h3.sh _)), fun a b => by
  show eqB (.lst _) (.lst _) = _
  rw [eqB_lst, eqvAll_cons, eqvAll_cons, eqvAll_cons, h.eq, h2.eq, h3.eq, eqvAll_nil]
  obtain ⟨a1, a2, a3⟩ := a
  obtain ⟨b1, b2, b3⟩ := b
  by_cases q : a1 = b1 <;> by_cases q2 : a2 = b2 <;> by_cases q3 : a3 = b3 <;> simp [q, q2, q3]⟩
/-- never None -/
structure NN (enc : α → D) : Prop where
  nn : ∀ a, (enc a).isNon = false
theorem nn_I : NN eI := ⟨fun _ => rfl⟩
theorem nn_B : NN eB := ⟨fun _ => rfl⟩
theorem nn_S : NN eS := ⟨fun _ => rfl⟩
theorem nn_T : NN (eT ea) := ⟨fun _ => rfl⟩
theorem nn_L : NN (eL ea) := ⟨fun _ => rfl⟩
theorem nn_P : NN (eP ea eb) := ⟨fun _ => rfl⟩
theorem nn_P3 : NN (eP3 ea eb ec) := ⟨fun _ => rfl⟩
theorem nn_P4 : NN (eP4 ea eb ec ed) := ⟨fun _ => rfl⟩
theorem nn_P5 : NN (eP5 ea eb ec ed ee) := ⟨fun _ => rfl⟩
theorem eqB_non {d : D} (h : d.isNon = false) (p : d.pl = true) : eqB .non d = false ∧ eqB d .non = false := by
  cases d <;> first | (exact absurd h (by decide)) | (exact absurd p (by decide)) | exact ⟨by simp [eqB, D.py, PyData.eqv], by simp [eqB, D.py, PyData.eqv]⟩
theorem eq_O [DecidableEq α] {k : Nat} (h : EqT k ea) (n : NN ea) : EqT k (eO ea) := ⟨fun a => by
  cases a with
  | none => exact .non
  | some a => exact h.sh a, fun a b => by
  have z : ∀ a, eqB .non (ea a) = false ∧ eqB (ea a) .non = false := fun a => eqB_non (n.nn a) (h.sh a).facts.1
  cases a with
  | none =>
    cases b with
    | none => simp [eO, eqB, D.py, PyData.eqv]
    | some b => rw [eO, eO, (z b).1]; simp
  | some a =>
    cases b with
    | none => rw [eO, eO, (z a).2]; simp
    | some b => rw [eO, eO, h.eq]; simp⟩
def eqv [DecidableEq α] (a b : α) : Bool := decide (a = b)
def memv [DecidableEq α] (a : α) (l : List α) : Bool := decide (a ∈ l)
@[simp] theorem eqv_iff [DecidableEq α] {a b : α} : eqv a b = true ↔ a = b := decide_eq_true_iff
@[simp] theorem eqv_no [DecidableEq α] {a b : α} : eqv a b = false ↔ a ≠ b := decide_eq_false_iff_not
@[simp] theorem memv_iff [DecidableEq α] {a : α} {l : List α} : memv a l = true ↔ a ∈ l := decide_eq_true_iff
@[simp] theorem memv_no [DecidableEq α] {a : α} {l : List α} : memv a l = false ↔ a ∉ l := decide_eq_false_iff_not
theorem op_eq [DecidableEq α] {k : Nat} (h : EqT k ea) (hk : k ≤ 64 := by decide) : Op2 eqD ea ea eB fun a b => some (eqv a b) := fun a b c q => by
  cases q
  rw [eqD_of (h.sh a) (h.sh b) hk, h.eq]
  rfl
theorem op_ne [DecidableEq α] {k : Nat} (h : EqT k ea) (hk : k ≤ 64 := by decide) : Op2 neD ea ea eB fun a b => some (!eqv a b) := fun a b c q => by
  cases q
  rw [neD_of (h.sh a) (h.sh b) hk, h.eq]
  rfl
theorem op_isO (n : NN ea) : Op2 isD (eO ea) eU eB fun a _ => some a.isNone := fun a b c q => by
  cases q
  cases a with
  | none => rfl
  | some a => show some (D.bl (ea a).isNon) = _; rw [n.nn]; rfl
theorem op_isNotO (n : NN ea) : Op2 isNotD (eO ea) eU eB fun a _ => some a.isSome := fun a b c q => by
  cases q
  cases a with
  | none => rfl
  | some a => show some (D.bl (!(ea a).isNon)) = _; rw [n.nn]; rfl
theorem memB_map [DecidableEq α] {k : Nat} (h : EqT k ea) (a : α) : ∀ l : List α, memB (ea a) (l.map ea) = decide (a ∈ l)
  | [] => by simp [memB_nil]
  | b :: l => by
    rw [List.map_cons, memB_cons, memB_map h, h.eq]
    by_cases q : b = a
    · simp [q]
    · have q2 : ¬ a = b := fun z => q z.symm
      simp [q, q2]
theorem op_inT [DecidableEq α] {k : Nat} (h : EqT k ea) (hk : k + 1 ≤ 64 := by decide) : Op2 inD ea (eT ea) eB fun a l => some (memv a l) := fun a b c q => by
  cases q
  show inD (ea a) (.tup (b.map ea)) = _
  rw [inD_tup (k := k + 1) ((h.sh a).mono (Nat.le_succ k)) ((eq_T h).sh b) hk, memB_map h]
  rfl
theorem op_inL [DecidableEq α] {k : Nat} (h : EqT k ea) (hk : k + 1 ≤ 64 := by decide) : Op2 inD ea (eL ea) eB fun a l => some (memv a l) := fun a b c q => by
  cases q
  show inD (ea a) (.lst (b.map ea)) = _
  rw [inD_lst (k := k + 1) ((h.sh a).mono (Nat.le_succ k)) ((eq_L h).sh b) hk, memB_map h]
  rfl
theorem op_notInT [DecidableEq α] {k : Nat} (h : EqT k ea) (hk : k + 1 ≤ 64 := by decide) : Op2 notInD ea (eT ea) eB fun a l => some (!memv a l) := fun a b c q => by
  cases q
  show notInD (ea a) (.tup (b.map ea)) = _
  rw [notInD_tup (k := k + 1) ((h.sh a).mono (Nat.le_succ k)) ((eq_T h).sh b) hk, memB_map h]
  rfl
theorem op_notInL [DecidableEq α] {k : Nat} (h : EqT k ea) (hk : k + 1 ≤ 64 := by decide) : Op2 notInD ea (eL ea) eB fun a l => some (!memv a l) := fun a b c q => by
  cases q
  show notInD (ea a) (.lst (b.map ea)) = _
  rw [notInD_lst (k := k + 1) ((h.sh a).mono (Nat.le_succ k)) ((eq_L h).sh b) hk, memB_map h]
  rfl
def inO [DecidableEq α] : Option α → List α → Bool
  | none, _ => false
  | some a, l => memv a l
/-- a value that may be None, in a list of values that are not -/
theorem op_inLO [DecidableEq α] {k : Nat} (h : EqT k ea) (n : NN ea) (hk : k + 1 ≤ 64 := by decide) : Op2 inD (eO ea) (eL ea) eB fun a l => some (inO a l) := fun a b c q => by
  cases q
  cases a with
  | none =>
    show inD .non (.lst (b.map ea)) = _
    rw [inD_lst (k := k + 1) .non ((eq_L h).sh b) hk]
    have : memB .non (b.map ea) = false := by
      induction b with
      | nil => simp [memB_nil]
      | cons x l ih => rw [List.map_cons, memB_cons, ih, (eqB_non (n.nn x) (h.sh x).facts.1).2]; rfl
    rw [this]
    rfl
  | some a => exact op_inL h hk a b _ rfl
/-! ### typed: numbers, sequences -/
theorem op_ltI : Op2 ltD eI eI eB fun a b => some (decide (a < b)) := fun _ _ _ q => by cases q; rfl
theorem op_leI : Op2 leD eI eI eB fun a b => some (decide (a ≤ b)) := fun _ _ _ q => by cases q; rfl
theorem op_gtI : Op2 gtD eI eI eB fun a b => some (decide (b < a)) := fun _ _ _ q => by cases q; rfl
theorem op_geI : Op2 geD eI eI eB fun a b => some (decide (b ≤ a)) := fun _ _ _ q => by cases q; rfl
def ltN (a b : Nm) : Bool := ltS a.1 b.1
theorem op_ltN : Op2 ltD eS eS eB fun a b => some (ltN a b) := fun _ _ _ q => by cases q; rfl
theorem op_addI : Op2 addD eI eI eI fun a b => some (a + b) := fun _ _ _ q => by cases q; rfl
theorem op_subI : Op2 subD eI eI eI fun a b => some (a - b) := fun _ _ _ q => by cases q; rfl
def mulI (a b : Int) : Option Int := if mulOk a b then some (a * b) else none
theorem op_mulI : Op2 mulD eI eI eI mulI := fun a b c q => by
  unfold mulI at q
  show (if mulOk a b then _ else _) = _
  split at q
  · rename_i h; cases q; rw [if_pos h]; rfl
  · cases q
def modI (a b : Int) : Option Int := if 0 < b then some (a % b) else none
theorem op_modI : Op2 modD eI eI eI modI := fun a b c q => by
  unfold modI at q
  split at q
  · rename_i h; cases q; exact v_modI h
  · cases q
def fdivI (a b : Int) : Option Int := if 0 < b ∧ b < 1073741824 then some (a / b) else none
theorem op_fdivI : Op2 fdivD eI eI eI fdivI := fun a b c q => by
  unfold fdivI at q
  split at q
  · rename_i h; cases q; exact v_divI h.1 h.2
  · cases q
theorem op_addL : Op2 addD (eL ea) (eL ea) (eL ea) addL := fun a b c q => by
  obtain ⟨hl, rfl⟩ := addL_inv q
  show (if _ then _ else _) = _
  rw [List.length_map, List.length_map, if_pos hl, eL, List.map_append]
theorem op_addT : Op2 addD (eT ea) (eT ea) (eT ea) addL := fun a b c q => by
  obtain ⟨hl, rfl⟩ := addL_inv q
  show (if _ then _ else _) = _
  rw [List.length_map, List.length_map, if_pos hl, eT, List.map_append]
theorem op_repL : Op2 mulD (eL ea) eI (eL ea) repL := fun a b c q => by
  unfold repL at q
  show (if _ then _ else _) = _
  rw [List.length_map]
  split at q
  · rename_i h; cases q; rw [if_pos h, eL, List.map_flatten, List.map_replicate]
  · cases q
theorem op_ixL : Op2 ixD (eL ea) eI ea fun l k => atI l k := fun l k c q => by
  show atI (l.map ea) k = _
  rw [atI_map, show atI l k = some c from q]
  rfl
theorem op_ixT : Op2 ixD (eT ea) eI ea fun l k => atI l k := fun l k c q => by
  show atI (l.map ea) k = _
  rw [atI_map, show atI l k = some c from q]
  rfl
theorem tv_ixc {n : Int} {h : α → γ} (hg : ∀ a, ixD (ea a) (.int n) = some (ec (h a))) (h1 : TR f1 e ea oa) : TV (cOp ixD f1 (cC (.int n))) e ec (oa.bind fun a => some (h a)) := fun c q => by
  obtain ⟨a, ha, q⟩ := Option.bind_eq_some_iff.mp q
  cases q
  obtain ⟨r, p1, p2⟩ := h1 a ha
  rw [v_op, p1, v_bnd, v_c, v_bnd, p2, v_rdV, v_opt2, hg]
  rfl
def TP (f : M (Option Int)) (e : Env) (o : Option (Option Int)) : Prop := ∀ a, o = some a → f e = .ok a e
theorem tp_none : TP cNoPart e (some none) := fun _ q => by cases q; rfl
theorem tp_some {oi : Option Int} (h : TV f e eI oi) : TP (cPart f) e (oi.bind fun n => some (some n)) := fun a q => by
  obtain ⟨n, hn, q⟩ := Option.bind_eq_some_iff.mp q
  cases q
  rw [v_part, h n hn]
  rfl
theorem cutL_map {g : α → β} (l : List α) (a b : Option Int) : cutL (l.map g) a b = (cutL l a b).map g := by
  unfold cutL
  rw [List.length_map, List.map_take, List.map_drop]
theorem tv_sl {d : α → D} {lo hi : M (Option Int)} {ol oh : Option (Option Int)} {h : α → Option Int → Option Int → α} (hg : ∀ a x y, slD (d a) x y = some (d (h a x y))) (h1 : TR f e d oa) (h2 : TP lo e ol) (h3 : TP hi e oh) :
    TV (cSl f lo hi) e d (oa.bind fun a => ol.bind fun x => oh.bind fun y => some (h a x y)) := fun c q => by
  obtain ⟨a, x, ha, hx, q⟩ := bind2 q
  obtain ⟨y, hy, q⟩ := Option.bind_eq_some_iff.mp q
  cases q
  obtain ⟨r, p1, p2⟩ := h1 a ha
  rw [v_sl, p1, v_bnd, h2 x hx, v_bnd, h3 y hy, v_bnd, p2, Option.bind_some, hg]
  rfl
theorem slL (a : List α) (x y : Option Int) : slD (eL ea a) x y = some (eL ea (cutL a x y)) := by
  show some (D.lst (cutL (a.map ea) x y)) = _
  rw [cutL_map]
  rfl
theorem slT (a : List α) (x y : Option Int) : slD (eT ea a) x y = some (eT ea (cutL a x y)) := by
  show some (D.tup (cutL (a.map ea) x y)) = _
  rw [cutL_map]
  rfl
theorem tv_rev {oa : Option (List α)} (h1 : TR f e (eT ea) oa) : TV (cRevT f) e (eT ea) (oa.bind fun a => some a.reverse) := fun c q => by
  obtain ⟨a, ha, q⟩ := Option.bind_eq_some_iff.mp q
  cases q
  obtain ⟨r, p1, p2⟩ := h1 a ha
  rw [v_revT, p1, v_bnd, p2, Option.bind_some]
  show opt (some (.tup (a.map ea).reverse)) e = _
  rw [← List.map_reverse]
  rfl
theorem tv_revP {oa : Option (α × β)} (h1 : TR f e (eP ea eb) oa) : TV (cRevT f) e (eP eb ea) (oa.bind fun a => some (a.2, a.1)) := fun c q => by
  obtain ⟨a, ha, q⟩ := Option.bind_eq_some_iff.mp q
  cases q
  obtain ⟨r, p1, p2⟩ := h1 a ha
  rw [v_revT, p1, v_bnd, p2, Option.bind_some]
  rfl
theorem fn_lenL : Fn1 lenD (eL ea) eI fun l => some (l.length : Int) := fun a c q => by
  cases q
  show some (D.int (a.map ea).length) = _
  rw [List.length_map]
  rfl
theorem fn_lenT : Fn1 lenD (eT ea) eI fun l => some (l.length : Int) := fun a c q => by
  cases q
  show some (D.int (a.map ea).length) = _
  rw [List.length_map]
  rfl
theorem fn_lenDs : Fn1 lenD (eDs ea) eI fun l => some (l.length : Int) := fun a c q => by
  cases q
  show some (D.int (a.map _).length) = _
  rw [List.length_map]
  rfl
def absI (a : Int) : Int := if a < 0 then -a else a
theorem fn_abs : Fn1 absD eI eI fun a => some (absI a) := fun a c q => by cases q; rfl
theorem fn_int : Fn1 intFnD eI eI fun a => some a := fun a c q => by cases q; rfl
theorem fn_listL : Fn1 listD (eL ea) (eL ea) fun a => some a := fun a c q => by cases q; rfl
theorem fn_listT : Fn1 listD (eT ea) (eL ea) fun a => some a := fun a c q => by cases q; rfl
theorem fn_tupleL : Fn1 tupleD (eL ea) (eT ea) fun a => some a := fun a c q => by cases q; rfl
theorem fn_tupleT : Fn1 tupleD (eT ea) (eT ea) fun a => some a := fun a c q => by cases q; rfl
theorem blsOf_map : ∀ l : List Bool, blsOf (l.map eB) = some l
  | [] => rfl
  | b :: l => by
    rw [List.map_cons]
    show (blsOf (l.map eB)).map _ = _
    rw [blsOf_map l]
    rfl
theorem fn_all : Fn1 allD (eL eB) eB fun l => some (l.all id) := fun a c q => by
  cases q
  show (blsOf (a.map eB)).map _ = _
  rw [blsOf_map]
  rfl
theorem fn_any : Fn1 anyD (eL eB) eB fun l => some (l.any id) := fun a c q => by
  cases q
  show (blsOf (a.map eB)).map _ = _
  rw [blsOf_map]
  rfl
def sortT (enc : α → D) (l : List α) : Option (List α) := if srtOk (l.map enc) then some (l.mergeSort fun a b => srtLe (enc a) (enc b)) else none
theorem sortT_eq {l c : List α} (q : sortT enc l = some c) : srtOk (l.map enc) = true ∧ sortD (l.map enc) = c.map enc := by
  unfold sortT at q
  split at q
  · rename_i h
    cases q
    exact ⟨h, (List.map_mergeSort (r := fun a b => srtLe (enc a) (enc b)) (s := srtLe) (f := enc) (l := l) fun a _ b _ => rfl).symm⟩
  · cases q
theorem fn_sortL : Fn1 sorted2D (eL enc) (eL enc) (sortT enc) := fun a c q => by
  obtain ⟨h1, h2⟩ := sortT_eq q
  show sortedD [.lst (a.map enc)] = _
  unfold sortedD
  simp only [h1, if_true, h2]
  rfl
theorem fn_sortTu : Fn1 sorted2D (eT enc) (eL enc) (sortT enc) := fun a c q => by
  obtain ⟨h1, h2⟩ := sortT_eq q
  show sortedD [.lst (a.map enc)] = _
  unfold sortedD
  simp only [h1, if_true, h2]
  rfl
theorem fn_min2 : Fn2 min2D eI eI eI fun a b => some (if b < a then b else a) := fun a b c q => by cases q; rfl
theorem fn_max2 : Fn2 max2D eI eI eI fun a b => some (if b > a then b else a) := fun a b c q => by cases q; rfl
def reprT (enc : α → D) (a : α) : Option Nm := match repr2D [enc a] with
  | some (.str s) => if h : PyData.strOk s = true then some ⟨s, h⟩ else none
  | _ => none
theorem fn_repr : Fn1 repr2D enc eS (reprT enc) := fun a c q => by
  unfold reprT at q
  split at q
  · rename_i s hs
    split at q
    · cases q; exact hs
    · cases q
  · cases q

/-! ### statements -/
def B (b : M Fl) (e : Env) (R : X → Fl → Env → Prop) (o : Option X) : Prop := ∀ x, o = some x → ∃ fl e', b e = .ok fl e' ∧ R x fl e'
variable {b c m m1 m2 rest : M Fl} {R : X → Fl → Env → Prop} {ox : Option X} {k : α → Option X}
theorem b_nx {x : X} (h : R x .nx e) : B sNx e R (some x) := fun _ q => by cases q; exact ⟨_, _, rfl, h⟩
theorem b_ct {x : X} (h : R x .ct e) : B sCt e R (some x) := fun _ q => by cases q; exact ⟨_, _, rfl, h⟩
theorem b_bk {x : X} (h : R x .bk e) : B sBk e R (some x) := fun _ q => by cases q; exact ⟨_, _, rfl, h⟩
theorem bndF_nx (o : Out Fl) : o.bndF sNx = o := by
  cases o with
  | ok a e => cases a <;> rfl
  | exn x e => rfl
  | bad => rfl
theorem b_one (h : B (sSeq m sNx) e R ox) : B m e R ox := fun x q => by
  obtain ⟨fl, e', h1, h2⟩ := h x q
  rw [v_seq, bndF_nx] at h1
  exact ⟨fl, e', h1, h2⟩
theorem bndF_assoc (o : Out Fl) (f g : M Fl) : (o.bndF f).bndF g = o.bndF fun e => (f e).bndF g := by
  cases o with
  | ok a e => cases a <;> rfl
  | exn x e => rfl
  | bad => rfl
theorem b_assoc (h : B (sSeq m1 (sSeq m2 rest)) e R ox) : B (sSeq (sSeq m1 m2) rest) e R ox := fun x q => by
  obtain ⟨fl, e', h1, h2⟩ := h x q
  refine ⟨fl, e', ?_, h2⟩
  rw [v_seq, v_seq, bndF_assoc]
  exact h1
theorem b_skip (h : B rest e R ox) : B (sSeq sNx rest) e R ox := h
theorem b_ctS (h : B sCt e R ox) : B (sSeq sCt rest) e R ox := h
theorem b_bkS (h : B sBk e R ox) : B (sSeq sBk rest) e R ox := h
theorem b_asg (hf : TX f e e1 ea oa) (hk : ∀ a, B rest (e1.setS i (.dat (ea a))) R (k a)) : B (sSeq (sAsg i f) rest) e R (oa.bind k) := fun x q => by
  obtain ⟨a, ha, q⟩ := Option.bind_eq_some_iff.mp q
  obtain ⟨r, e2, p1, p2⟩ := hf a ha
  obtain ⟨fl, e', h1, h2⟩ := hk a x q
  refine ⟨fl, e', ?_, h2⟩
  rw [v_seq, v_asg, p1, v_bnd, p2, v_asgF, v_nx]
  exact h1
theorem b_own {f : M D} (hf : TN f e e1 ea oa) (hk : ∀ a, B rest (e1.setS i (.own (ea a))) R (k a)) : B (sSeq (sOwn i f) rest) e R (oa.bind k) := fun x q => by
  obtain ⟨a, ha, q⟩ := Option.bind_eq_some_iff.mp q
  obtain ⟨fl, e', h1, h2⟩ := hk a x q
  refine ⟨fl, e', ?_, h2⟩
  rw [v_seq, v_own, hf a ha, v_bnd, v_nx]
  exact h1
theorem b_expr (hf : TC f e e1 ea oa) (hk : ∀ a, B rest e1 R (k a)) : B (sSeq (sExpr f) rest) e R (oa.bind k) := fun x q => by
  obtain ⟨a, ha, q⟩ := Option.bind_eq_some_iff.mp q
  obtain ⟨fl, e', h1, h2⟩ := hk a x q
  refine ⟨fl, e', ?_, h2⟩
  rw [v_seq, v_sExpr, hf a ha, v_bnd, v_nx]
  exact h1
theorem b_retE {g : α → X} (hf : TX f e e' ea oa) (hR : ∀ a, R (g a) (.rt (ea a)) e') : B (sSeq (sRet f) rest) e R (oa.bind fun a => some (g a)) := fun x q => by
  obtain ⟨a, ha, q⟩ := Option.bind_eq_some_iff.mp q
  cases q
  obtain ⟨r, e2, p1, p2⟩ := hf a ha
  refine ⟨_, _, ?_, hR a⟩
  rw [v_seq, v_ret, p1, v_bnd, p2, v_retF, v_rt]
theorem b_retN {x : X} (hR : R x (.rt .non) e) : B (sSeq sRetN rest) e R (some x) := fun _ q => by
  cases q
  exact ⟨_, _, rfl, hR⟩
theorem b_if {t : M Bool} {ob : Option Bool} {o1 o2 : Option X} (hc : TB t e ob) (h1 : B (sSeq m1 rest) e R o1) (h2 : B (sSeq m2 rest) e R o2) : B (sSeq (sIf t m1 m2) rest) e R (ob.bind fun b => if b then o1 else o2) := fun x q => by
  obtain ⟨b, hb, q⟩ := Option.bind_eq_some_iff.mp q
  cases b with
  | true =>
    obtain ⟨fl, e', p1, p2⟩ := h1 x q
    refine ⟨fl, e', ?_, p2⟩
    rw [v_seq, v_sIf, hc _ hb, v_bnd, if_pos rfl]
    exact p1
  | false =>
    obtain ⟨fl, e', p1, p2⟩ := h2 x q
    refine ⟨fl, e', ?_, p2⟩
    rw [v_seq, v_sIf, hc _ hb, v_bnd, if_neg (by decide)]
    exact p1
def pushT (l : List α) (a : α) : Option (List α) := if l.length < sizeLine then some (l ++ [a]) else none
theorem b_app {l : List α} {k : List α → Option X} (hi : e.s[i]? = some (.own (eL ea l))) (hf : TX f e e1 ea oa) (h1 : e1.s[i]? = some (.own (eL ea l))) (hk : ∀ l', B rest (e1.setS i (.own (eL ea l'))) R (k l')) :
    B (sSeq (sExpr (cApp i f)) rest) e R (oa.bind fun a => (pushT l a).bind k) := fun x q => by
  obtain ⟨a, ha, q⟩ := Option.bind_eq_some_iff.mp q
  obtain ⟨l', hl, q⟩ := Option.bind_eq_some_iff.mp q
  unfold pushT at hl
  split at hl
  · rename_i hz
    cases hl
    obtain ⟨r, e2, p1, p2⟩ := hf a ha
    obtain ⟨fl, e', q1, q2⟩ := hk _ x q
    refine ⟨fl, e', ?_, q2⟩
    rw [v_seq, v_sExpr, v_app, v_rdW, hi, v_rdOo]
    show (Out.bnd (if isLst (some (D.lst _)) then _ else _ : Out DL.R) _).bndF rest = _
    rw [v_isLst, if_pos rfl, p1, v_bnd, p2, v_appO, v_rdW, h1, v_rdOo]
    show (Out.bnd (appL i (ea a) e1 (some (.lst (l.map ea)))) _).bndF rest = _
    rw [v_appL (by rw [List.length_map, ← sizeLine_eq]; exact hz), v_put, h1, v_putOo, v_outE, v_bnd, v_nx]
    have : l.map ea ++ [ea a] = (l ++ [a]).map ea := by simp
    rw [this]
    exact q1
  · cases hl
def popT (l : List α) : Option (List α × α) := l.getLast?.map fun a => (l.dropLast, a)
theorem b_pop {l : List α} {k : List α × α → Option X} (hi : e.s[i]? = some (.own (eL ea l))) (hk : ∀ p, B rest ((e.setS i (.own (eL ea p.1))).setS j (.dat (ea p.2))) R (k p)) : B (sSeq (sAsg j (cPop i)) rest) e R ((popT l).bind k) := fun x q => by
  obtain ⟨p, hp, q⟩ := Option.bind_eq_some_iff.mp q
  obtain ⟨a, ha, rfl⟩ := Option.map_eq_some_iff.mp hp
  obtain ⟨fl, e', q1, q2⟩ := hk _ x q
  refine ⟨fl, e', ?_, q2⟩
  have el : l = l.dropLast ++ [a] := by
    obtain ⟨ys, h⟩ := List.getLast?_eq_some_iff.mp ha
    rw [h]; simp
  rw [v_seq, v_asg, v_pop, v_rdW, hi, v_rdOo]
  have em : eL ea l = .lst (l.dropLast.map ea ++ [ea a]) := by
    show D.lst _ = _
    conv => lhs; rw [el]
    simp
  rw [em] at hi ⊢
  rw [v_popL, v_put, hi, v_putOo, v_outE, v_bnd, v_frzV, v_asgF, v_nx]
  exact q1
def dputT {κ : Type} [DecidableEq κ] (d : List (κ × α)) (k : κ) (v : α) : Option (List (κ × α)) := if d.length < sizeLine then some (putA d k v) else none
theorem b_dputS {d : List (Nm × α)} {fk : M DL.R} {ok : Option Nm} {k : List (Nm × α) → Option X} (hf : TX f e e1 ea oa) (h1 : e1.s[i]? = some (.own (eDs ea d))) (hkey : TV fk e1 eS ok) (hk : ∀ d', B rest (e1.setS i (.own (eDs ea d'))) R (k d')) :
    B (sSeq (sDput i fk f) rest) e R (oa.bind fun a => ok.bind fun y => (dputT d y a).bind k) := fun x q => by
  obtain ⟨a, y, ha, hy, q⟩ := bind2 q
  obtain ⟨d', hd, q⟩ := Option.bind_eq_some_iff.mp q
  unfold dputT at hd
  split at hd
  · rename_i hz
    cases hd
    obtain ⟨r, e2, p1, p2⟩ := hf a ha
    obtain ⟨fl, e', q1, q2⟩ := hk _ x q
    refine ⟨fl, e', ?_, q2⟩
    rw [v_seq]
    show (((f e).bnd fun r e1 => dputV i fk (e1.frz r))).bndF rest = _
    rw [p1, v_bnd, p2]
    show (if isDct (e1.rd (.whole i)) then _ else _ : Out Fl).bndF rest = _
    rw [v_rdW, h1, v_rdOo]
    show (if true then (fk e1).bnd _ else _ : Out Fl).bndF rest = _
    rw [if_pos rfl, hkey y hy, v_bnd]
    show (dputO i (ea a) (.inr y.1) e1 (e1.rd (.whole i))).bndF rest = _
    rw [v_rdW, h1, v_rdOo]
    show (if (d.map _).length < sizeLine then _ else _ : Out Fl).bndF rest = _
    rw [List.length_map, if_pos hz, v_put, h1, v_putOo, v_outE, v_nx]
    have z := putDv_s (ea := ea) d y a
    rw [z]
    exact q1
  · cases hd
theorem b_dputI {d : List (Int × α)} {fk : M DL.R} {ok : Option Int} {k : List (Int × α) → Option X} (hf : TX f e e1 ea oa) (h1 : e1.s[i]? = some (.own (eDi ea d))) (hkey : TV fk e1 eI ok) (hk : ∀ d', B rest (e1.setS i (.own (eDi ea d'))) R (k d')) :
    B (sSeq (sDput i fk f) rest) e R (oa.bind fun a => ok.bind fun y => (dputT d y a).bind k) := fun x q => by
  obtain ⟨a, y, ha, hy, q⟩ := bind2 q
  obtain ⟨d', hd, q⟩ := Option.bind_eq_some_iff.mp q
  unfold dputT at hd
  split at hd
  · rename_i hz
    cases hd
    obtain ⟨r, e2, p1, p2⟩ := hf a ha
    obtain ⟨fl, e', q1, q2⟩ := hk _ x q
    refine ⟨fl, e', ?_, q2⟩
    rw [v_seq]
    show (((f e).bnd fun r e1 => dputV i fk (e1.frz r))).bndF rest = _
    rw [p1, v_bnd, p2]
    show (if isDct (e1.rd (.whole i)) then _ else _ : Out Fl).bndF rest = _
    rw [v_rdW, h1, v_rdOo]
    show (if true then (fk e1).bnd _ else _ : Out Fl).bndF rest = _
    rw [if_pos rfl, hkey y hy, v_bnd]
    show (dputO i (ea a) (.inl y) e1 (e1.rd (.whole i))).bndF rest = _
    rw [v_rdW, h1, v_rdOo]
    show (if (d.map _).length < sizeLine then _ else _ : Out Fl).bndF rest = _
    rw [List.length_map, if_pos hz, v_put, h1, v_putOo, v_outE, v_nx]
    have z := putDv_i (ea := ea) d y a
    rw [z]
    exact q1
  · cases hd
def setT (l : List α) (k : Int) (v : α) : Option (List α) := (ixN l.length k).map fun j => l.set j v
theorem b_setIx {l : List α} {fk : M DL.R} {ok : Option Int} {k : List α → Option X} (hf : TX f e e1 ea oa) (h1 : e1.s[i]? = some (.own (eL ea l))) (hkey : TV fk e1 eI ok) (hk : ∀ l', B rest (e1.setS i (.own (eL ea l'))) R (k l')) :
    B (sSeq (sSetIx i fk f) rest) e R (oa.bind fun a => ok.bind fun y => (setT l y a).bind k) := fun x q => by
  obtain ⟨a, y, ha, hy, q⟩ := bind2 q
  obtain ⟨d', hd, q⟩ := Option.bind_eq_some_iff.mp q
  obtain ⟨n, hn, rfl⟩ := Option.map_eq_some_iff.mp hd
  obtain ⟨r, e2, p1, p2⟩ := hf a ha
  obtain ⟨fl, e', q1, q2⟩ := hk _ x q
  refine ⟨fl, e', ?_, q2⟩
  rw [v_seq, v_setIx, p1, v_bnd, p2, v_setV, v_rdW, h1, v_rdOo]
  show (if isLst (some (D.lst _)) then _ else _ : Out Fl).bndF rest = _
  rw [v_isLst, if_pos rfl, hkey y hy, v_bnd]
  show (setK i (ea a) (.val (.int y)) e1).bndF rest = _
  rw [v_setK, v_setO, v_rdW, h1, v_rdOo]
  show (setL i y (ea a) e1 (some (.lst (l.map ea)))).bndF rest = _
  rw [v_setL, List.length_map, hn, v_setI, v_put, h1, v_putOo, v_outE, v_nx, ← List.map_set]
  exact q1
/-- a, b = .. -/
theorem b_asgT {i2 : Nat} {op : Option (α × β)} {k : α × β → Option X} (hf : TX f e e1 (eP ea eb) op) (hk : ∀ p, B rest ((e1.setS i (.dat (ea p.1))).setS i2 (.dat (eb p.2))) R (k p)) : B (sSeq (sAsgT (gT [gN i, gN i2]) f) rest) e R (op.bind k) := fun x q => by
  obtain ⟨a, ha, q⟩ := Option.bind_eq_some_iff.mp q
  obtain ⟨r, e2, p1, p2⟩ := hf a ha
  obtain ⟨fl, e', h1, h2⟩ := hk a x q
  refine ⟨fl, e', ?_, h2⟩
  rw [v_seq, v_asgT, p1, v_bnd, p2]
  exact h1
def TQ (f : M P) (e e' : Env) (s : α → S) (o : Option α) : Prop := ∀ a, o = some a → ∃ p, f e = .ok p e' ∧ p.s = s a
theorem tq_v (h : TX f e e' ea oa) : TQ (pV f) e e' (fun a => .dat (ea a)) oa := fun a ha => by
  obtain ⟨r, e2, p1, p2⟩ := h a ha
  exact ⟨.v (ea a), by rw [v_pV, p1, v_bnd, p2, v_pFrz], rfl⟩
theorem tq_n {f : M D} (h : TN f e e' ea oa) : TQ (pN f) e e' (fun a => .own (ea a)) oa := fun a ha => ⟨.n (ea a), by rw [v_pN, h a ha, v_bnd], rfl⟩
theorem b_par {fa fb : M P} {sa : α → S} {sb : β → S} {k : α → β → Option X} (h1 : TQ fa e e1 sa oa) (h2 : TQ fb e1 e2 sb ob) (hk : ∀ a b, B rest ((e2.setS i (sa a)).setS j (sb b)) R (k a b)) : B (sSeq (sPar i j fa fb) rest) e R (oa.bind fun a => ob.bind fun b => k a b) := fun x q => by
  obtain ⟨a, b, ha, hb, q⟩ := bind2 q
  obtain ⟨p, p1, p2⟩ := h1 a ha
  obtain ⟨p', p3, p4⟩ := h2 b hb
  obtain ⟨fl, e', q1, q2⟩ := hk a b x q
  refine ⟨fl, e', ?_, q2⟩
  rw [v_seq, v_par, p1, v_bnd, p3, v_bnd, v_nx, p2, p4]
  exact q1

/-! ### loops -/
inductive Fw (ρ σ : Type) where
  | nx (s : σ) | bk (s : σ) | rt (r : ρ)
/-- what stands in a slot that nothing is told of -/
def pj : Option D → S
  | none => .un
  | some d => .dat d
theorem pj_plain (o : Option D) : (pj o).plain = true := by cases o <;> rfl
theorem plain_z {z : Option D} (h : e.s[i]? = some (pj z)) : plainAt e [i] = true := by
  unfold plainAt
  simp [h, pj_plain]
def zl (l : List (Option D)) : Nat → Option D := fun i => l.getD i none
def RS0 (E : σ → (Nat → Option D) → Env) : σ → Fl → Env → Prop := fun s fl e' => (fl = .nx ∨ fl = .ct) ∧ ∃ z, e' = E s z
def RF0 (E : σ → (Nat → Option D) → Env) (er : ρ → D) (j : List D) : Fw ρ σ → Fl → Env → Prop
  | .nx s, fl, e' => (fl = .nx ∨ fl = .ct) ∧ ∃ z, e' = E s z
  | .bk s, fl, e' => fl = .bk ∧ ∃ z, e' = E s z
  | .rt r, fl, e' => fl = .rt (er r) ∧ e'.j = j
def foldT (tb : σ → α → Option σ) : List α → σ → Option σ
  | [], s => some s
  | a :: l, s => (tb s a).bind fun s' => foldT tb l s'
def forT (tb : σ → α → Option (Fw ρ σ)) : List α → σ → Option (Fw ρ σ)
  | [], s => some (.nx s)
  | a :: l, s => (tb s a).bind fun w => match w with
    | .nx s' => forT tb l s'
    | .bk s' => some (.nx s')
    | .rt r => some (.rt r)
def whT (tc : σ → Option Bool) (tb : σ → Option σ) : Nat → σ → Option σ
  | 0, _ => none
  | n + 1, s => (tc s).bind fun b => if b then (tb s).bind fun s' => whT tc tb n s' else some s
def whR (tc : σ → Option Bool) (tb : σ → Option (Fw ρ σ)) : Nat → σ → Option (Fw ρ σ)
  | 0, _ => none
  | n + 1, s => (tc s).bind fun b => if b then (tb s).bind fun w => match w with
    | .nx s' => whR tc tb n s'
    | .bk s' => some (.nx s')
    | .rt r => some (.rt r) else some (.nx s)
variable {E : σ → (Nat → Option D) → Env} {g : Tg} {jj : List D}
theorem fold_run {tb : σ → α → Option σ} (hb : ∀ a s z, ∃ e2, g (ea a) (E s z) = some e2 ∧ B b e2 (RS0 E) (tb s a)) : ∀ {l : List α} {s s' : σ} {z : Nat → Option D}, foldT tb l s = some s' → ∃ z', forL g b (l.map ea) (E s z) = .ok .nx (E s' z')
  | [], s, s', z, h => by cases h; exact ⟨z, rfl⟩
  | a :: l, s, s', z, h => by
    obtain ⟨s1, h1, h⟩ := Option.bind_eq_some_iff.mp h
    obtain ⟨e2, g1, g2⟩ := hb a s z
    obtain ⟨fl, e3, q1, q2, z1, rfl⟩ := g2 s1 h1
    obtain ⟨z', r1⟩ := fold_run hb (l := l) (z := z1) h
    refine ⟨z', ?_⟩
    rw [List.map_cons, forL, g1]
    simp only [q1, v_bnd]
    rcases q2 with rfl | rfl <;> exact r1
theorem b_fold {fi : M (List D)} {ol : Option (List α)} {s0 : σ} {tb : σ → α → Option σ} {k : σ → Option X} (z0 : Nat → Option D) (hi : TI fi e e1 ea ol) (he : e1 = E s0 z0) (hb : ∀ a s z, ∃ e2, g (ea a) (E s z) = some e2 ∧ B b e2 (RS0 E) (tb s a))
    (hr : ∀ s z, B rest (E s z) R (k s)) : B (sSeq (sFor fi g b) rest) e R (ol.bind fun l => (foldT tb l s0).bind k) := fun x q => by
  obtain ⟨l, hl, q⟩ := Option.bind_eq_some_iff.mp q
  obtain ⟨s', hs, q⟩ := Option.bind_eq_some_iff.mp q
  obtain ⟨z, r1⟩ := fold_run hb (z := z0) hs
  obtain ⟨fl, e', q1, q2⟩ := hr s' z x q
  refine ⟨fl, e', ?_, q2⟩
  rw [v_seq]
  show ((fi e).bnd fun ds e1 => forL g b ds e1).bndF rest = _
  rw [hi l hl, v_bnd, he, r1, v_nx]
  exact q1
theorem for_run {tb : σ → α → Option (Fw ρ σ)} (hb : ∀ a s z, ∃ e2, g (ea a) (E s z) = some e2 ∧ B b e2 (RF0 E er jj) (tb s a)) : ∀ {l : List α} {s : σ} {w : Fw ρ σ} {z : Nat → Option D}, forT tb l s = some w →
    (∃ s' z', w = .nx s' ∧ forL g b (l.map ea) (E s z) = .ok .nx (E s' z')) ∨ (∃ r e', w = .rt r ∧ forL g b (l.map ea) (E s z) = .ok (.rt (er r)) e' ∧ e'.j = jj)
  | [], s, w, z, h => by cases h; exact .inl ⟨_, z, rfl, rfl⟩
  | a :: l, s, w, z, h => by
    obtain ⟨w1, h1, h⟩ := Option.bind_eq_some_iff.mp h
    obtain ⟨e2, g1, g2⟩ := hb a s z
    obtain ⟨fl, e3, q1, q2⟩ := g2 w1 h1
    rw [List.map_cons, forL, g1]
    simp only [q1, v_bnd]
    cases w1 with
    | nx s1 =>
      obtain ⟨q2, z1, rfl⟩ := q2
      have ih := for_run hb (l := l) (z := z1) h
      rcases q2 with rfl | rfl <;> exact ih
    | bk s1 =>
      obtain ⟨rfl, z1, rfl⟩ := q2
      cases h
      exact .inl ⟨s1, z1, rfl, rfl⟩
    | rt r =>
      obtain ⟨rfl, q3⟩ := q2
      cases h
      exact .inr ⟨r, e3, rfl, rfl, q3⟩
def thenT (o : Option (Fw ρ σ)) (k : σ → Option X) (inj : ρ → X) : Option X := o.bind fun w => match w with
  | .nx s => k s
  | .bk s => k s
  | .rt r => some (inj r)
theorem b_for {fi : M (List D)} {ol : Option (List α)} {s0 : σ} {tb : σ → α → Option (Fw ρ σ)} {k : σ → Option X} {inj : ρ → X} (z0 : Nat → Option D) (hi : TI fi e e1 ea ol) (he : e1 = E s0 z0) (hb : ∀ a s z, ∃ e2, g (ea a) (E s z) = some e2 ∧ B b e2 (RF0 E er jj) (tb s a))
    (hr : ∀ s z, B rest (E s z) R (k s)) (hret : ∀ r e', e'.j = jj → R (inj r) (.rt (er r)) e') : B (sSeq (sFor fi g b) rest) e R (ol.bind fun l => thenT (forT tb l s0) k inj) := fun x q => by
  obtain ⟨l, hl, q⟩ := Option.bind_eq_some_iff.mp q
  obtain ⟨w, hw, q⟩ := Option.bind_eq_some_iff.mp q
  have run := for_run hb (z := z0) hw
  rw [← he] at run
  rcases run with ⟨s', z', rfl, r1⟩ | ⟨r, e2, rfl, r1, r2⟩
  · obtain ⟨fl, e', q1, q2⟩ := hr s' z' x q
    refine ⟨fl, e', ?_, q2⟩
    rw [v_seq]
    show ((fi e).bnd fun ds e1 => forL g b ds e1).bndF rest = _
    rw [hi l hl, v_bnd, r1, v_nx]
    exact q1
  · cases q
    refine ⟨.rt (er r), e2, ?_, hret r e2 r2⟩
    rw [v_seq]
    show ((fi e).bnd fun ds e1 => forL g b ds e1).bndF rest = _
    rw [hi l hl, v_bnd, r1, v_rt]
theorem wh_run {t : M Bool} {tc : σ → Option Bool} {tb : σ → Option σ} (hc : ∀ s z, TB t (E s z) (tc s)) (hb : ∀ s z, B b (E s z) (RS0 E) (tb s)) : ∀ {n : Nat} {s s' : σ} {z : Nat → Option D}, whT tc tb n s = some s' → ∃ z', whL t b n (E s z) = .ok .nx (E s' z')
  | 0, _, _, _, h => by cases h
  | n + 1, s, s', z, h => by
    obtain ⟨x, hx, h⟩ := Option.bind_eq_some_iff.mp h
    rw [whL, hc s z x hx, v_bnd]
    cases x with
    | false => cases h; exact ⟨z, rfl⟩
    | true =>
      obtain ⟨s1, h1, h⟩ := Option.bind_eq_some_iff.mp h
      obtain ⟨fl, e3, q1, q2, z1, rfl⟩ := hb s z s1 h1
      obtain ⟨z', ih⟩ := wh_run hc hb (z := z1) h
      refine ⟨z', ?_⟩
      rw [if_pos rfl, q1, v_bnd]
      rcases q2 with rfl | rfl <;> exact ih
theorem b_wh {t : M Bool} {tc : σ → Option Bool} {tb : σ → Option σ} {n : Nat} {s0 : σ} {k : σ → Option X} (z0 : Nat → Option D) (hc : ∀ s z, TB t (E s z) (tc s)) (hb : ∀ s z, B b (E s z) (RS0 E) (tb s)) (he : e = E s0 z0) (hr : ∀ s z, B rest (E s z) R (k s)) :
    B (sSeq (whL t b n) rest) e R ((whT tc tb n s0).bind k) := fun x q => by
  obtain ⟨s', hs, q⟩ := Option.bind_eq_some_iff.mp q
  obtain ⟨z', r1⟩ := wh_run hc hb (z := z0) hs
  rw [← he] at r1
  obtain ⟨fl, e', q1, q2⟩ := hr s' z' x q
  refine ⟨fl, e', ?_, q2⟩
  rw [v_seq, r1, v_nx]
  exact q1
theorem whR_run {t : M Bool} {tc : σ → Option Bool} {tb : σ → Option (Fw ρ σ)} (hc : ∀ s z, TB t (E s z) (tc s)) (hb : ∀ s z, B b (E s z) (RF0 E er jj) (tb s)) : ∀ {n : Nat} {s : σ} {w : Fw ρ σ} {z : Nat → Option D}, whR tc tb n s = some w →
    (∃ s' z', w = .nx s' ∧ whL t b n (E s z) = .ok .nx (E s' z')) ∨ (∃ r e', w = .rt r ∧ whL t b n (E s z) = .ok (.rt (er r)) e' ∧ e'.j = jj)
  | 0, _, _, _, h => by cases h
  | n + 1, s, w, z, h => by
    obtain ⟨x, hx, h⟩ := Option.bind_eq_some_iff.mp h
    rw [whL, hc s z x hx, v_bnd]
    cases x with
    | false => cases h; exact .inl ⟨s, z, rfl, rfl⟩
    | true =>
      obtain ⟨w1, h1, h⟩ := Option.bind_eq_some_iff.mp h
      obtain ⟨fl, e3, q1, q2⟩ := hb s z w1 h1
      rw [if_pos rfl, q1, v_bnd]
      cases w1 with
      | nx s1 =>
        obtain ⟨q2, z1, rfl⟩ := q2
        have ih := whR_run hc hb (z := z1) h
        rcases q2 with rfl | rfl <;> exact ih
      | bk s1 =>
        obtain ⟨rfl, z1, rfl⟩ := q2
        cases h
        exact .inl ⟨s1, z1, rfl, rfl⟩
      | rt r =>
        obtain ⟨rfl, q3⟩ := q2
        cases h
        exact .inr ⟨r, e3, rfl, rfl, q3⟩
theorem b_whR {t : M Bool} {tc : σ → Option Bool} {tb : σ → Option (Fw ρ σ)} {n : Nat} {s0 : σ} {k : σ → Option X} {inj : ρ → X} (z0 : Nat → Option D) (hc : ∀ s z, TB t (E s z) (tc s)) (hb : ∀ s z, B b (E s z) (RF0 E er jj) (tb s)) (he : e = E s0 z0) (hr : ∀ s z, B rest (E s z) R (k s))
    (hret : ∀ r e', e'.j = jj → R (inj r) (.rt (er r)) e') : B (sSeq (whL t b n) rest) e R (thenT (whR tc tb n s0) k inj) := fun x q => by
  obtain ⟨w, hw, q⟩ := Option.bind_eq_some_iff.mp q
  have run := whR_run hc hb (z := z0) hw
  rw [← he] at run
  rcases run with ⟨s', z', rfl, r1⟩ | ⟨r, e2, rfl, r1, r2⟩
  · obtain ⟨fl, e', q1, q2⟩ := hr s' z' x q
    refine ⟨fl, e', ?_, q2⟩
    rw [v_seq, r1, v_nx]
    exact q1
  · cases q
    refine ⟨.rt (er r), e2, ?_, hret r e2 r2⟩
    rw [v_seq, r1, v_rt]

/-! ### functions -/
def RFn (er : ρ → D) : ρ → Fl → Env → Prop := fun r fl e' => e'.j = [] ∧ (fl = .rt (er r) ∨ (fl = .nx ∧ er r = .non))
theorem fn_t {n np : Nat} {g : M Fl} {as : List A} {o : Option ρ} (hl : as.length = np) (h : B g (env0 n as []) (RFn er) o) : ∀ r, o = some r → fnOf n np g as [] = .ok (er r) [] := fun r q => by
  obtain ⟨fl, e', h1, h2, h3⟩ := h r q
  rw [v_fn, if_pos hl, h1]
  rcases h3 with rfl | ⟨rfl, h3⟩
  · rw [v_outR, h2]
  · rw [v_outX, h2, h3]
end
end DL

namespace DL
open PySem L2 PySem.Spec PyProof.Rows

section
variable {α β γ δ ρ σ X : Type}
variable {f f1 f2 f3 : M R} {e e0 e1 e' : Env} {ea : α → D} {eb : β → D} {ec : γ → D} {er : ρ → D} {oa : Option α} {ob : Option β}
theorem b_bad {rest : M Fl} {R : X → Fl → Env → Prop} : B (sSeq sBad rest) e R none := fun _ q => by cases q
/-! dict comprehensions -/
def dcGo (p : α → Option Bool) (kf : α → Option Nm) (h : α → Option β) : List α → List (Nm × β) → Option (List (Nm × β))
  | [], d => some d
  | a :: l, d => (p a).bind fun b => if b then (kf a).bind fun k => (h a).bind fun y => dcGo p kf h l (putA d k y) else dcGo p kf h l d
def dcO (l : List α) (p : α → Option Bool) (kf : α → Option Nm) (h : α → Option β) : Option (List (Nm × β)) := if l.length ≤ sizeLine then dcGo p kf h l [] else none
theorem putA_len {d : List (Nm × β)} {k : Nm} {y : β} : (putA d k y).length ≤ d.length + 1 := by
  unfold putA
  split
  · rw [List.length_map]; omega
  · rw [List.length_append]; exact Nat.le_refl _
theorem dcL_go {vs : List Nat} {g : Tg} {t : M Bool} {fk fv : M DL.R} {p : α → Option Bool} {kf : α → Option Nm} {h : α → Option β} (E : α → Env)
    (H : ∀ a, g (ea a) (e1.wipe vs) = some (E a) ∧ (E a).wipe vs = e1.wipe vs) (ht : ∀ a, TB t (E a) (p a)) (hk : ∀ a, TV fk (E a) eS (kf a)) (hf : ∀ a, TX fv (E a) (E a) eb (h a)) :
    ∀ {l : List α} {d d' : List (Nm × β)} {e : Env}, e.wipe vs = e1.wipe vs → d.length + l.length ≤ sizeLine → dcGo p kf h l d = some d' →
      ∃ e', dcL vs g t fk fv (l.map ea) (d.map fun p => .inr p.1.1) (d.map fun p => eb p.2) e = .ok (d'.map fun p => .inr p.1.1, d'.map fun p => eb p.2) e' ∧ e'.wipe vs = e1.wipe vs
  | [], d, d', e, hw, _, q => by
    cases q
    exact ⟨e, rfl, hw⟩
  | a :: l, d, d', e, hw, hl, q => by
    obtain ⟨b, hb, q⟩ := Option.bind_eq_some_iff.mp q
    obtain ⟨g1, g2⟩ := H a
    rw [List.length_cons] at hl
    rw [List.map_cons, dcL, hw, g1]
    simp only [ht a b hb]
    cases b with
    | true =>
      rw [if_pos rfl] at q
      obtain ⟨k, hk1, q⟩ := Option.bind_eq_some_iff.mp q
      obtain ⟨y, hy, q⟩ := Option.bind_eq_some_iff.mp q
      obtain ⟨r, e2, p1, p2⟩ := hf a y hy
      simp only [hk a k hk1, v_rdV, Option.bind_some]
      have hkd : kD (eS k) = some (.inr k.1) := rfl
      simp only [hkd, p1, p2, List.length_map]
      rw [if_pos (by omega), putDv_s (ea := eb) d k y]
      have := putA_len (d := d) (k := k) (y := y)
      exact dcL_go E H ht hk hf (l := l) (d := putA d k y) (e := E a) g2 (by omega) q
    | false =>
      rw [if_neg (by decide)] at q
      exact dcL_go E H ht hk hf (l := l) (d := d) (e := E a) g2 (by omega) q
theorem tc_dcO {vs : List Nat} {fi : M (List D)} {g : Tg} {t : M Bool} {fk fv : M DL.R} {p : α → Option Bool} {kf : α → Option Nm} {h : α → Option β} {ol : Option (List α)} (E : α → Env) (hi : TI fi e e1 ea ol) (pl : plainAt e1 vs = true)
    (H : ∀ a, g (ea a) (e1.wipe vs) = some (E a) ∧ (E a).wipe vs = e1.wipe vs) (ht : ∀ a, TB t (E a) (p a)) (hk : ∀ a, TV fk (E a) eS (kf a)) (hf : ∀ a, TX fv (E a) (E a) eb (h a)) : TC (cDc vs fi g t fk fv) e e1 (eDs eb) (ol.bind fun l => dcO l p kf h) := fun ys q => by
  obtain ⟨l, hl, q⟩ := Option.bind_eq_some_iff.mp q
  unfold dcO at q
  split at q
  · rename_i hs
    obtain ⟨e', q1, q2⟩ := dcL_go (d := []) (e := e1) E H ht hk hf rfl (by simpa using hs) q
    unfold cDc
    rw [List.map_nil, List.map_nil] at q1
    rw [hi l hl, v_bnd, if_pos pl, q1]
    show Out.ok _ (e1.back e' vs) = _
    rw [back_wipe q2]
    rfl
  · cases q
theorem dcGo_eq {p : α → Option Bool} {kf : α → Option Nm} {h : α → Option β} {p' : α → Bool} {k' : α → Nm} {h' : α → β} : ∀ {l : List α} {d : List (Nm × β)}, (∀ a ∈ l, p a = some (p' a)) → (∀ a ∈ l, p' a = true → kf a = some (k' a) ∧ h a = some (h' a)) →
    ((l.filter p').map k').Nodup → (∀ a ∈ l, p' a = true → ∀ q ∈ d, q.1 ≠ k' a) → dcGo p kf h l d = some (d ++ (l.filter p').map fun a => (k' a, h' a))
  | [], d, _, _, _, _ => by simp [dcGo]
  | a :: l, d, hp, hh, hn, hd => by
    rw [dcGo, hp a List.mem_cons_self, Option.bind_some]
    cases hq : p' a with
    | true =>
      obtain ⟨h1, h2⟩ := hh a List.mem_cons_self hq
      rw [if_pos rfl, h1, Option.bind_some, h2, Option.bind_some]
      rw [List.filter_cons_of_pos hq, List.map_cons, List.nodup_cons] at hn
      have e1 : putA d (k' a) (h' a) = d ++ [(k' a, h' a)] := by
        unfold putA
        rw [if_neg]
        rw [Bool.not_eq_true, List.any_eq_false]
        exact fun q hq' => by simpa using hd a List.mem_cons_self hq q hq'
      rw [e1, dcGo_eq (fun b hb => hp b (List.mem_cons_of_mem _ hb)) (fun b hb => hh b (List.mem_cons_of_mem _ hb)) hn.2 (fun b hb hb2 q hq' => ?_), List.filter_cons_of_pos hq, List.map_cons, List.append_assoc]
      · rfl
      · rcases List.mem_append.mp hq' with hq' | hq'
        · exact hd b (List.mem_cons_of_mem _ hb) hb2 q hq'
        · rw [List.mem_singleton.mp hq']
          exact fun z => hn.1 (List.mem_map.mpr ⟨b, List.mem_filter.mpr ⟨hb, hb2⟩, z.symm⟩)
    | false =>
      rw [if_neg (by decide), List.filter_cons_of_neg (by simp [hq])]
      rw [List.filter_cons_of_neg (by simp [hq])] at hn
      exact dcGo_eq (fun b hb => hp b (List.mem_cons_of_mem _ hb)) (fun b hb => hh b (List.mem_cons_of_mem _ hb)) hn fun b hb => hd b (List.mem_cons_of_mem _ hb)

/-! over a dict's keys -/
theorem ti_K (i : Nat) {d : List (Nm × α)} (h : e.s[i]? = some (.own (eDs ea d))) : TI (cIterK i) e (e.setS i (.dat (eDs ea d))) eS (some (d.map (·.1))) := fun l q => by
  cases q
  unfold cIterK
  rw [h]
  show Out.ok ((d.map fun p => (Sum.inr p.1.1 : Key)).map keyD) _ = _
  rw [List.map_map,
                                                                                                              List.map_map]
  rfl
theorem fn_listK : Fn1 listKD (eDs ea) (eL eS) fun d => some (d.map (·.1)) := fun d c q => by
  cases q
  show some (D.lst ((d.map fun p => (Sum.inr p.1.1 : Key)).map keyD)) = some (D.lst _)
  rw [List.map_map,
                                                                                                              List.map_map]
  rfl
theorem intsL_map : ∀ l : List Int, intsL (l.map eI) = some l
  | [] => rfl
  | a :: l => by
    rw [List.map_cons]
    show (intsL (l.map eI)).map _ = _
    rw [intsL_map l]
    rfl
theorem fn_minL : Fn1 minLD (eL eI) eI minI := fun l c q => by
  show ((intsL (l.map eI)).bind minI).map D.int = _
  rw [intsL_map, Option.bind_some, q]
  rfl
theorem fn_maxL : Fn1 maxLD (eL eI) eI maxI := fun l c q => by
  show ((intsL (l.map eI)).bind maxI).map D.int = _
  rw [intsL_map, Option.bind_some, q]
  rfl
/-- a pair of alike as a tuple -/
theorem tr_PT {oa : Option (α × α)} (h : TR f e (eP ea ea) oa) : TR f e (eT ea) (oa.bind fun p => some [p.1, p.2]) := fun l q => by
  obtain ⟨p, hp, q⟩ := Option.bind_eq_some_iff.mp q
  cases q
  exact h p hp
theorem tc_PT {oa : Option (α × α)} (h : TC f e e' (eP ea ea) oa) : TC f e e' (eT ea) (oa.bind fun p => some [p.1, p.2]) := fun l q => by
  obtain ⟨p, hp, q⟩ := Option.bind_eq_some_iff.mp q
  cases q
  exact h p hp
theorem fn_intB : Fn1 intFnD eB eI fun b => some (if b then (1 : Int) else 0) := fun a c q => by cases q; cases a <;> rfl
/-! webs and clocks -/
abbrev WebT : Type := List Nm × List (Nm × Nm)
abbrev ClockT : Type := WebT × List Int
def eW : WebT → D := fun w => .obj "Web" ["both"] [eP (eT eS) (eT (eP eS eS)) w]
def eC : ClockT → D := fun c => .obj "Clock" ["both"] [eP eW (eT eI) c]
theorem isC_Web : IsC "Web" eW := fun a => by simp [eW]
theorem isC_Clock : IsC "Clock" eC := fun a => by simp [eC]
theorem obj_Web : ∀ r, ∃ ns l, eW r = .obj "Web" ns l := fun _ => ⟨_, _, rfl⟩
theorem obj_Clock : ∀ r, ∃ ns l, eC r = .obj "Clock" ns l := fun _ => ⟨_, _, rfl⟩
theorem nn_W : NN eW := ⟨fun _ => rfl⟩
theorem nn_C : NN eC := ⟨fun _ => rfl⟩
theorem hasM_W (m : Str) (h : (["both"] : List Str).contains m = false) : HasM "Web" m eW := fun a => by
  rw [isC_Web a]
  show (true && !(["both"] : List Str).contains m) = true
  rw [h]
  rfl
theorem hasM_C (m : Str) (h : (["both"] : List Str).contains m = false) : HasM "Clock" m eC := fun a => by
  rw [isC_Clock a]
  show (true && !(["both"] : List Str).contains m) = true
  rw [h]
  rfl
theorem hasM_Web_rows : HasM "Web" "rows" eW := hasM_W _ (by decide +kernel)
theorem hasM_Web_beside : HasM "Web" "beside" eW := hasM_W _ (by decide +kernel)
theorem hasM_Web_tie_of : HasM "Web" "tie_of" eW := hasM_W _ (by decide +kernel)
theorem hasM_Web_without : HasM "Web" "without" eW := hasM_W _ (by decide +kernel)
theorem hasM_Web_tied : HasM "Web" "tied" eW := hasM_W _ (by decide +kernel)
theorem hasM_Web_united : HasM "Web" "united" eW := hasM_W _ (by decide +kernel)
theorem hasM_Clock_is_way : HasM "Clock" "is_way" eC := hasM_C _ (by decide +kernel)
theorem hasM_Clock_time_of : HasM "Clock" "time_of" eC := hasM_C _ (by decide +kernel)
theorem hasM_Clock_turned : HasM "Clock" "turned" eC := hasM_C _ (by decide +kernel)
theorem lenN_int (n : Int) (h : 0 ≤ n) (h2 : n < 1000000) : lenN (.ok (eI n) []) = some (eI n) := by
  unfold lenN eI
  simp only []
  rw [if_pos ⟨h, h2⟩]
def lenW (w : WebT) : Option Int := if w.1.length < 1000000 then some (w.1.length : Int) else none
theorem fn_lenW {Φ : Fn} (h : ∀ (w : WebT) (r : Int), some (w.1.length : Int) = some r → Φ [.dat (eW w)] [] = .ok (eI r) []) : Fn1 (lenOwn "Web" Φ) eW eI lenW := fun w r q => by
  unfold lenW at q
  split at q
  · rename_i hl
    cases q
    unfold lenOwn
    simp only [isC_Web w, if_true]
    rw [h w _ rfl]
    exact lenN_int _ (Int.natCast_nonneg _) (by omega)
  · cases q
theorem op_inOwnP {c : Str} {Φ : Fn} {t : β → α → Option Bool} (hc : IsC c eb) (h : ∀ o x r, t o x = some r → Φ [.dat (eb o), .dat (ea x)] [] = .ok (.bl r) []) : Op2 (inOwn c Φ) ea eb eB fun x o => t o x := fun x o z q => by
  unfold inOwn askOwn
  rw [hc o, if_pos rfl, h o x z q]
  rfl
theorem op_notInOwnP {c : Str} {Φ : Fn} {t : β → α → Option Bool} (hc : IsC c eb) (h : ∀ o x r, t o x = some r → Φ [.dat (eb o), .dat (ea x)] [] = .ok (.bl r) []) : Op2 (notInOwn c Φ) ea eb eB fun x o => (t o x).map fun b => !b := fun x o z q => by
  obtain ⟨b, hb, rfl⟩ := Option.map_eq_some_iff.mp q
  unfold notInOwn askOwn
  rw [hc o, if_pos rfl, h o x b hb]
  rfl
end
/-! the names that are drawn -/
def poolN : List Nm := [⟨"a", by decide +kernel⟩, ⟨"b", by decide +kernel⟩, ⟨"ab", by decide +kernel⟩, ⟨"hub", by decide +kernel⟩, ⟨"tie", by decide +kernel⟩, ⟨"places", by decide +kernel⟩, ⟨"zz", by decide +kernel⟩, ⟨"q", by decide +kernel⟩, ⟨"m", by decide +kernel⟩, ⟨"longname", by decide +kernel⟩, ⟨"x", by decide +kernel⟩, ⟨"y", by decide +kernel⟩]
def t_Web_in (w : WebT) (x : Nm) : Option Bool := if memv x w.1 && memv x poolN then some true else none
end DL

namespace DL
open PySem L2 PySem.Spec PyProof.Rows
section
variable {α : Type} {enc : α → D}
/-- rows by their length -/
def srtLen (l : List (List α)) : List (List α) := l.mergeSort fun a b => decide ((a.length : Int) ≤ b.length)
theorem fn_srtLen : Fn1 srtLenD (eL (eT enc)) (eL (eT enc)) fun l => some (srtLen l) := fun l c q => by
  cases q
  have e1 : (l.map (eT enc)).all isT = true := List.all_eq_true.mpr fun d hd => by
    obtain ⟨r, _, rfl⟩ := List.mem_map.mp hd
    rfl
  show (if (l.map (eT enc)).all isT = true then _ else _) = _
  rw [if_pos e1]
  have e2 : (l.map (eT enc)).mergeSort (fun a b => decide (lenT a ≤ lenT b)) = (srtLen l).map (eT enc) := by
    unfold srtLen
    rw [List.map_mergeSort]
    intro a _ b _
    show decide ((a.length : Int) ≤ b.length) = decide (((a.map enc).length : Int) ≤ (b.map enc).length)
    rw [List.length_map, List.length_map]
  rw [e2]
  rfl
theorem tb_peek {ea : α → D} {i : Nat} {a : List α} {e : Env} {t : M Bool} {o : Option Bool} (hi : e.s[i]? = some (.own (eL ea a))) (hp : plainBut e i = true) (h : TB t (e.setS i (.dat (eL ea a))) o) : TB (cPeek i t) e o := fun b hb => by
  have h1 : t (e.setS i (.dat (.lst (a.map ea)))) = .ok b (e.setS i (.dat (.lst (a.map ea)))) := h b hb
  have h2 : e.s[i]? = some (.own (.lst (a.map ea))) := hi
  unfold cPeek
  rw [h2]
  simp only [hp, if_true, h1]
theorem frz_eq {i : Nat} {d : D} {e : Env} {f : M Fl} (hi : e.s[i]? = some (.own d)) : sFrz i f e = f (e.setS i (.dat d)) := by
  unfold sFrz
  rw [hi]
theorem b_frz {ρ : Type} {i : Nat} {d : D} {e : Env} {s rest : M Fl} {R : ρ → Fl → Env → Prop} {o : Option ρ} (hi : e.s[i]? = some (.own d)) (h : B (sSeq s rest) (e.setS i (.dat d)) R o) : B (sSeq (sFrz i s) rest) e R o := fun x q => by
  obtain ⟨fl, e', h1, h2⟩ := h x q
  refine ⟨fl, e', ?_, h2⟩
  rw [v_seq] at h1 ⊢
  rw [frz_eq hi]
  exact h1
/-- sorted, of one item at most whatever it is -/
def sortT3 (enc : α → D) (l : List α) : Option (List α) := if l.length ≤ 1 then some l else sortT enc l
theorem fn_sort3 : Fn1 sorted3D (eL enc) (eL enc) (sortT3 enc) := fun l c q => by
  unfold sortT3 at q
  have hl : (l.map enc).length = l.length := List.length_map enc
  split at q
  · rename_i h
    cases q
    have e1 : sort1D [eL enc l] = some (eL enc l) := by
      show (if (l.map enc).length ≤ 1 then some (D.lst (l.map enc)) else none) = _
      rw [hl, if_pos h]
      rfl
    unfold sorted3D
    rw [e1]
  · rename_i h
    have e1 : sort1D [eL enc l] = none := by
      show (if (l.map enc).length ≤ 1 then some (D.lst (l.map enc)) else none) = _
      rw [hl, if_neg h]
    unfold sorted3D
    rw [e1]
    exact fn_sortL l c q
end
end DL

namespace DL
open PySem L2 PySem.Spec PyProof.Rows
section
variable {α β γ δ : Type} {ea : α → D} {eb : β → D} {ec : γ → D} {oa : Option α} {ob : Option β} {f f1 f2 : M R} {e : Env}
/-- how many unlike texts a tuple has -/
def lenSetT (l : List Nm) : Option Int := if l.length ≤ 1000 then some ((nub (l.map (·.1))).length : Int) else none
theorem strsD_map : ∀ l : List Nm, strsD (l.map eS) = some (l.map (·.1))
  | [] => rfl
  | a :: l => by
    show (strsD (l.map eS)).map (fun xs => a.1 :: xs) = _
    rw [strsD_map l]
    rfl
theorem fn_lenSet : Fn1 lenSetD (eT eS) eI lenSetT := fun l c q => by
  unfold lenSetT at q
  split at q
  · rename_i h
    cases q
    show (strsD (l.map eS)).bind _ = _
    rw [strsD_map l, Option.bind_some, List.length_map, if_pos h]
    rfl
  · cases q
theorem op_subB : Op2 subBD eB eB eI fun a b => some (b2i a - b2i b) := fun _ _ _ q => by cases q; rfl
theorem tv_pow {i j k : Int} (h : powD (.int i) (.int j) = some (.int k)) : TV (cOp powD (cC (.int i)) (cC (.int j))) e eI (some k) := fun a q => by
  cases q
  show opt (powD (.int i) (.int j)) e = _
  rw [h]
  rfl
theorem tc_lst4 {f3 f4 : M R} {e1 e2 e3 e4 : Env} {enc : α → D} {o o' o'' o''' : Option α} (h : TF f e e e1 enc o) (h2 : TF f2 e e1 e2 enc o') (h3 : TF f3 e e2 e3 enc o'') (h4 : TF f4 e e3 e4 enc o''') : TC (cLst (cCons f (cCons f2 (cCons f3 (cCons f4 cNil))))) e e4 (eL enc) (o.bind fun a => o'.bind fun b => o''.bind fun c => o'''.bind fun d => some [a, b, c, d]) := fun _ q => by
  obtain ⟨a, b, ha, hb, q⟩ := bind2 q
  obtain ⟨c, d, hc, hd, q⟩ := bind2 q
  cases q
  exact lst_ta (ta_cons (h.at ha) (ta_cons (h2.at hb) (ta_cons (h3.at hc) (ta_cons (h4.at hd) ta_nil)))) (by simp)
/-! ### long chains -/
def TCh (k : R → M Bool) (e : Env) (ea : α → D) (h : α → Option Bool) : Prop := ∀ r a b, e.rd r = some (ea a) → h a = some b → k r e = .ok b e
theorem tch_last {g : D → D → Option D} {h : α → β → Option Bool} (hg : Op2 g ea eb eB h) (h2 : TR f e eb ob) : TCh (cLast g f) e ea fun a => ob.bind fun b => h a b := fun r a z hr q => by
  obtain ⟨b, hb, q⟩ := Option.bind_eq_some_iff.mp q
  obtain ⟨r2, p3, p4⟩ := h2 b hb
  unfold cLast
  rw [p3, v_bnd, hr, p4, v_opt2, hg a b z q]
  rfl
theorem tch_link {g : D → D → Option D} {h : α → β → Option Bool} {k : R → M Bool} {u : β → Option Bool} (hg : Op2 g ea eb eB h) (h2 : TR f e eb ob) (hk : TCh k e eb u) :
    TCh (cLink g f k) e ea fun a => ob.bind fun b => (h a b).bind fun x => if x then u b else some false := fun r a z hr q => by
  obtain ⟨b, hb, q⟩ := Option.bind_eq_some_iff.mp q
  obtain ⟨x, hx, q⟩ := Option.bind_eq_some_iff.mp q
  obtain ⟨r2, p3, p4⟩ := h2 b hb
  unfold cLink
  rw [p3, v_bnd, hr, p4, v_opt2, hg a b x hx]
  cases x with
  | true =>
    rw [if_pos rfl] at q
    exact hk r2 b z p4 q
  | false =>
    cases q
    rfl
theorem tb_chainN {k : R → M Bool} {u : α → Option Bool} (h1 : TR f1 e ea oa) (hk : TCh k e ea u) : TB (cChainN f1 k) e (oa.bind u) := fun z q => by
  obtain ⟨a, ha, q⟩ := Option.bind_eq_some_iff.mp q
  obtain ⟨r1, p1, p2⟩ := h1 a ha
  unfold cChainN
  rw [p1, v_bnd]
  exact hk r1 a z p2 q
end
end DL

namespace DL
open PySem L2 PySem.Spec PyProof.Rows
/-! typed defs that laws share -/
def t__law_near (p_net_here : ((List Nm) × (List (Nm × Nm)))) (p_spot : Nm) : Option (List Nm) := ((((lcP p_net_here.2 (fun (a7 : (Nm × Nm)) => (eqv a7.1 p_spot)) fun (a7 : (Nm × Nm)) => a7.2).bind fun v14 => ((lcP p_net_here.2 (fun (a11 : (Nm × Nm)) => (eqv a11.2 p_spot)) fun (a11 : (Nm × Nm)) => a11.1).bind fun v15 => (addL v14 v15))).bind fun v16 => (sortT eS v16)).bind fun v17 => some v17)
def tb1__law_lines (p_last : Nm) (v5 : ((List (List Nm)) × (List Nm))) (s21 : ((List (List Nm)) × (List (List Nm)))) (a23 : Nm) : Option ((List (List Nm)) × (List (List Nm))) := (if (eqv a23 p_last) then ((addL v5.2 [p_last]).bind fun v25 => ((pushT s21.1 v25).bind fun v24 => some (v24, s21.2))) else (if (!memv a23 v5.2) then ((addL v5.2 [a23]).bind fun v27 => ((pushT s21.2 v27).bind fun v26 => some (s21.1, v26))) else some (s21.1, s21.2)))
def tb2__law_lines (p_net_here : ((List Nm) × (List (Nm × Nm)))) (p_last : Nm) (s3 : ((List (List Nm)) × (List (List Nm)))) : Option ((List (List Nm)) × (List (List Nm))) := ((popT s3.2).bind fun v5 => ((((atI v5.2 (-(1 : Int))).bind fun v19 => (t__law_near p_net_here v19)).bind fun v20 => some v20).bind fun v30 => ((foldT (tb1__law_lines p_last v5) v30 (s3.1, v5.1)).bind fun s28 => some (s28.1, s28.2))))
def tc2__law_lines (s3 : ((List (List Nm)) × (List (List Nm)))) : Option Bool := (some (!eqv s3.2 ([] : List (List Nm))))
def t__law_lines (p_net_here : ((List Nm) × (List (Nm × Nm)))) (p_begin : Nm) (p_last : Nm) : Option (List (List Nm)) := ((some ([] : List (List Nm))).bind fun v1 => (some [[p_begin]]).bind fun v2 => ((whT (tc2__law_lines) (tb2__law_lines p_net_here p_last) 20000 (v1, v2)).bind fun s31 => ((sortT (eT eS) s31.1).bind fun v33 => some v33)))
def t__law_link_at (p_net_here : ((List Nm) × (List (Nm × Nm)))) (p_one_spot : Nm) (p_other_spot : Nm) : Option (Option Int) := (((rngO (p_net_here.2.length : Int)).bind fun v45 => (lcO v45 (fun (a39 : Int) => ((((atI p_net_here.2 a39).bind fun v41 => some [v41.1, v41.2]).bind fun v42 => (sortT eS v42)).bind fun v43 => ((sortT eS [p_one_spot, p_other_spot]).bind fun v44 => some (eqv v43 v44)))) fun (a39 : Int) => (some a39))).bind fun found_46 => ((if (!eqv found_46 ([] : List Int)) then ((atI found_46 (0 : Int)).map some) else (some (none : (Option Int)))).bind fun v47 => some v47))
def t__law_when (p_net_here : ((List Nm) × (List (Nm × Nm)))) (p_beats_here : (List Int)) (p_line : (List Nm)) : Option (List Int) := (((rngO ((p_line.length : Int) - (1 : Int))).bind fun v53 => (lcO v53 (fun (a37 : Int) => (some true)) fun (a37 : Int) => ((((atI p_line a37).bind fun v49 => ((atI p_line (a37 + (1 : Int))).bind fun v50 => (t__law_link_at p_net_here v49 v50))).bind fun v51 => v51).bind fun v52 => (atI p_beats_here v52)))).bind fun v54 => some v54)
def t__law_serves (p_net_here : ((List Nm) × (List (Nm × Nm)))) (p_beats_here : (List Int)) (p_line : (List Nm)) : Option Bool := ((t__law_when p_net_here p_beats_here p_line).bind fun moments_56 => (((sortT eI moments_56).bind fun v57 => some (eqv moments_56 v57)).bind fun v58 => some v58))
def t__law_goings (p_net_here : ((List Nm) × (List (Nm × Nm)))) (p_beats_here : (List Int)) (p_begin : Nm) (p_last : Nm) : Option (List (List Nm)) := ((((t__law_lines p_net_here p_begin p_last).bind fun v35 => some v35).bind fun v61 => (lcO v61 (fun (a36 : (List Nm)) => ((t__law_serves p_net_here p_beats_here a36).map fun v60 => v60)) fun (a36 : (List Nm)) => (some a36))).bind fun v62 => some v62)
def t_check_clock (p_value : ClockT) : Option Unit := (if (!true) then none else some ())
def t_check_place (p_web : WebT) (p_place : Nm) : Option Unit := (((t_Web_in p_web p_place).map fun b => !b).bind fun v66 => (if v66 then none else some ()))
def t_check_goal (p_web : WebT) (p_start : Nm) (p_goal : Nm) : Option Unit := ((t_check_place p_web p_start).bind fun v67 => ((t_check_place p_web p_goal).bind fun v68 => (if (eqv p_start p_goal) then none else some ())))
def t_Clock_web (p_self : ClockT) : Option WebT := some p_self.1
def tb1_longer_paths (rec : (List (Nm × (List Nm))) → (List Nm) → Nm → Option (List (List Nm))) (p_beside : (List (Nm × (List Nm)))) (p_row : (List Nm)) (p_goal : Nm) (s76 : ((List (List Nm)))) (a78 : Nm) : Option ((List (List Nm))) := (if (eqv a78 p_goal) then ((addL p_row [p_goal]).bind fun v80 => ((pushT s76 v80).bind fun v79 => some v79)) else (if (!memv a78 p_row) then ((((addL p_row [a78]).bind fun v81 => (rec p_beside v81 p_goal)).bind fun v82 => (addL s76 v82)).bind fun found_83 => some found_83) else some s76))
def t_longer_paths : Nat → (List (Nm × (List Nm))) → (List Nm) → Nm → Option (List (List Nm))
  | 0, _, _, _ => none
  | n + 1, p_beside, p_row, p_goal => ((some ([] : List (List Nm))).bind fun found_73 => ((((atI p_row (-(1 : Int))).bind fun v74 => (getA p_beside v74)).bind fun v75 => some v75).bind fun v87 => ((foldT (tb1_longer_paths (t_longer_paths n) p_beside p_row p_goal) v87 found_73).bind fun s84 => some s84)))
def t_Web_places (p_self : WebT) : Option (List Nm) := some p_self.1
def t_Web_ties (p_self : WebT) : Option (List (Nm × Nm)) := some p_self.2
def t_beside_in (p_web : WebT) (p_place : Nm) : Option (List Nm) := (((((t_Web_ties p_web).bind fun v94 => some v94).bind fun v98 => (lcP v98 (fun (a95 : (Nm × Nm)) => (eqv a95.1 p_place)) fun (a95 : (Nm × Nm)) => a95.2)).bind fun v104 => ((((t_Web_ties p_web).bind fun v99 => some v99).bind fun v103 => (lcP v103 (fun (a100 : (Nm × Nm)) => (eqv a100.2 p_place)) fun (a100 : (Nm × Nm)) => a100.1)).bind fun v105 => (addL v104 v105))).bind fun found_106 => (((sortT eS found_106).bind fun v107 => some v107).bind fun v108 => some v108))
def t_paths (p_web : WebT) (p_start : Nm) (p_goal : Nm) : Option (List (List Nm)) := (((((t_Web_places p_web).bind fun v90 => some v90).bind fun v110 => (dcO v110 (fun (a91 : Nm) => (some true)) (fun (a91 : Nm) => (some a91)) fun (a91 : Nm) => (t_beside_in p_web a91))).bind fun v111 => (t_longer_paths 12 v111 [p_start] p_goal)).bind fun v112 => some v112)
def t_goes (p_times : (List Int)) (p_indexes : (List (Option Int))) : Option Bool := ((((rngO ((p_indexes.length : Int) - (1 : Int))).bind fun v123 => (lcO v123 (fun (a116 : Int) => (some true)) fun (a116 : Int) => ((((atI p_indexes a116).bind fun v117 => v117).bind fun v118 => (atI p_times v118)).bind fun v121 => ((((atI p_indexes (a116 + (1 : Int))).bind fun v119 => v119).bind fun v120 => (atI p_times v120)).bind fun v122 => some (decide (v121 ≤ v122)))))).bind fun v124 => some (v124.all id)).bind fun v125 => some v125)
def tb1_index_in (p_ties : (List (Nm × Nm))) (p_one : Nm) (p_other : Nm) (s128 : Unit) (a130 : Int) : Option (Fw (Option Int) Unit) := (((atI p_ties a130).bind fun v131 => some (memv v131 [(p_one, p_other), (p_other, p_one)])).bind fun v133 => (if v133 then some (Fw.rt (some a130) : Fw (Option Int) Unit) else some (.nx ())))
def t_index_in (p_ties : (List (Nm × Nm))) (p_one : Nm) (p_other : Nm) : Option (Option Int) := ((rngO (p_ties.length : Int)).bind fun v137 => (thenT (forT (tb1_index_in p_ties p_one p_other) v137 ()) (fun s134 => some (none : (Option Int))) (fun r => r)))
def t_ties_in (p_web : WebT) (p_row : (List Nm)) : Option (List (Option Int)) := ((((rngO ((p_row.length : Int) - (1 : Int))).bind fun v141 => (lcO v141 (fun (a127 : Int) => (some true)) fun (a127 : Int) => ((t_Web_ties p_web).bind fun v138 => ((atI p_row a127).bind fun v139 => ((atI p_row (a127 + (1 : Int))).bind fun v140 => (t_index_in v138 v139 v140)))))).bind fun v142 => some v142).bind fun v143 => some v143)
def t_ways_in (p_web : WebT) (p_times : (List Int)) (p_start : Nm) (p_goal : Nm) : Option (List (List Nm)) := ((((t_paths p_web p_start p_goal).bind fun v114 => some v114).bind fun v147 => (lcO v147 (fun (a115 : (List Nm)) => (((t_ties_in p_web a115).bind fun v145 => (t_goes p_times v145)).map fun v146 => v146)) fun (a115 : (List Nm)) => (some a115))).bind fun v148 => some v148)
def t_Clock_times (p_self : ClockT) : Option (List Int) := some p_self.2
def t_ways (p_clock : ClockT) (p_start : Nm) (p_goal : Nm) : Option (List (List Nm)) := ((t_check_clock p_clock).bind fun v65 => (((t_Clock_web p_clock).bind fun v71 => (t_check_goal v71 p_start p_goal)).bind fun v72 => ((((t_Clock_web p_clock).bind fun v152 => ((t_Clock_times p_clock).bind fun v153 => (t_ways_in v152 v153 p_start p_goal))).bind fun v154 => some v154).bind fun v155 => some v155)))
def t_fewest_ties (p_clock : ClockT) (p_start : Nm) (p_goal : Nm) : Option (Option Int) := ((((t_ways p_clock p_start p_goal).bind fun v168 => some v168).bind fun v170 => (lcP v170 (fun (a169 : (List Nm)) => true) fun (a169 : (List Nm)) => ((a169.length : Int) - (1 : Int)))).bind fun found_171 => ((if (!eqv found_171 ([] : List Int)) then ((minI found_171).map some) else (some (none : (Option Int)))).bind fun v172 => some v172))
def tb1_arrivals_at (p_times : (List Int)) (a190 : Int) (s200 : ((List (Nm × Int)))) (a202 : (Nm × Nm)) : Option ((List (Nm × Int))) := ((if (hasA s200 a202.1) then ((getA s200 a202.1).bind fun v205 => ((atI p_times a190).bind fun v206 => (if (decide (v205 ≤ v206)) then ((((atI p_times a190).bind fun v203 => some (v203 + (1 : Int))).bind fun v204 => some ((getA s200 a202.2).getD v204)).bind fun v207 => some (decide (v206 < v207))) else some false))) else some false).bind fun v210 => (if v210 then ((atI p_times a190).bind fun v209 => ((dputT s200 a202.2 v209).bind fun v208 => some v208)) else some s200))
def tb2_arrivals_at (p_web : WebT) (p_times : (List Int)) (s188 : ((List (Nm × Int)))) (a190 : Int) : Option ((List (Nm × Int))) := (((((t_Web_ties p_web).bind fun v194 => (atI v194 a190)).bind fun v197 => ((((t_Web_ties p_web).bind fun v195 => (atI v195 a190)).bind fun v196 => some (v196.2, v196.1)).bind fun v198 => some [v197, v198])).bind fun v199 => some v199).bind fun v213 => ((foldT (tb1_arrivals_at p_times a190) v213 s188).bind fun s211 => some s211))
def tb3_arrivals_at (p_web : WebT) (p_times : (List Int)) (s185 : ((List (Nm × Int)))) (a187 : Nm) : Option ((List (Nm × Int))) := ((rngO (p_times.length : Int)).bind fun v216 => ((foldT (tb2_arrivals_at p_web p_times) v216 s185).bind fun s214 => some s214))
def t_arrivals_at (p_web : WebT) (p_times : (List Int)) (p_start : Nm) : Option (List (Nm × Int)) := ((some [(p_start, (0 : Int))]).bind fun found_183 => (((t_Web_places p_web).bind fun v184 => some v184).bind fun v222 => ((foldT (tb3_arrivals_at p_web p_times) v222 found_183).bind fun s217 => ((dcO (s217.map (·.1)) (fun (a219 : Nm) => (some (!eqv a219 p_start))) (fun (a219 : Nm) => (some a219)) fun (a219 : Nm) => (getA s217 a219)).bind fun v220 => some v220))))
def tb1_earliest_way (p_web : WebT) (p_times : (List Int)) (p_goal : Nm) (found_223 : (List (Nm × Int))) (s226 : Unit) (a228 : (List Nm)) : Option (Fw (Option (List Nm)) Unit) := ((((((t_Web_ties p_web).bind fun v229 => ((atI a228 (-(2 : Int))).bind fun v230 => ((atI a228 (-(1 : Int))).bind fun v231 => (t_index_in v229 v230 v231)))).bind fun v232 => v232).bind fun v233 => (atI p_times v233)).bind fun v234 => ((getA found_223 p_goal).bind fun v235 => some (eqv v234 v235))).bind fun v237 => (if v237 then some (Fw.rt (some a228) : Fw (Option (List Nm)) Unit) else some (.nx ())))
def t_earliest_way (p_web : WebT) (p_times : (List Int)) (p_start : Nm) (p_goal : Nm) : Option (Option (List Nm)) := ((t_arrivals_at p_web p_times p_start).bind fun found_223 => (if (!hasA found_223 p_goal) then some (none : (Option (List Nm))) else (((t_ways_in p_web p_times p_start p_goal).bind fun v225 => some v225).bind fun v241 => (thenT (forT (tb1_earliest_way p_web p_times p_goal found_223) v241 ()) (fun s238 => some (none : (Option (List Nm)))) (fun r => r)))))
def t_first_way (p_clock : ClockT) (p_start : Nm) (p_goal : Nm) : Option (Option (List Nm)) := ((t_check_clock p_clock).bind fun v180 => (((t_Clock_web p_clock).bind fun v181 => (t_check_goal v181 p_start p_goal)).bind fun v182 => (((t_Clock_web p_clock).bind fun v242 => ((t_Clock_times p_clock).bind fun v243 => (t_earliest_way v242 v243 p_start p_goal))).bind fun v244 => some v244)))
end DL

namespace TN
open PySem L2 DL PySem.Spec PyProof.Rows
/-! names, their order, webs of names: DL24 to DL26 over names -/
theorem ltN_asym {a b : Nm} (h : ltN a b = true) : ltN b a = false := DL.ltS_asym h
theorem ltN_ne {a b : Nm} (h : ltN a b = true) : a ≠ b := fun z => DL.ltS_ne h (congrArg Subtype.val z)
theorem ltN_tot {a b : Nm} (h : a ≠ b) (h2 : ltN b a = false) : ltN a b = true := DL.ltS_tot (fun z => h (Subtype.ext z)) h2
def ltR : List Nm → List Nm → Bool
  | [], [] => false
  | [], _ :: _ => true
  | _ :: _, [] => false
  | a :: l, b :: m => if a = b then ltR l m else ltN a b
theorem ltR_val : ∀ l m : List Nm, ltR l m = DL.ltR (l.map (·.1)) (m.map (·.1))
  | [], [] => rfl
  | [], _ :: _ => rfl
  | _ :: _, [] => rfl
  | a :: l, b :: m => by
    show (if a = b then ltR l m else ltN a b) = (if a.1 = b.1 then DL.ltR (l.map (·.1)) (m.map (·.1)) else DL.ltS a.1 b.1)
    by_cases h : a = b
    · rw [if_pos h, if_pos (congrArg Subtype.val h), ltR_val l m]
    · rw [if_neg h, if_neg fun z => h (Subtype.ext z)]
      rfl
theorem ltR_pre : ∀ (c a b : List Nm), ltR (c ++ a) (c ++ b) = ltR a b
  | [], _, _ => rfl
  | x :: c, a, b => by
    show (if x = x then ltR (c ++ a) (c ++ b) else _) = _
    rw [if_pos rfl, ltR_pre c a b]
theorem ltR_asym : ∀ {a b : List Nm}, ltR a b = true → ltR b a = false
  | [], [], h => by cases h
  | [], _ :: _, _ => rfl
  | _ :: _, [], h => by cases h
  | x :: a, y :: b, h => by
    unfold ltR at h ⊢
    by_cases e : x = y
    · subst e
      rw [if_pos rfl] at h ⊢
      exact ltR_asym h
    · rw [if_neg e] at h
      rw [if_neg fun z => e z.symm]
      exact ltN_asym h
theorem ltR_tot : ∀ {a b : List Nm}, ltR a b = false → ltR b a = false → a = b
  | [], [], _, _ => rfl
  | [], _ :: _, h, _ =>
                                                                                                              by cases h
  | _ :: _, [], _, h =>
                                                                                                              by cases h
  | x :: a, y :: b, h, h2 => by
    unfold ltR at h h2
    by_cases e : x = y
    · subst e
      rw [if_pos rfl] at h h2
      rw [ltR_tot h h2]
    · rw [if_neg e] at h
      rw [if_neg fun z => e z.symm] at h2
      rw [ltN_tot e h2] at h
      cases h
theorem ltR_ne {a b : List Nm} (h : ltR a b = true) : a ≠ b := fun z => by
  subst z
  have := ltR_asym h
  rw [h] at this
  cases this
def sortN (l : List Nm) : List Nm := l.mergeSort fun a b => !ltN b a
theorem sortN_perm (l : List Nm) : (sortN l).Perm l := List.mergeSort_perm _ _
theorem srt_nm (a b : Nm) : srtLe (eS a) (eS b) = !ltN b a := DL.srt_str a.1 b.1
theorem sortN_lt {l : List Nm} (h : l.Nodup) : (sortN l).Pairwise fun a b => ltN a b = true := by
  have p : (sortN l).Pairwise fun a b => (!ltN b a) = true := by
    refine List.pairwise_mergeSort (fun a b c h1 h2 => ?_) (fun a b => ?_) l
    · rw [← srt_nm] at h1 h2 ⊢
      exact srt_trans _ _ _ h1 h2
    · rw [← srt_nm, ← srt_nm]
      exact srt_tot _ _
  have n : (sortN l).Nodup := (sortN_perm l).nodup_iff.mpr h
  exact (p.and n).imp fun {a b} ⟨h1, h2⟩ => ltN_tot h2 (by simpa using h1)
theorem ltR_nodup {E : List (List Nm)} (hE : E.Pairwise fun a b => ltR a b = true) : E.Nodup := hE.imp fun h => ltR_ne h
/-- sorted tells the one ascending order -/
theorem sortT_of {α : Type} {enc : α → D} {E fd : List α} (ok : srtOk (fd.map enc) = true) (inj : ∀ a b, a ∈ E → b ∈ E → srtLe (enc a) (enc b) = true → srtLe (enc b) (enc a) = true → a = b) (hE : E.Pairwise fun a b => srtLe (enc a) (enc b) = true) (p : fd.Perm E) : sortT enc fd = some E := by
  unfold sortT
  rw [if_pos ok]
  refine congrArg some ?_
  refine List.Perm.eq_of_pairwise (le := fun a b => srtLe (enc a) (enc b) = true) (fun a b ha hb h1 h2 => ?_) (List.pairwise_mergeSort (le := fun a b => srtLe (enc a) (enc b)) (fun a b c => srt_trans _ _ _) (fun a b => srt_tot _ _) _) hE ((List.mergeSort_perm _ _).trans p)
  exact inj a b (p.mem_iff.mp (List.mem_mergeSort.mp ha)) hb h1 h2
theorem srtOk_nm (l : List Nm) : srtOk (l.map eS) = true := by
  unfold srtOk
  simp only [Bool.and_eq_true, Bool.or_eq_true, List.all_eq_true, decide_eq_true_eq]
  refine ⟨⟨⟨plL_of fun d hd => ?_, fun x hx y hy => ?_⟩, .inr fun d hd => ?_⟩, fun d hd => ?_⟩
  · obtain ⟨s, _, rfl⟩ := List.mem_map.mp hd; rfl
  · obtain ⟨s, _, rfl⟩ := List.mem_map.mp hx
    obtain ⟨t, _, rfl⟩ := List.mem_map.mp hy
    rfl
  · obtain ⟨s, _, rfl⟩ := List.mem_map.mp hd; rfl
  · obtain ⟨s, _, rfl⟩ := List.mem_map.mp hd; exact Nat.zero_le _
theorem sortT_nm (l : List Nm) : sortT eS l = some (sortN l) := by
  unfold sortT sortN
  rw [if_pos (srtOk_nm l)]
  refine congrArg some ?_
  congr 1
  funext a b
  exact srt_nm a b
theorem srtOk_int (l : List Int) : srtOk (l.map eI) = true := by
  unfold srtOk
  simp only [Bool.and_eq_true, Bool.or_eq_true, List.all_eq_true, decide_eq_true_eq]
  refine ⟨⟨⟨plL_of fun d hd => ?_, fun x hx y hy => ?_⟩, .inr fun d hd => ?_⟩, fun d hd => ?_⟩
  · obtain ⟨s, _, rfl⟩ := List.mem_map.mp hd; rfl
  · obtain ⟨s, _, rfl⟩ := List.mem_map.mp hx
    obtain ⟨t, _, rfl⟩ := List.mem_map.mp hy
    rfl
  · obtain ⟨s, _, rfl⟩ := List.mem_map.mp hd; rfl
  · obtain ⟨s, _, rfl⟩ := List.mem_map.mp hd; exact Nat.zero_le _
theorem eT_row (r : List Nm) : eT eS r = rowD (r.map (·.1)) := by
  show D.tup (r.map eS) = D.tup ((r.map (·.1)).map D.str)
  rw [List.map_map]
  rfl
theorem srt_rowN (l m : List Nm) : srtLe (eT eS l) (eT eS m) = !ltR m l := by
  rw [eT_row, eT_row, DL.srt_row, ltR_val]
theorem srtOk_rows {fd : List (List Nm)} (hn : ∀ r ∈ fd, r ≠ []) : srtOk (fd.map (eT eS)) = true := by
  unfold srtOk
  simp only [Bool.and_eq_true, Bool.or_eq_true, List.all_eq_true, decide_eq_true_eq]
  refine ⟨⟨⟨plL_of fun d hd => ?_, fun x hx y hy => ?_⟩, .inl fun d hd => ?_⟩, fun d hd => ?_⟩
  · obtain ⟨s, _, rfl⟩ := List.mem_map.mp hd
    exact plL_of fun d hd => by obtain ⟨s, _, rfl⟩ := List.mem_map.mp hd; rfl
  · obtain ⟨s, _, rfl⟩ := List.mem_map.mp hx
    obtain ⟨t, _, rfl⟩ := List.mem_map.mp hy
    rw [eT_row, eT_row, rowD, rowD, D.py, D.py, PySem.W.alike, alike_strs]
  · obtain ⟨s, hs, rfl⟩ := List.mem_map.mp hd
    match s, hn s hs with
    | _ :: _, _ => rfl
  · obtain ⟨s, _, rfl⟩ := List.mem_map.mp hd
    have : (eT eS s).py.depth ≤ 1 := by
      rw [eT, D.py, PyData.depth]
      exact Nat.succ_le_succ (depth_of fun d hd => by obtain ⟨s, _, rfl⟩ := List.mem_map.mp hd; exact Nat.le_refl _)
    omega
theorem sortT_rows {E fd : List (List Nm)} (hn : ∀ r ∈ fd, r ≠ []) (hE : E.Pairwise fun a b => ltR a b = true) (p : fd.Perm E) : sortT (eT eS) fd = some E := by
  refine sortT_of (srtOk_rows hn) (fun a b _ _ h1 h2 => ?_) (hE.imp fun {a b} h => ?_) p
  · rw [srt_rowN] at h1 h2
    exact ltR_tot (by simpa using h2) (by simpa using h1)
  · rw [srt_rowN, ltR_asym h]
    rfl
/-- ties among the places ws: of two different places, no two of the same -/
structure Lk (ws : List Nm) (ls : List (Nm × Nm)) : Prop where
  on : ∀ p ∈ ls, p.1 ∈ ws ∧ p.2 ∈ ws ∧ p.1 ≠ p.2
  dif : ls.Pairwise fun p q => q ≠ p ∧ q ≠ p.swap
/-! ### neighbours -/
def nbr (ls : List (Nm × Nm)) (x : Nm) : List Nm := (ls.filter fun p => decide (p.1 = x)).map (·.2) ++ (ls.filter fun p => decide (p.2 = x)).map (·.1)
def NB (ls : List (Nm × Nm)) (x : Nm) : List Nm := sortN (nbr ls x)
def adj (ls : List (Nm × Nm)) (x y : Nm) : Prop := (x, y) ∈ ls ∨ (y, x) ∈ ls
theorem adj_symm {ls : List (Nm × Nm)} {x y : Nm} (h : adj ls x y) : adj ls y x := h.symm
theorem mem_nbr {ls : List (Nm × Nm)} {x y : Nm} : y ∈ nbr ls x ↔ adj ls x y := by
  unfold nbr adj
  simp only [List.mem_append, List.mem_map, List.mem_filter, decide_eq_true_eq]
  constructor
  · rintro (⟨⟨a, b⟩, ⟨h1, rfl⟩, rfl⟩ | ⟨⟨a, b⟩, ⟨h1, rfl⟩, rfl⟩)
    · exact .inl h1
    · exact .inr h1
  · rintro (h | h)
    · exact .inl ⟨(x, y), ⟨h, rfl⟩, rfl⟩
    · exact .inr ⟨(y, x), ⟨h, rfl⟩, rfl⟩
theorem mem_NB {ls : List (Nm × Nm)} {x y : Nm} : y ∈ NB ls x ↔ adj ls x y := (sortN_perm _).mem_iff.trans mem_nbr
theorem nbr_nodup {ws : List Nm} {ls : List (Nm × Nm)} (h : Lk ws ls) (x : Nm) : (nbr ls x).Nodup := by
  unfold nbr
  refine List.pairwise_append.mpr ⟨?_, ?_, ?_⟩
  · refine List.pairwise_map.mpr (((h.dif.sublist List.filter_sublist)).imp_of_mem fun {p q} hp hq n z => n.1 ?_)
    have h1 := of_decide_eq_true (List.mem_filter.mp hp).2
    have h2 := of_decide_eq_true (List.mem_filter.mp hq).2
    exact Prod.ext (h2.trans h1.symm) z.symm
  · refine List.pairwise_map.mpr (((h.dif.sublist List.filter_sublist)).imp_of_mem fun {p q} hp hq n z => n.1 ?_)
    have h1 := of_decide_eq_true (List.mem_filter.mp hp).2
    have h2 := of_decide_eq_true (List.mem_filter.mp hq).2
    exact Prod.ext z.symm (h2.trans h1.symm)
  · intro a ha b hb z
    subst z
    obtain ⟨p, hp, rfl⟩ := List.mem_map.mp ha
    obtain ⟨q, hq, e⟩ := List.mem_map.mp hb
    obtain ⟨p1, p2⟩ := List.mem_filter.mp hp
    obtain ⟨q1, q2⟩ := List.mem_filter.mp hq
    have p2 := of_decide_eq_true p2
    have q2 := of_decide_eq_true q2
    have es : q = p.swap := Prod.ext e (q2.trans p2.symm)
    have dd := h.dif
    have hne : p ≠ q := fun z => by
      have := h.on p p1
      rw [z] at p2
      exact (h.on q q1).2.2 (p2.trans q2.symm)
    have key : ∀ {l : List (Nm × Nm)}, l.Pairwise (fun p q => q ≠ p ∧ q ≠ p.swap) → p ∈ l → q ∈ l → False := by
      intro l hl
      induction l with
      | nil => intro a; cases a
      | cons c l ih =>
        obtain ⟨k1, k2⟩ := List.pairwise_cons.mp hl
        intro a b
        rcases List.mem_cons.mp a with ea | a
        · rcases List.mem_cons.mp b with eb | b
          · exact hne (ea.trans eb.symm)
          · exact (k1 q b).2 (by rw [← ea]; exact es)
        · rcases List.mem_cons.mp b with eb | b
          · exact (k1 p a).2 (by rw [← eb, es, Prod.swap_swap])
          · exact ih k2 a b
    exact key dd p1 q1
theorem NB_lt {ws : List Nm} {ls : List (Nm × Nm)} (h : Lk ws ls) (x : Nm) : (NB ls x).Pairwise fun a b => ltN a b = true := sortN_lt (nbr_nodup h x)
theorem NB_nodup {ws : List Nm} {ls : List (Nm × Nm)} (h : Lk ws ls) (x : Nm) : (NB ls x).Nodup := (NB_lt h x).imp fun h => ltN_ne h
theorem NB_in {ws : List Nm} {ls : List (Nm × Nm)} (h : Lk ws ls) {x y : Nm} (hy : y ∈ NB ls x) : y ∈ ws := by
  rcases mem_NB.mp hy with q | q
  · exact (h.on _ q).2.1
  · exact (h.on _ q).1
theorem nd_len : ∀ {l ws : List Nm}, l.Nodup → (∀ x ∈ l, x ∈ ws) → l.length ≤ ws.length
  | [], _, _, _ =>
                                                                                                              Nat.zero_le _
  | a :: l, ws, h, hs => by
    obtain ⟨h1, h2⟩ :=
                                                                                                              List.nodup_cons.mp h
    have ha : a ∈ ws := hs a List.mem_cons_self
    have := nd_len (ws := ws.erase a) h2 fun x hx => (List.mem_erase_of_ne (a := x) (b := a) fun z => h1 (by rw [← z]; exact hx)).mpr (hs x (List.mem_cons_of_mem _ hx))
    rw [List.length_erase_of_mem ha] at this
    have := List.length_pos_of_mem ha
    rw [List.length_cons]
    omega

/-! ### rows, by depth -/
section
variable (nb : Nm → List Nm) (g : Nm)
def kids (pre : List Nm) (x p : Nm) (rest : List (List Nm)) : List (List Nm) := if p = g then [pre ++ [x] ++ [g]] else if p ∈ pre ++ [x] then [] else rest
def ext : Nat → List Nm → Nm → List (List Nm)
  | 0, _, _ => []
  | n + 1, pre, x => (nb x).flatMap fun p => kids g pre x p (ext n (pre ++ [x]) p)
/-- what is left of a row from x to g, vis already in it -/
inductive Wk : List Nm → Nm → List Nm → Prop
  | goal {vis : List Nm} {x : Nm} : g ∈ nb x → Wk vis x [g]
  | step {vis : List Nm} {x p : Nm} {t : List Nm} : p ∈ nb x → p ≠ g → p ∉ vis → Wk (vis ++ [p]) p t → Wk vis x (p :: t)
end
variable {nb : Nm → List Nm} {g : Nm}
theorem mem_ext : ∀ {n : Nat} {pre : List Nm} {x : Nm} {r : List Nm}, r ∈ ext nb g n pre x ↔ ∃ t, t.length ≤ n ∧ r = pre ++ [x] ++ t ∧ Wk nb g (pre ++ [x]) x t
  | 0, pre, x, r => by
    refine Iff.intro (fun h => by cases h) fun h => ?_
    obtain ⟨t, h1, h2, h3⟩ := h
    cases h3 <;> simp at h1
  | n + 1, pre, x, r => by
    unfold ext kids
    rw [List.mem_flatMap]
    constructor
    · rintro ⟨p, hp, h⟩
      by_cases e : p = g
      · rw [if_pos e] at h
        subst e
        exact ⟨[p], by simp, List.mem_singleton.mp h, .goal hp⟩
      · rw [if_neg e] at h
        by_cases e2 : p ∈ pre ++ [x]
        · rw [if_pos e2] at h; cases h
        · rw [if_neg e2] at h
          obtain ⟨t, h1, h2, h3⟩ := mem_ext.mp h
          exact ⟨p :: t, by simpa using h1, by rw [h2]; simp, .step hp e e2 h3⟩
    · rintro ⟨t, h1, rfl, h3⟩
      cases h3 with
      | goal hp => exact ⟨g, hp, by rw [if_pos rfl]; simp⟩
      | step hp e e2 h4 =>
        rename_i p t
        refine ⟨p, hp, ?_⟩
        rw [if_neg e, if_neg e2]
        exact mem_ext.mpr ⟨t, by simpa using h1, by simp, h4⟩
theorem ext_lt (hs : ∀ x, (nb x).Pairwise fun a b => ltN a b = true) : ∀ {n : Nat} {pre : List Nm} {x : Nm}, (ext nb g n pre x).Pairwise fun a b => ltR a b = true
  | 0, _, _ => List.Pairwise.nil
  | n + 1, pre, x => by
    have pref : ∀ p r, r ∈ kids g pre x p (ext nb g n (pre ++ [x]) p) → ∃ t, r = pre ++ [x] ++ p :: t := by
      intro p r h
      unfold kids at h
      split at h
      · rename_i e
        exact ⟨[], by rw [List.mem_singleton.mp h, e]⟩
      · split at h
        · cases h
        · obtain ⟨t, _, h2, _⟩ := mem_ext.mp h
          exact ⟨t, by rw [h2]; simp⟩
    refine List.pairwise_flatMap.mpr ⟨fun p hp => ?_, (hs x).imp fun {p q} hpq r hr r' hr' => ?_⟩
    · unfold kids
      split
      · exact List.pairwise_singleton _ _
      · split
        · exact List.Pairwise.nil
        · exact ext_lt hs
    · obtain ⟨t, rfl⟩ := pref p r hr
      obtain ⟨t', rfl⟩ := pref q r' hr'
      rw [ltR_pre]
      show (if p = q then _ else ltN p q) = true
      rw [if_neg (ltN_ne hpq)]
      exact hpq
/-! ### rows without depth -/
section
variable {nb : Nm → List Nm} {g b : Nm}
def Ch (nb : Nm → List Nm) (l : List Nm) : Prop := ∀ l1 a c l2, l = l1 ++ a :: c :: l2 → c ∈ nb a
theorem ch_one {x : Nm} : Ch nb [x] := fun l1 a c l2 h => by
  have := congrArg
                                                                                                              List.length h
  simp at this
  omega
theorem ch_cons {x y : Nm} {t : List Nm} : Ch nb (x :: y :: t) ↔ y ∈ nb x ∧ Ch nb (y :: t) := by
  constructor
  · intro h
    refine ⟨h [] x y t rfl, fun l1 a c l2 e => h (x :: l1) a c l2 (by rw [e]; rfl)⟩
  · rintro ⟨h1, h2⟩ l1 a c l2 e
    cases l1 with
    | nil => cases e; exact h1
    | cons z l1 =>
      have e : x :: (y :: t) = z :: (l1 ++ a :: c :: l2) := e
      exact h2 l1 a c l2 (List.cons.inj e).2
theorem ch_rev {l : List Nm} (hs : ∀ x y, y ∈ nb x → x ∈ nb y) (h : Ch nb l) : Ch nb l.reverse := fun l1 a c l2 e => by
  have e2 := congrArg List.reverse e
  rw [List.reverse_reverse] at e2
  simp only [List.reverse_append, List.reverse_cons, List.append_assoc, List.cons_append, List.nil_append] at e2
  exact hs _ _ (h l2.reverse c a l1.reverse (by rw [e2]))
theorem wk_to {vis : List Nm} {x : Nm} {t : List Nm} (h : Wk nb g vis x t) : ∃ s, t = s ++ [g] ∧ g ∉ s ∧ s.Nodup ∧ (∀ p ∈ s, p ∉ vis) ∧ Ch nb (x :: t) := by
  induction h with
  | goal hg => exact ⟨[], rfl, by simp, List.nodup_nil, by simp, ch_cons.mpr ⟨hg, ch_one⟩⟩
  | step hp hg hv hw ih =>
    obtain ⟨s, rfl, h2, h3, h4, h5⟩ := ih
    rename_i vis x p
    refine ⟨p :: s, rfl, fun z => ?_, List.nodup_cons.mpr ⟨fun z => h4 p z (by simp), h3⟩, fun q hq => ?_, ch_cons.mpr ⟨hp, h5⟩⟩
    · rcases List.mem_cons.mp
                                                                                                              z with z | z
      · exact hg z.symm
      · exact h2 z
    · rcases List.mem_cons.mp
                                                                                                              hq with rfl | hq
      · exact hv
      · exact fun z => h4 q hq (List.mem_append_left _ z)
theorem wk_of : ∀ {s : List Nm} {vis : List Nm} {x : Nm}, g ∉ s → s.Nodup → (∀ p ∈ s, p ∉ vis) → Ch nb (x :: (s ++ [g])) → Wk nb g vis x (s ++ [g])
  | [], vis, x, _, _, _, hc => .goal (ch_cons.mp hc).1
  | p :: s, vis, x, hg, hn, hv, hc => by
    obtain ⟨h1, h2⟩ := ch_cons.mp hc
    obtain ⟨n1, n2⟩ := List.nodup_cons.mp hn
    refine .step h1 (fun z => hg (by rw [z]; exact List.mem_cons_self)) (hv p List.mem_cons_self) (wk_of (fun z => hg (List.mem_cons_of_mem _ z)) n2 (fun q hq z => ?_) h2)
    rcases List.mem_append.mp z with z | z
    · exact hv q (List.mem_cons_of_mem _ hq) z
    · rw [List.mem_singleton.mp z] at hq
      exact n1 hq
/-- a row from b to g -/
def SP (nb : Nm → List Nm) (b g : Nm) (r : List Nm) : Prop := ∃ s, r = b :: (s ++ [g]) ∧ r.Nodup ∧ Ch nb r
theorem sp_wk (hb : b ≠ g) {t : List Nm} : Wk nb g [b] b t ↔ SP nb b g (b :: t) := by
  constructor
  · intro h
    obtain ⟨s, rfl, h2, h3, h4, h5⟩ := wk_to h
    refine ⟨s, rfl, List.nodup_cons.mpr ⟨fun z => ?_, List.nodup_append.mpr ⟨h3, by simp, fun a ha c hc z => ?_⟩⟩, h5⟩
    · rcases List.mem_append.mp z with z | z
      · exact h4 b z (by simp)
      · exact hb (List.mem_singleton.mp z)
    · rw [List.mem_singleton.mp hc] at z
      exact h2 (z ▸ ha)
  · rintro ⟨s, h1, h2, h3⟩
    have h1 : t = s ++ [g] := (List.cons.inj h1).2
    subst h1
    obtain ⟨n1, n2⟩ := List.nodup_cons.mp h2
    obtain ⟨m1, m2, m3⟩ := List.nodup_append.mp n2
    refine wk_of (fun z => m3 g z g (by simp) rfl) m1 (fun p hp z => ?_) h3
    rw [List.mem_singleton.mp z] at hp
    exact n1 (List.mem_append_left _ hp)
theorem sp_rev (hs : ∀ x y, y ∈ nb x → x ∈ nb y) {r : List Nm} (h : SP nb b g r) : SP nb g b r.reverse := by
  obtain ⟨s, rfl, h2, h3⟩ := h
  exact ⟨s.reverse, by simp, (List.reverse_perm _).nodup_iff.mpr h2, ch_rev hs h3⟩
theorem sp_in {ws : List Nm} (hn : ∀ x y, y ∈ nb x → y ∈ ws) (hb : b ∈ ws) {r : List Nm} (h : SP nb b g r) : ∀ x ∈ r, x ∈ ws := by
  obtain ⟨s, rfl, h2, h3⟩ := h
  intro x hx
  rcases List.mem_cons.mp
                                                                                                              hx with rfl | hx
  · exact hb
  · obtain ⟨l1, l2, e⟩ := List.append_of_mem hx
    have e3 : b :: (s ++ [g]) = (b :: l1) ++ x :: l2 := by rw [e]; rfl
    obtain ⟨l3, c, e4⟩ : ∃ l3 c, b :: l1 = l3 ++ [c] := ⟨(b :: l1).dropLast, (b :: l1).getLast (by simp), (List.dropLast_concat_getLast (by simp)).symm⟩
    refine hn c x (h3 l3 c x l2 ?_)
    rw [e3, e4]
    simp
theorem ext_sp {ws : List Nm} (hn : ∀ x y, y ∈ nb x → y ∈ ws) (hb : b ∈ ws) (hbg : b ≠ g) {n : Nat} (hl : ws.length ≤ n) {r : List Nm} : r ∈ ext nb g n [] b ↔ SP nb b g r := by
  rw [mem_ext]
  constructor
  · rintro ⟨t, _, rfl, h⟩
    exact (sp_wk hbg).mp h
  · intro h
    obtain ⟨s, e, h2, h3⟩ := id h
    have := nd_len h2 (sp_in hn hb h)
    subst e
    exact ⟨s ++ [g], by simp only [List.length_cons] at this; omega, rfl, (sp_wk hbg).mpr h⟩
/-- the rows the other way round -/
theorem ext_turn {ws : List Nm} (hn : ∀ x y, y ∈ nb x → y ∈ ws) (hs : ∀ x y, y ∈ nb x → x ∈ nb y) (hlt : ∀ x, (nb x).Pairwise fun a b => ltN a b = true) (hb : b ∈ ws) (hg : g ∈ ws) (hbg : b ≠ g) {n : Nat} (hl : ws.length ≤ n) :
    ((ext nb b n [] g).map List.reverse).Perm (ext nb g n [] b) := by
  have n1 : (ext nb g n [] b).Nodup := ltR_nodup (ext_lt hlt)
  have n2 : ((ext nb b n [] g).map List.reverse).Nodup := List.pairwise_map.mpr ((ltR_nodup (ext_lt hlt)).imp fun h z => h (List.reverse_inj.mp z))
  refine (List.perm_ext_iff_of_nodup n2 n1).mpr fun r => ?_
  rw [ext_sp hn hb hbg hl, List.mem_map]
  constructor
  · rintro ⟨q, hq, rfl⟩
    exact sp_rev hs ((ext_sp hn hg hbg.symm hl).mp hq)
  · intro h
    exact ⟨r.reverse, (ext_sp hn hg hbg.symm hl).mpr (sp_rev hs h), List.reverse_reverse _⟩
end

/-! ### how many -/
def fct : Nat → Nat
  | 0 => 1
  | m + 1 => 1 + (m + 1) * fct m
def nds (nb : Nm → List Nm) (g : Nm) : Nat → List Nm → Nm → Nat
  | 0, _, _ => 1
  | n + 1, pre, x => 1 + ((nb x).map fun p => if p = g ∨ p ∈ pre ++ [x] then 0 else nds nb g n (pre ++ [x]) p).sum
section
variable {nb : Nm → List Nm} {g : Nm} {ws : List Nm}
theorem fct_mono {a b : Nat} (h : a ≤ b) : fct a ≤ fct b := by
  induction h with
  | refl => exact Nat.le_refl _
  | step _ ih =>
    refine Nat.le_trans ih ?_
    rename_i m _
    show fct m ≤ 1 + (m + 1) * fct m
    rw [Nat.add_mul]
    omega
theorem sum_le {p : Nm → Prop} [DecidablePred p] {f : Nm → Nat} {B : Nat} : ∀ {l : List Nm}, (∀ x ∈ l, ¬ p x → f x ≤ B) → (l.map fun x => if p x then 0 else f x).sum ≤ (l.filter fun x => !decide (p x)).length * B
  | [], _ => by simp
  | x :: l, h => by
    have ih := sum_le (p := p) (f := f) (B := B) (l := l) fun y hy => h y (List.mem_cons_of_mem _ hy)
    rw [List.map_cons, List.sum_cons, List.filter_cons]
    by_cases hp : p x
    · rw [if_pos hp]
      simp only [hp, decide_true, Bool.not_true, Bool.false_eq_true, if_false]
      omega
    · rw [if_neg hp]
      have := h x List.mem_cons_self hp
      simp only [hp, decide_false, Bool.not_false, if_true, List.length_cons, Nat.add_mul]
      omega
theorem nds_le (hn : ∀ x y, y ∈ nb x → y ∈ ws) (hd : ∀ x, (nb x).Nodup) (hg : g ∈ ws) : ∀ {n : Nat} {pre : List Nm} {x : Nm}, (pre ++ [x]).Nodup → (∀ y ∈ pre ++ [x], y ∈ ws) → g ∉ pre ++ [x] → nds nb g n pre x ≤ fct (ws.length - pre.length - 2)
  | 0, pre, x, _, _, _ => by
    show 1 ≤ _
    exact Nat.le_trans (by decide : 1 ≤ fct 0) (fct_mono (Nat.zero_le _))
  | n + 1, pre, x, h1, h2, h3 => by
    have hk : ((nb x).filter fun p => !decide (p = g ∨ p ∈ pre ++ [x])).length + pre.length + 2 ≤ ws.length := by
      have nd : (((nb x).filter fun p => !decide (p = g ∨ p ∈ pre ++ [x])) ++ (g :: (pre ++ [x]))).Nodup := by
        refine List.nodup_append.mpr ⟨(hd x).sublist List.filter_sublist, List.nodup_cons.mpr ⟨h3, h1⟩, fun a ha c hc z => ?_⟩
        subst z
        have q := (List.mem_filter.mp ha).2
        have q : ¬ (a = g ∨ a ∈ pre ++ [x]) := by simpa using q
        exact q (List.mem_cons.mp hc)
      have := nd_len (ws := ws) nd fun y hy => by
        rcases List.mem_append.mp
                                                                                                              hy with hy | hy
        · exact hn x y (List.mem_filter.mp hy).1
        · rcases List.mem_cons.mp
                                                                                                              hy with rfl | hy
          · exact hg
          · exact h2 y hy
      simp only [List.length_append, List.length_cons, List.length_nil] at this
      omega
    unfold nds
    have s := sum_le (p := fun p => p = g ∨ p ∈ pre ++ [x]) (f := fun p => nds nb g n (pre ++ [x]) p) (B := fct (ws.length - (pre ++ [x]).length - 2)) (l := nb x) fun p hp hq => by
      have hq1 : p ∉ pre ++ [x] := fun z => hq (.inr z)
      refine nds_le hn hd hg (List.nodup_append.mpr ⟨h1, by simp, fun a ha c hc z => ?_⟩) (fun y hy => ?_) fun z => ?_
      · rw [List.mem_singleton.mp hc] at z
        exact hq1 (z ▸ ha)
      · rcases List.mem_append.mp hy with hy | hy
        · exact h2 y hy
        · rw [List.mem_singleton.mp hy]; exact hn x p hp
      · rcases List.mem_append.mp z with z | z
        · exact h3 z
        · exact hq (.inl (List.mem_singleton.mp z).symm)
    obtain ⟨m, hm⟩ : ∃ m, m = ws.length - pre.length - 2 := ⟨_, rfl⟩
    rw [← hm]
    rw [show ws.length - (pre ++ [x]).length - 2 = m - 1 by rw [List.length_append]; simp only [List.length_cons, List.length_nil]; omega] at s
    generalize ((nb x).filter fun p => !decide (p = g ∨ p ∈ pre ++ [x])).length = K at s hk
    cases m with
    | zero =>
      have : K = 0 := by omega
      subst this
      rw [Nat.zero_mul] at s
      exact Nat.add_le_add_left s 1
    | succ m =>
      have : K ≤ m + 1 := by omega
      exact Nat.add_le_add_left (Nat.le_trans s (Nat.mul_le_mul_right _ this)) 1
theorem ext_len (hd : ∀ x, (nb x).Nodup) : ∀ {n : Nat} {pre : List Nm} {x : Nm}, (ext nb g n pre x).length ≤ nds nb g n pre x
  | 0, _, _ => Nat.zero_le _
  | n + 1, pre, x => by
    unfold ext nds
    rw [List.length_flatMap]
    have key : ∀ {l : List Nm}, l.Nodup → (l.map fun p => (kids g pre x p (ext nb g n (pre ++ [x]) p)).length).sum ≤ (if g ∈ l then 1 else 0) + (l.map fun p => if p = g ∨ p ∈ pre ++ [x] then 0 else nds nb g n (pre ++ [x]) p).sum := by
      intro l hl
      induction l with
      | nil => simp
      | cons p l ih =>
        obtain ⟨h1, h2⟩ := List.nodup_cons.mp hl
        have ih := ih h2
        rw [List.map_cons, List.map_cons, List.sum_cons, List.sum_cons]
        by_cases e : p = g
        · subst e
          have e1 : (kids p pre x p (ext nb p n (pre ++ [x]) p)).length = 1 := by unfold kids; rw [if_pos rfl]; rfl
          rw [e1, if_pos List.mem_cons_self, if_pos (.inl rfl)]
          rw [if_neg h1] at ih
          omega
        · have hm : (g ∈ p :: l) ↔ g ∈ l := by rw [List.mem_cons]; exact ⟨fun z => z.resolve_left fun y => e y.symm, .inr⟩
          have e2 : (if g ∈ p :: l then 1 else 0) = (if g ∈ l then 1 else 0) := by by_cases q : g ∈ l <;> simp [hm, q]
          rw [e2]
          by_cases e3 : p ∈ pre ++ [x]
          · have e1 : (kids g pre x p (ext nb g n (pre ++ [x]) p)).length = 0 := by unfold kids; rw [if_neg e, if_pos e3]; rfl
            have e4 : (if p = g ∨ p ∈ pre ++ [x] then 0 else nds nb g n (pre ++ [x]) p) = 0 := if_pos (.inr e3)
            rw [e1, e4]
            omega
          · have e1 : (kids g pre x p (ext nb g n (pre ++ [x]) p)).length ≤ nds nb g n (pre ++ [x]) p := by unfold kids; rw [if_neg e, if_neg e3]; exact ext_len hd
            have e4 : (if p = g ∨ p ∈ pre ++ [x] then 0 else nds nb g n (pre ++ [x]) p) = nds nb g n (pre ++ [x]) p := if_neg fun z => z.elim e e3
            rw [e4]
            omega
    have := key (hd x)
    refine Nat.le_trans this (Nat.add_le_add_right ?_ _)
    split <;> omega
end
end TN

namespace TN
open PySem L2 DL PySem.Spec PyProof.Rows
/-! typed operations, plainly -/
section
variable {α β γ ρ σ : Type}
theorem atI_nat {l : List α} {k : Nat} : atI l (k : Int) = l[k]? := by
  unfold L2.atI L2.ixN
  rw [if_pos (by omega)]
  by_cases h : k < l.length
  · rw [if_pos (by omega)]
    simp
  · rw [if_neg (by omega), List.getElem?_eq_none (by omega)]
    rfl
theorem atI_last {l : List α} {a : α} : atI (l ++ [a]) (-(1 : Int)) = some a := by
  unfold L2.atI L2.ixN
  rw [List.length_append, List.length_singleton, if_neg (by omega), if_pos (by omega)]
  have : (-(1 : Int) + ((l.length + 1 : Nat) : Int)).toNat = l.length := by omega
  rw [Option.bind_some, this]
  simp
theorem atI_last2 {l : List α} {a b : α} : atI (l ++ [a, b]) (-(2 : Int)) = some a := by
  unfold L2.atI L2.ixN
  have e : (l ++ [a, b]).length = l.length + 2 := by simp
  rw [e, if_neg (by omega), if_pos (by omega)]
  have : (-(2 : Int) + ((l.length + 2 : Nat) : Int)).toNat = l.length := by omega
  rw [Option.bind_some, this]
  simp
def ofN : Nat → Int := fun i => (i : Int)
theorem rngT_zero (n : Nat) : rngT 0 n = (List.range n).map ofN := by
  unfold rngT
  refine List.map_congr_left
                                                                                                              fun i _ => ?_
  show 0 + (i : Int) = (i : Int)
  omega
theorem rngO_nat {n : Nat} (h : n < 4611686018427387904) : rngO (n : Int) = some ((List.range n).map ofN) := by
  unfold rngO
  rw [inW_of (by omega) (by omega), cond_true, Int.toNat_natCast, rngT_zero]
theorem rngO_pred {n : Nat} (h : n < 4611686018427387904) : rngO ((n : Int) - 1) = some ((List.range (n - 1)).map ofN) := by
  cases n with
  | zero => unfold rngO; rfl
  | succ n =>
    rw [show ((n + 1 : Nat) : Int) - 1 = (n : Int) by omega]
    exact rngO_nat (by omega)
theorem addL_ok {a b : List α} (h : a.length + b.length ≤ 16777216) : addL a b = some (a ++ b) := if_pos (by rw [sizeLine_eq]; exact h)
theorem pushT_ok {a : List α} {x : α} (h : a.length < 16777216) : pushT a x = some (a ++ [x]) := if_pos (by rw [sizeLine_eq]; exact h)
theorem dputT_ok {κ : Type} [DecidableEq κ] {d : List (κ × α)} {k : κ} {v : α} (h : d.length < 16777216) : dputT d k v = some (putA d k v) := if_pos (by rw [sizeLine_eq]; exact h)
theorem popT_ok {l : List α} {a : α} : popT (l ++ [a]) = some (l, a) := by unfold popT; simp
/-- a walk that stops at the first of some -/
theorem forT_find {tb : σ → α → Option (Fw ρ σ)} {c : α → Bool} {g : α → ρ} {s : σ} : ∀ {l : List α}, (∀ a ∈ l, tb s a = some (if c a then .rt (g a) else .nx s)) → forT tb l s = some (match l.find? c with
    | some a => .rt (g a)
    | none => .nx s)
  | [], _ => rfl
  | a :: l, h => by
    rw [forT, h a List.mem_cons_self, Option.bind_some, List.find?_cons]
    cases hc : c a with
    | true => rfl
    | false => exact forT_find fun b hb => h b (List.mem_cons_of_mem _ hb)
/-- a walk step by step, by what holds in between -/
theorem foldT_inv {tb : σ → α → Option σ} (I : List α → σ → Prop) : ∀ {l : List α} {s : σ}, I l s → (∀ a l s, I (a :: l) s → ∃ s', tb s a = some s' ∧ I l s') → ∃ s', foldT tb l s = some s' ∧ I [] s'
  | [], s, h, _ => ⟨s, rfl, h⟩
  | a :: l, s, h, hs => by
    obtain ⟨s1, h1, h2⟩ := hs a l s h
    obtain ⟨s', h3, h4⟩ := foldT_inv I h2 hs
    exact ⟨s', by rw [foldT, h1, Option.bind_some, h3], h4⟩
theorem foldT_eq {tb : σ → α → Option σ} {f : σ → α → σ} : ∀ {l : List α} {s : σ}, (∀ s, ∀ a ∈ l, tb s a = some (f s a)) → foldT tb l s = some (l.foldl f s)
  | [], s, _ => rfl
  | a :: l, s, h => by
    rw [foldT, h s a List.mem_cons_self, Option.bind_some]
    exact foldT_eq fun s b hb => h s b (List.mem_cons_of_mem _ hb)
theorem lc_range {n : Nat} {h : Int → Option β} (h' : Nat → β) (hn : n ≤ 16777216) (hh : ∀ k, k < n → h (k : Int) = some (h' k)) : lcO ((List.range n).map ofN) (fun _ => some true) h = some ((List.range n).map h') := by
  rw [lcO_eq (fun _ => true) (fun i => h' i.toNat) (by simpa using hn) (fun _ _ => rfl) fun a ha _ => ?_]
  · rw [List.filter_eq_self.mpr fun _ _ => rfl, List.map_map]
    refine congrArg some (List.map_congr_left fun i _ => ?_)
    show h' ((i : Int).toNat) = h' i
    rw [Int.toNat_natCast]
  · obtain ⟨k, hk, rfl⟩ := List.mem_map.mp ha
    show h (k : Int) = some (h' (k : Int).toNat)
    rw [Int.toNat_natCast]
    exact hh k (List.mem_range.mp hk)
/-- what follows each other -/
def stp (l : List α) : List (α × α) := l.zip l.tail
theorem stp_len (l : List α) : (stp l).length = l.length - 1 := by
  unfold stp
  rw [List.length_zip, List.length_tail]
  omega
theorem stp_get {l : List α} {k : Nat} {x y : α} (hx : l[k]? = some x) (hy : l[k + 1]? = some y) : (stp l)[k]? = some (x, y) := by
  unfold stp
  rw [List.getElem?_zip_eq_some]
  exact ⟨hx, by rw [List.getElem?_tail]; exact hy⟩
theorem range_get {l : List α} {g : α → β} {h' : Nat → β} (h : ∀ k a, l[k]? = some a → h' k = g a) : (List.range l.length).map h' = l.map g := by
  refine List.ext_getElem?
                                                                                                              fun k => ?_
  rw [List.getElem?_map,
                                                                                                              List.getElem?_map]
  by_cases hk : k < l.length
  · rw [List.getElem?_range hk, List.getElem?_eq_getElem hk]
    exact congrArg some (h k _ (List.getElem?_eq_getElem hk))
  · rw [List.getElem?_eq_none (by simpa using hk), List.getElem?_eq_none (by simpa using hk)]
    rfl
theorem lc_stp {r : List α} {h : Int → Option β} (G : α → α → β) (hr : r.length ≤ 16777216) (hh : ∀ (k : Nat) x y, r[k]? = some x → r[k + 1]? = some y → h (k : Int) = some (G x y)) :
    lcO ((List.range (r.length - 1)).map ofN) (fun _ => some true) h = some ((stp r).map fun p => G p.1 p.2) := by
  have ex : ∀ k, k < r.length - 1 → ∃ x y, r[k]? = some x ∧ r[k + 1]? = some y := fun k hk => ⟨_, _, List.getElem?_eq_getElem (by omega : k < r.length), List.getElem?_eq_getElem (by omega : k + 1 < r.length)⟩
  by_cases hl : r.length - 1 = 0
  · rw [hl]
    have : stp r = [] := List.eq_nil_of_length_eq_zero (by rw [stp_len]; exact hl)
    rw [this]
    exact if_pos (Nat.zero_le _)
  · obtain ⟨x0, y0, hx0, hy0⟩ := ex 0 (by omega)
    rw [lc_range (fun k => match (stp r)[k]? with
      | some p => G p.1 p.2
      | none => G x0 y0) (by omega) fun k hk => ?_]
    · rw [← stp_len r]
      refine congrArg some (range_get fun k a ha => ?_)
      rw [ha]
    · obtain ⟨x, y, hx, hy⟩ := ex k hk
      rw [hh k x y hx hy, stp_get hx hy]
/-- never falling -/
def up (l : List Int) : Bool := ((stp l).map fun p => decide (p.1 ≤ p.2)).all id
theorem up_cons {a b : Int} {l : List Int} : up (a :: b :: l) = (decide (a ≤ b) && up (b :: l)) := by
  unfold up stp
  simp
theorem up_iff : ∀ l : List Int, up l = true ↔ l.Pairwise (· ≤ ·)
  | [] => by simp [up, stp]
  | [a] => by simp [up, stp]
  | a :: b :: l => by
    rw [up_cons, Bool.and_eq_true, decide_eq_true_eq, up_iff (b :: l)]
    constructor
    · rintro ⟨h1, h2⟩
      refine List.pairwise_cons.mpr ⟨fun c hc => ?_, h2⟩
      rcases List.mem_cons.mp
                                                                                                              hc with rfl | hc
      · exact h1
      · exact Int.le_trans h1 ((List.pairwise_cons.mp h2).1 c hc)
    · intro h
      obtain ⟨h1, h2⟩ :=
                                                                                                              List.pairwise_cons.mp h
      exact ⟨h1 b List.mem_cons_self, h2⟩
theorem srt_int (a b : Int) : srtLe (eI a) (eI b) = decide (a ≤ b) := by
  have e : srtLe (eI a) (eI b) = !decide (b < a) := by
    show (!PySem.W.dataLt (.int b) (.int a)) = _
    rw [PySem.W.dataLt_int]
  rw [e]
  by_cases h : a ≤ b
  · rw [decide_eq_true h, decide_eq_false (by omega)]; rfl
  · rw [decide_eq_false h, decide_eq_true (by omega)]; rfl
theorem sortT_int (l : List Int) : sortT eI l = some (l.mergeSort fun a b => decide (a ≤ b)) := by
  unfold sortT
  rw [if_pos (srtOk_int l)]
  congr 1
  congr 1
  funext a b
  exact srt_int a b
theorem sort_up (l : List Int) : eqv l (l.mergeSort fun a b => decide (a ≤ b)) = up l := by
  rw [Bool.eq_iff_iff, eqv_iff, up_iff]
  constructor
  · intro h
    rw [h]
    exact (List.pairwise_mergeSort (le := fun a b : Int => decide (a ≤ b)) (fun a b c h1 h2 => by simp at h1 h2 ⊢; omega) (fun a b => by simp; omega) l).imp fun h => by simpa using h
  · intro h
    exact (List.mergeSort_of_pairwise (h.imp fun h => by simpa using h)).symm
end
end TN

namespace TN
open PySem L2 DL PySem.Spec PyProof.Rows
/-! webs: neighbours, rows -/
structure GW (n : WebT) : Prop where
  nd : n.1.Nodup
  pl : ∀ x ∈ n.1, x ∈ poolN
  lk : Lk n.1 n.2
  h2 : 2 ≤ n.1.length
  h9 : n.1.length ≤ 9
  hl : n.2.length ≤ 16
section
variable {n : WebT} {x g b : Nm}
theorem nbr_len (ls : List (Nm × Nm)) (x : Nm) : (nbr ls x).length ≤ 2 * ls.length := by
  unfold nbr
  rw [List.length_append, List.length_map, List.length_map]
  have h1 := List.length_filter_le (fun p : Nm × Nm => decide (p.1 = x)) ls
  have h2 := List.length_filter_le (fun p : Nm × Nm => decide (p.2 = x)) ls
  omega
theorem near_eq (ws : List Nm) {ls : List (Nm × Nm)} (hl : ls.length ≤ 1000) : t__law_near (ws, ls) x = some (NB ls x) := by
  unfold t__law_near
  simp only [lcP_eq (Nat.le_trans hl (by decide : 1000 ≤ 16777216)), Option.bind_some]
  have hn := nbr_len ls x
  unfold nbr at hn
  rw [List.length_append] at hn
  rw [addL_ok (by
    have : ∀ p : Nm × Nm, eqv p.1 x = decide (p.1 = x) := fun _ => rfl
    have : ∀ p : Nm × Nm, eqv p.2 x = decide (p.2 = x) := fun _ => rfl
    simp only [eqv]
    omega), Option.bind_some, sortT_nm, Option.bind_some]
  rfl
theorem beside_eq {n : WebT} (hl : n.2.length ≤ 1000) : t_beside_in n x = some (NB n.2 x) := by
  unfold t_beside_in t_Web_ties
  simp only [Option.bind_some, lcP_eq (Nat.le_trans hl (by decide : 1000 ≤ 16777216))]
  have hn := nbr_len n.2 x
  unfold nbr at hn
  rw [List.length_append] at hn
  rw [addL_ok (by
    simp only [eqv]
    omega), Option.bind_some, sortT_nm, Option.bind_some, Option.bind_some]
  rfl
theorem fct7 {m : Nat} (h : m ≤ 7) : fct m ≤ 13700 := Nat.le_trans (fct_mono h) (by decide)
theorem nd_snoc {l : List Nm} {p : Nm} (h : l.Nodup) (hp : p ∉ l) : (l ++ [p]).Nodup := List.nodup_append.mpr ⟨h, by simp, fun a ha c hc z => by
  rw [List.mem_singleton.mp hc] at z
  exact hp (z ▸ ha)⟩
theorem in_snoc {ws l : List Nm} {p : Nm} (h : ∀ y ∈ l, y ∈ ws) (hp : p ∈ ws) : ∀ y ∈ l ++ [p], y ∈ ws := fun y hy => by
  rcases List.mem_append.mp
                                                                                                              hy with hy | hy
  · exact h y hy
  · rw [List.mem_singleton.mp hy]; exact hp
theorem getA_map {α : Type} {ws : List Nm} {f : Nm → α} (hx : x ∈ ws) : getA (ws.map fun w => (w, f w)) x = some (f x) := by
  induction ws with
  | nil => cases hx
  | cons w ws ih =>
    unfold getA
    rw [List.map_cons, List.find?_cons]
    by_cases h : w = x
    · subst h
      simp
    · simp only [h, decide_false]
      rcases List.mem_cons.mp hx with z | hx
      · exact absurd z.symm h
      · exact ih hx
theorem longer_eq {ws : List Nm} {ls : List (Nm × Nm)} (lk : Lk ws ls) (h9 : ws.length ≤ 9) (hg : g ∈ ws) : ∀ {k : Nat} {pre : List Nm} {x : Nm}, (pre ++ [x]).Nodup → (∀ y ∈ pre ++ [x], y ∈ ws) → g ∉ pre ++ [x] → ws.length ≤ k + pre.length + 1 →
    t_longer_paths k (ws.map fun w => (w, NB ls w)) (pre ++ [x]) g = some (ext (NB ls) g k pre x)
  | 0, pre, x, h1, h2, h3, h4 => by
    have := nd_len (ws := ws) (nd_snoc h1 h3) (in_snoc h2 hg)
    simp only [List.length_append, List.length_cons, List.length_nil] at this
    omega
  | k + 1, pre, x, h1, h2, h3, h4 => by
    have hx : x ∈ ws := h2 x (by simp)
    have hlen : pre.length ≤ 9 := by
      have := nd_len (ws := ws) h1 h2
      simp only [List.length_append, List.length_cons, List.length_nil] at this
      omega
    have hB : (ext (NB ls) g (k + 1) pre x).length ≤ 13700 := Nat.le_trans (ext_len fun y => NB_nodup lk y) (Nat.le_trans (nds_le (fun a c h => NB_in lk h) (fun y => NB_nodup lk y) hg h1 h2 h3) (fct7 (by omega)))
    obtain ⟨s', q1, done, hd, he⟩ := foldT_inv (tb := tb1_longer_paths (t_longer_paths k) (ws.map fun w => (w, NB ls w)) (pre ++ [x]) g) (fun rest s => ∃ done, done ++ rest = NB ls x ∧ s = done.flatMap fun p => kids g pre x p (ext (NB ls) g k (pre ++ [x]) p)) (l := NB ls x) (s := [])
      ⟨[], rfl, rfl⟩ (fun p rest s ⟨done, hd, hs⟩ => by
        have hpn : p ∈ NB ls x := by rw [← hd]; simp
        have hpw : p ∈ ws := NB_in lk hpn
        have ld : s.length + (kids g pre x p (ext (NB ls) g k (pre ++ [x]) p)).length ≤ 13700 := by
          refine Nat.le_trans ?_ hB
          show _ ≤ ((NB ls x).flatMap fun p => kids g pre x p (ext (NB ls) g k (pre ++ [x]) p)).length
          rw [hs, ← hd, List.flatMap_append, List.flatMap_cons, List.length_append, List.length_append]
          omega
        refine ⟨s ++ kids g pre x p (ext (NB ls) g k (pre ++ [x]) p), ?_, done ++ [p], by rw [List.append_assoc]; exact hd, by rw [hs, List.flatMap_append, List.flatMap_cons, List.flatMap_nil, List.append_nil]⟩
        have l1 : (pre ++ [x]).length + [g].length ≤ 16777216 := by simp only [List.length_append, List.length_cons, List.length_nil]; omega
        have l2 : (pre ++ [x]).length + [p].length ≤ 16777216 := by simp only [List.length_append, List.length_cons, List.length_nil]; omega
        unfold tb1_longer_paths
        unfold kids at ld ⊢
        by_cases hpg : p = g
        · rw [if_pos hpg] at ld ⊢
          rw [if_pos (eqv_iff.mpr hpg), addL_ok l1, Option.bind_some, pushT_ok (by omega), Option.bind_some]
        · rw [if_neg hpg] at ld ⊢
          rw [if_neg (by rw [Bool.not_eq_true, eqv_no]; exact hpg)]
          by_cases hin : p ∈ pre ++ [x]
          · rw [if_pos hin, if_neg (by rw [memv_iff.mpr hin]; decide), List.append_nil]
          · rw [if_neg hin] at ld ⊢
            have ih := longer_eq lk h9 hg (k := k) (pre := pre ++ [x]) (x := p) (nd_snoc h1 hin) (in_snoc h2 hpw) (fun z => by
              rcases List.mem_append.mp z with z | z
              · exact h3 z
              · exact hpg (List.mem_singleton.mp z).symm) (by rw [List.length_append]; simp only [List.length_cons, List.length_nil]; omega)
            rw [if_pos (by rw [memv_no.mpr hin]; rfl), addL_ok l2, Option.bind_some, ih, Option.bind_some, addL_ok (by omega), Option.bind_some])
    rw [List.append_nil] at hd
    subst hd
    show (_ : Option (List (List Nm))) = _
    unfold t_longer_paths
    rw [Option.bind_some, atI_last, Option.bind_some, getA_map hx, Option.bind_some, Option.bind_some, q1, Option.bind_some]
    rw [he]
    rfl
abbrev ER (n : WebT) (b g : Nm) : List (List Nm) := ext (NB n.2) g 12 [] b
theorem paths_eq (W : GW n) (hb : b ∈ n.1) (hg : g ∈ n.1) (hbg : b ≠ g) : t_paths n b g = some (ER n b g) := by
  have l1 := longer_eq W.lk W.h9 hg (k := 12) (pre := []) (x := b) (by simp) (fun y hy => by rw [List.mem_singleton.mp hy]; exact hb) (by simp; exact hbg.symm) (by have := W.h9; simp only [List.length_nil]; omega)
  have d1 : dcO n.1 (fun _ => some true) (fun a => some a) (fun a => t_beside_in n a) = some (n.1.map fun w => (w, NB n.2 w)) := by
    unfold dcO
    rw [if_pos (by rw [sizeLine_eq]; have := W.h9; omega), dcGo_eq (p' := fun _ => true) (k' := fun a => a) (h' := fun a => NB n.2 a) (fun _ _ => rfl) (fun a _ _ => ⟨rfl, beside_eq (Nat.le_trans W.hl (by decide))⟩) (by rw [List.filter_eq_self.mpr fun _ _ => rfl]; simpa using W.nd) (fun _ _ _ q hq => by cases hq)]
    rw [List.filter_eq_self.mpr fun _ _ => rfl]
    rfl
  unfold t_paths t_Web_places
  simp only [Option.bind_some, d1]
  exact congrArg (·.bind fun v => some v) l1
/-! the law's own rows -/
def EX (ls : List (Nm × Nm)) (g : Nm) (q : List Nm × Nm) : List (List Nm) := ext (NB ls) g (12 - q.1.length) q.1 q.2
def WT (ls : List (Nm × Nm)) (g : Nm) (q : List Nm × Nm) : Nat := nds (NB ls) g (12 - q.1.length) q.1 q.2
def rwQ (q : List Nm × Nm) : List Nm := q.1 ++ [q.2]
structure Vd (ws : List Nm) (g : Nm) (q : List Nm × Nm) : Prop where
  nd : (q.1 ++ [q.2]).Nodup
  in_ : ∀ y ∈ q.1 ++ [q.2], y ∈ ws
  ng : g ∉ q.1 ++ [q.2]
variable {ws : List Nm} {ls : List (Nm × Nm)}
theorem Vd.len {q : List Nm × Nm} (h : Vd ws g q) (hg : g ∈ ws) : q.1.length + 2 ≤ ws.length := by
  have := nd_len (ws := ws) (nd_snoc h.nd h.ng) (in_snoc h.in_ hg)
  simp only [List.length_append, List.length_cons, List.length_nil] at this
  omega
theorem wt_pos {q : List Nm × Nm} : 1 ≤ WT ls g q := by
  unfold WT
  cases 12 - q.1.length with
  | zero => exact Nat.le_refl _
  | succ n => exact Nat.le_add_right _ _
theorem wt_len : ∀ {S : List (List Nm × Nm)}, S.length ≤ (S.map (WT ls g)).sum
  | [] => Nat.le_refl _
  | q :: S => by
    have := wt_len (S := S)
    have := wt_pos (ls := ls) (g := g) (q := q)
    rw [List.map_cons, List.sum_cons, List.length_cons]
    omega
theorem inner (lk : Lk ws ls) (h9 : ws.length ≤ 9) (hg : g ∈ ws) {q : List Nm × Nm} (hq : Vd ws g q) {fd : List (List Nm)} {S : List (List Nm × Nm)} (hS : ∀ r ∈ S, Vd ws g r) (v : List (List Nm))
    (hB : (fd ++ S.flatMap (EX ls g) ++ EX ls g q).length ≤ 13700) (hW : (S.map (WT ls g)).sum + WT ls g q ≤ 13700) :
    ∃ (fd' : List (List Nm)) (S' : List (List Nm × Nm)), foldT (tb1__law_lines g (v, rwQ q)) (NB ls q.2) (fd, S.map rwQ) = some (fd', S'.map rwQ) ∧ (∀ r ∈ S', Vd ws g r) ∧
      (fd' ++ S'.flatMap (EX ls g)).Perm (fd ++ S.flatMap (EX ls g) ++ EX ls g q) ∧ (S'.map (WT ls g)).sum + 1 = (S.map (WT ls g)).sum + WT ls g q := by
  have hql := hq.len hg
  obtain ⟨n, hn⟩ : ∃ n, 12 - q.1.length = n + 1 := ⟨12 - q.1.length - 1, by omega⟩
  have hn2 : 12 - (q.1 ++ [q.2]).length = n := by simp only [List.length_append, List.length_cons, List.length_nil]; omega
  have eX : EX ls g q = (NB ls q.2).flatMap fun p => kids g q.1 q.2 p (EX ls g (q.1 ++ [q.2], p)) := by
    unfold EX
    rw [hn]
    simp only [hn2]
    rfl
  have eW : WT ls g q = 1 + ((NB ls q.2).map fun p => if p = g ∨ p ∈ q.1 ++ [q.2] then 0 else WT ls g (q.1 ++ [q.2], p)).sum := by
    unfold WT
    rw [hn]
    simp only [hn2]
    rfl
  obtain ⟨s', q1, fd', S', hv, hpm, hw, he, _⟩ := foldT_inv (tb := tb1__law_lines g (v, rwQ q)) (fun rest s => ∃ (fd' : List (List Nm)) (S' : List (List Nm × Nm)), (∀ r ∈ S', Vd ws g r) ∧
      (fd' ++ S'.flatMap (EX ls g) ++ rest.flatMap fun p => kids g q.1 q.2 p (EX ls g (q.1 ++ [q.2], p))).Perm (fd ++ S.flatMap (EX ls g) ++ EX ls g q) ∧
      (S'.map (WT ls g)).sum + 1 + (rest.map fun p => if p = g ∨ p ∈ q.1 ++ [q.2] then 0 else WT ls g (q.1 ++ [q.2], p)).sum = (S.map (WT ls g)).sum + WT ls g q ∧ s = (fd', S'.map rwQ) ∧ ∀ p ∈ rest, p ∈ NB ls q.2) (l := NB ls q.2) (s := (fd, S.map rwQ))
    ⟨fd, S, hS, by rw [eX], by rw [eW]; omega, rfl, fun p h => h⟩ (fun p rest s ⟨fd', S', hv, hpm, hw, he, hm⟩ => by
      subst he
      have hpw : p ∈ ws := NB_in lk (hm p List.mem_cons_self)
      have hm' : ∀ r ∈ rest, r ∈ NB ls q.2 := fun r hr => hm r (List.mem_cons_of_mem _ hr)
      have lf : fd'.length ≤ 13700 := by
        have := hpm.length_eq
        simp only [List.length_append] at this hB
        omega
      have lS : S'.length ≤ 13700 := by
        have := wt_len (ls := ls) (g := g) (S := S')
        omega
      rw [List.flatMap_cons] at hpm
      rw [List.map_cons, List.sum_cons] at hw
      have l1 : (rwQ q).length + [g].length ≤ 16777216 := by simp only [rwQ, List.length_append, List.length_cons, List.length_nil]; omega
      have l2 : (rwQ q).length + [p].length ≤ 16777216 := by simp only [rwQ, List.length_append, List.length_cons, List.length_nil]; omega
      unfold tb1__law_lines
      by_cases hpg : p = g
      · have ek : kids g q.1 q.2 p (EX ls g (q.1 ++ [q.2], p)) = [q.1 ++ [q.2] ++ [g]] := by unfold kids; rw [if_pos hpg]
        rw [ek] at hpm
        rw [if_pos (.inl hpg)] at hw
        refine ⟨(fd' ++ [q.1 ++ [q.2] ++ [g]], S'.map rwQ), ?_, fd' ++ [q.1 ++ [q.2] ++ [g]], S', hv, List.Perm.trans ?_ hpm, by omega, rfl, hm'⟩
        · rw [if_pos (eqv_iff.mpr hpg)]
          show ((addL (rwQ q) [g]).bind _) = _
          rw [addL_ok l1, Option.bind_some, pushT_ok (by show fd'.length < _; omega), Option.bind_some]
          rfl
        · simp only [List.append_assoc]
          refine List.Perm.append_left
                                                                                                              _ ?_
          rw [← List.append_assoc]
          exact (List.perm_append_comm.append_right _).trans (by rw [List.append_assoc])
      · rw [if_neg (by rw [Bool.not_eq_true, eqv_no]; exact hpg)]
        by_cases hin : p ∈ q.1 ++ [q.2]
        · have ek : kids g q.1 q.2 p (EX ls g (q.1 ++ [q.2], p)) = [] := by unfold kids; rw [if_neg hpg, if_pos hin]
          rw [ek, List.nil_append] at hpm
          rw [if_pos (.inr hin)] at hw
          refine ⟨(fd', S'.map rwQ), ?_, fd', S', hv, hpm, by omega, rfl, hm'⟩
          have : memv p (v, rwQ q).2 = true := memv_iff.mpr hin
          rw [if_neg (by rw [this]; decide)]
        · have ek : kids g q.1 q.2 p (EX ls g (q.1 ++ [q.2], p)) = EX ls g (q.1 ++ [q.2], p) := by unfold kids; rw [if_neg hpg, if_neg hin]
          rw [ek] at hpm
          rw [if_neg fun z => z.elim hpg hin] at hw
          refine ⟨(fd', (S' ++ [(q.1 ++ [q.2], p)]).map rwQ), ?_, fd', S' ++ [(q.1 ++ [q.2], p)], fun r hr => ?_, ?_, ?_, rfl, hm'⟩
          · have : memv p (v, rwQ q).2 = false := memv_no.mpr hin
            rw [if_pos (by rw [this]; rfl)]
            show ((addL (rwQ q) [p]).bind _) = _
            rw [addL_ok l2, Option.bind_some, pushT_ok (by rw [List.length_map]; omega), Option.bind_some, List.map_append]
            rfl
          · rcases List.mem_append.mp
                                                                                                              hr with hr | hr
            · exact hv r hr
            · rw [List.mem_singleton.mp
                                                                                                              hr]
              exact ⟨nd_snoc hq.nd hin, in_snoc hq.in_ hpw, fun z => by
                rcases List.mem_append.mp z with z | z
                · exact hq.ng z
                · exact hpg (List.mem_singleton.mp z).symm⟩
          · rw [List.flatMap_append, List.flatMap_cons, List.flatMap_nil, List.append_nil]
            simp only [List.append_assoc] at hpm ⊢
            exact hpm
          · rw [List.map_append, List.sum_append, List.map_cons, List.map_nil, List.sum_cons, List.sum_nil]
            omega)
  rw [List.flatMap_nil, List.append_nil] at hpm
  rw [List.map_nil, List.sum_nil] at hw
  exact ⟨fd', S', by rw [q1, he], hv, hpm, hw⟩
theorem outer (lk : Lk ws ls) (hl : ls.length ≤ 1000) (h9 : ws.length ≤ 9) (hg : g ∈ ws) : ∀ {m : Nat} {fd : List (List Nm)} {S : List (List Nm × Nm)}, (∀ r ∈ S, Vd ws g r) →
    (fd ++ S.flatMap (EX ls g)).length ≤ 13700 → (S.map (WT ls g)).sum ≤ 13700 → (S.map (WT ls g)).sum < m →
    ∃ fd' : List (List Nm), whT tc2__law_lines (tb2__law_lines (ws, ls) g) m (fd, S.map rwQ) = some (fd', []) ∧ fd'.Perm (fd ++ S.flatMap (EX ls g))
  | 0, _, _, _, _, _, h => absurd h (Nat.not_lt_zero _)
  | m + 1, fd, S, hS, hB, hW, hn => by
    rcases List.eq_nil_or_concat S with rfl | ⟨S0, q, rfl⟩
    · refine ⟨fd, ?_, by simp⟩
      rw [whT]
      unfold tc2__law_lines
      have : eqv ((fd, List.map rwQ []).2 : List (List Nm)) [] = true := eqv_iff.mpr rfl
      rw [this]
      rfl
    · rw [List.concat_eq_append] at *
      have hq : Vd ws g q := hS q (by simp)
      rw [List.flatMap_append, List.flatMap_cons, List.flatMap_nil, List.append_nil, ← List.append_assoc] at hB
      rw [List.map_append, List.sum_append, List.map_cons, List.map_nil, List.sum_cons, List.sum_nil, Nat.add_zero] at hW hn
      obtain ⟨fd', S', q1, q2, q3, q4⟩ := inner (ws := ws) (ls := ls) lk h9 hg hq (fun r hr => hS r (List.mem_append_left _ hr)) (S0.map rwQ) hB hW
      obtain ⟨fd2, r1, r2⟩ := outer lk hl h9 hg (m := m) (fd := fd') (S := S') q2 (by rw [q3.length_eq]; exact hB) (by omega) (by omega)
      refine ⟨fd2, ?_, ?_⟩
      · have em : (S0 ++ [q]).map rwQ = S0.map rwQ ++ [rwQ q] := by simp
        have c0 : tc2__law_lines (fd, S0.map rwQ ++ [rwQ q]) = some true := by
          have : eqv ((fd, S0.map rwQ ++ [rwQ q]).2 : List (List Nm)) [] = false := eqv_no.mpr (by simp)
          unfold tc2__law_lines
          rw [this]
          rfl
        rw [whT, em, c0, Option.bind_some, if_pos rfl]
        have st : tb2__law_lines (ws, ls) g (fd, S0.map rwQ ++ [rwQ q]) = some (fd', S'.map rwQ) := by
          unfold tb2__law_lines
          show ((popT (S0.map rwQ ++ [rwQ q])).bind _) = _
          rw [popT_ok, Option.bind_some]
          have e1 : atI (rwQ q) (-(1 : Int)) = some q.2 := atI_last
          show (((((atI (rwQ q) (-(1 : Int))).bind fun v19 => t__law_near (ws, ls) v19).bind fun v20 => some v20).bind fun v30 => ((foldT (tb1__law_lines g (S0.map rwQ, rwQ q)) v30 (fd, S0.map rwQ)).bind fun s28 => some (s28.1, s28.2)))) = _
          rw [e1, Option.bind_some, near_eq ws hl, Option.bind_some, Option.bind_some, q1, Option.bind_some]
        rw [st, Option.bind_some]
        exact r1
      · rw [List.flatMap_append, List.flatMap_cons, List.flatMap_nil, List.append_nil, ← List.append_assoc]
        exact r2.trans q3
theorem ext_bound (lk : Lk ws ls) (h9 : ws.length ≤ 9) (hg : g ∈ ws) (hb : b ∈ ws) (hbg : b ≠ g) : (ext (NB ls) g 12 [] b).length ≤ 13700 ∧ nds (NB ls) g 12 [] b ≤ 13700 := by
  have h := nds_le (nb := NB ls) (g := g) (n := 12) (pre := []) (x := b) (fun a c h => NB_in lk h) (fun y => NB_nodup lk y) hg (by simp) (fun y hy => by rw [List.mem_singleton.mp hy]; exact hb) (by simp; exact hbg.symm)
  have h2 := Nat.le_trans h (fct7 (by simp only [List.length_nil]; omega))
  exact ⟨Nat.le_trans (ext_len fun y => NB_nodup lk y) h2, h2⟩
theorem lines_eq (W : GW n) (hb : b ∈ n.1) (hg : g ∈ n.1) (hbg : b ≠ g) : t__law_lines n b g = some (ER n b g) := by
  obtain ⟨b1, b2⟩ := ext_bound W.lk W.h9 hg hb hbg
  have v0 : Vd n.1 g ([], b) := ⟨by simp, fun y hy => by rw [List.mem_singleton.mp hy]; exact hb, by simp; exact hbg.symm⟩
  have e1 : EX n.2 g ([], b) = ext (NB n.2) g 12 [] b := rfl
  have e2 : WT n.2 g ([], b) = nds (NB n.2) g 12 [] b := rfl
  obtain ⟨fd, q1, q2⟩ := outer (ws := n.1) (ls := n.2) W.lk (Nat.le_trans W.hl (by decide)) W.h9 hg (m := 20000) (fd := []) (S := [([], b)]) (fun r hr => by rw [List.mem_singleton.mp hr]; exact v0)
    (by rw [List.flatMap_cons, List.flatMap_nil, List.append_nil, List.nil_append, e1]; exact b1) (by rw [List.map_cons, List.map_nil, List.sum_cons, List.sum_nil, e2]; omega) (by rw [List.map_cons, List.map_nil, List.sum_cons, List.sum_nil, e2]; omega)
  rw [List.flatMap_cons, List.flatMap_nil, List.append_nil, List.nil_append, e1] at q2
  have hr : ∀ r ∈ fd, r ≠ [] := fun r hr => by
    obtain ⟨t, _, rfl, _⟩ := mem_ext.mp (q2.mem_iff.mp hr)
    simp
  have s1 := sortT_rows hr (ext_lt fun y => NB_lt W.lk y) q2
  have q1' : whT tc2__law_lines (tb2__law_lines n g) 20000 ([], [[b]]) = some (fd, []) := q1
  unfold t__law_lines
  rw [Option.bind_some, Option.bind_some, q1', Option.bind_some]
  show ((sortT (eT eS) fd).bind _) = _
  rw [s1]
  rfl
end
end TN

namespace TN
open PySem L2 DL PySem.Spec PyProof.Rows
/-! ties, times, ways -/
section
variable {n : WebT} {x y g b : Nm} {ls : List (Nm × Nm)} {ts : List Int} {r : List Nm}
def hitP (a b : Nm) (p : Nm × Nm) : Bool := eqv p (a, b) || eqv p (b, a)
theorem hitP_iff {a b : Nm} {p : Nm × Nm} : hitP a b p = true ↔ p = (a, b) ∨ p = (b, a) := by
  unfold hitP
  rw [Bool.or_eq_true, eqv_iff, eqv_iff]
def hitB (ls : List (Nm × Nm)) (a b : Nm) (k : Nat) : Bool := match ls[k]? with
  | some p => hitP a b p
  | none => false
def idx (ls : List (Nm × Nm)) (a b : Nm) : Option Nat := (List.range ls.length).find? (hitB ls a b)
theorem index_eq {a b : Nm} (hl : ls.length ≤ 1000) : t_index_in ls a b = some ((idx ls a b).map ofN) := by
  unfold t_index_in
  rw [rngO_nat (by omega), Option.bind_some]
  rw [forT_find (c := fun k => hitB ls a b k.toNat) (g := fun k => some k) (s := ()) fun k hk => ?_]
  · unfold thenT
    rw [Option.bind_some, List.find?_map]
    unfold idx
    have : ((fun k : Int => hitB ls a b k.toNat) ∘ ofN) = hitB ls a b := by
      funext k
      show hitB ls a b ((k : Int).toNat) = _
      rw [Int.toNat_natCast]
    rw [this]
    cases (List.range ls.length).find? (hitB ls a b) with
    | none => rfl
    | some k => rfl
  · obtain ⟨i, hi, rfl⟩ := List.mem_map.mp hk
    have hil := List.mem_range.mp hi
    unfold tb1_index_in hitB
    show (((atI ls (i : Int)).bind _).bind _) = _
    have e : (ofN i).toNat = i := Int.toNat_natCast i
    rw [atI_nat, e, List.getElem?_eq_getElem hil, Option.bind_some, Option.bind_some]
    have : memv ls[i] [(a, b), (b, a)] = hitP a b ls[i] := by
      rw [Bool.eq_iff_iff, memv_iff, hitP_iff]
      simp
    rw [this]
    show (if hitP a b ls[i] = true then _ else _) = some (if hitP a b ls[i] = true then _ else _)
    split <;> rfl
theorem sortN_eq {l m : List Nm} : sortN l = sortN m ↔ l.Perm m := by
  constructor
  · intro h
    exact ((sortN_perm l).symm.trans (by rw [h])).trans (sortN_perm m)
  · intro p
    have hE : (sortN m).Pairwise fun a b => srtLe (eS a) (eS b) = true := by
      refine (List.pairwise_mergeSort (le := fun a b => !ltN b a) (fun a b c h1 h2 => ?_) (fun a b => ?_) m).imp fun {a b} h => by rw [srt_nm]; exact h
      · rw [← srt_nm] at h1 h2 ⊢
        exact srt_trans _ _ _ h1 h2
      · rw [← srt_nm, ← srt_nm]
        exact srt_tot _ _
    have := sortT_of (enc := eS) (E := sortN m) (fd := l) (srtOk_nm l) (fun a b _ _ h1 h2 => by
      rw [srt_nm] at h1 h2
      by_cases e : a = b
      · exact e
      · have := ltN_tot e (by simpa using h1)
        rw [this] at h2
        cases h2) hE (p.trans (sortN_perm m).symm)
    rw [sortT_nm] at this
    exact Option.some.inj this
theorem perm_two {x y a b : Nm} : [x, y].Perm [a, b] ↔ (x, y) = (a, b) ∨ (x, y) = (b, a) := by
  constructor
  · intro p
    have h1 : x ∈ [a, b] := p.mem_iff.mp (by simp)
    rcases List.mem_cons.mp h1 with rfl | h1
    · have := (List.perm_cons x).mp p
      have := List.perm_singleton.mp this
      left
      rw [show y = b by simpa using this]
    · have hx := List.mem_singleton.mp h1
      subst hx
      have := (List.perm_cons x).mp (p.trans (List.Perm.swap x a []))
      have := List.perm_singleton.mp this
      right
      rw [show y = a by simpa using this]
  · rintro (h | h)
    · cases h; exact .refl _
    · cases h; exact List.Perm.swap _ _ []
theorem head_find {α : Type} {p : α → Bool} : ∀ l : List α, (l.filter p)[0]? = l.find? p
  | [] => rfl
  | a :: l => by
    rw [List.find?_cons, List.filter_cons]
    cases h : p a with
    | true => rfl
    | false => simpa using head_find l
theorem link_eq {a b : Nm} (ws : List Nm) (hl : ls.length ≤ 1000) : t__law_link_at (ws, ls) a b = some ((idx ls a b).map ofN) := by
  unfold t__law_link_at
  rw [rngO_nat (by show ls.length < _; omega), Option.bind_some]
  rw [lcO_eq (fun k => hitB ls a b k.toNat) (fun k => k) (by simp; omega) (fun k hk => ?_) fun _ _ _ => rfl]
  · rw [Option.bind_some, List.map_id'']
    · have e0 : (((List.range ls.length).map ofN).filter fun k => hitB ls a b k.toNat) = ((List.range ls.length).filter (hitB ls a b)).map ofN := by
        rw [List.filter_map]
        have : ((fun k : Int => hitB ls a b k.toNat) ∘ ofN) = hitB ls a b := by
          funext k
          show hitB ls a b ((k : Int).toNat) = _
          rw [Int.toNat_natCast]
        rw [this]
      show (Option.bind (if (!eqv (((List.range ls.length).map ofN).filter fun k => hitB ls a b k.toNat) []) = true then _ else _) _) = _
      rw [e0]
      have hf := head_find (p := hitB ls a b) (List.range ls.length)
      unfold idx
      rw [← hf]
      cases hq : (List.range ls.length).filter (hitB ls a b) with
      | nil =>
        have : eqv (List.map ofN []) ([] : List Int) = true := eqv_iff.mpr rfl
        rw [this]
        rfl
      | cons k l =>
        have : eqv (List.map ofN (k :: l)) ([] : List Int) = false := eqv_no.mpr (by simp)
        rw [this]
        have e1 : atI (List.map ofN (k :: l)) (0 : Int) = some (ofN k) := atI_nat (k := 0)
        show (Option.bind (if (!eqv (List.map ofN (k :: l)) []) = true then (atI (List.map ofN (k :: l)) 0).map some else some none) _) = _
        rw [this, e1]
        rfl
    · exact fun _ => rfl
  · obtain ⟨i, hi, rfl⟩ := List.mem_map.mp hk
    have hil := List.mem_range.mp hi
    have e : (ofN i).toNat = i := Int.toNat_natCast i
    show ((((atI ls (i : Int)).bind _).bind _).bind _) = some (hitB ls a b (ofN i).toNat)
    unfold hitB
    rw [atI_nat, e, List.getElem?_eq_getElem hil, Option.bind_some, Option.bind_some, sortT_nm, Option.bind_some, sortT_nm, Option.bind_some]
    refine congrArg some ?_
    rw [Bool.eq_iff_iff, eqv_iff, sortN_eq, perm_two]
    exact hitP_iff.symm
theorem idx_adj (h : adj ls x y) : ∃ k, idx ls x y = some k ∧ k < ls.length ∧ (ls[k]? = some (x, y) ∨ ls[k]? = some (y, x)) := by
  have ex : ∃ k, k < ls.length ∧ hitB ls x y k = true := by
    rcases h with h | h
    · obtain ⟨k, hk, e⟩ := List.getElem_of_mem h
      exact ⟨k, hk, by unfold hitB; rw [List.getElem?_eq_getElem hk, e]; exact hitP_iff.mpr (.inl rfl)⟩
    · obtain ⟨k, hk, e⟩ := List.getElem_of_mem h
      exact ⟨k, hk, by unfold hitB; rw [List.getElem?_eq_getElem hk, e]; exact hitP_iff.mpr (.inr rfl)⟩
  obtain ⟨k0, hk0, hb0⟩ := ex
  have : (idx ls x y).isSome = true := by
    unfold idx
    rw [List.find?_isSome]
    exact ⟨k0, List.mem_range.mpr hk0, hb0⟩
  obtain ⟨k, hk⟩ := Option.isSome_iff_exists.mp this
  have h1 := List.find?_some hk
  have h2 := List.mem_range.mp (List.mem_of_find?_eq_some hk)
  refine ⟨k, hk, h2, ?_⟩
  unfold hitB at h1
  rw [List.getElem?_eq_getElem h2] at h1 ⊢
  rcases hitP_iff.mp h1 with e | e
  · exact .inl (by rw [e])
  · exact .inr (by rw [e])
/-- the time of the tie of two places -/
def tmv (ls : List (Nm × Nm)) (ts : List Int) (p : Nm × Nm) : Int := ((idx ls p.1 p.2).bind (ts[·]?)).getD 0
theorem ties_eq (hl : n.2.length ≤ 1000) (hr : r.length ≤ 1000) : t_ties_in n r = some ((stp r).map fun p => (idx n.2 p.1 p.2).map ofN) := by
  unfold t_ties_in t_Web_ties
  rw [rngO_pred (by omega), Option.bind_some, lc_stp (fun a b => (idx n.2 a b).map ofN) (by omega) fun k x y hx hy => ?_]
  · rfl
  · have e : ((k : Int) + 1) = ((k + 1 : Nat) : Int) := by omega
    rw [Option.bind_some, atI_nat, hx, Option.bind_some, e, atI_nat, hy, Option.bind_some, index_eq hl]
def Adj (ls : List (Nm × Nm)) (r : List Nm) : Prop := ∀ p ∈ stp r, adj ls p.1 p.2
theorem when_eq (hl : n.2.length ≤ 1000) (hr : r.length ≤ 1000) (ht : ts.length = n.2.length) (ha : Adj n.2 r) : t__law_when n ts r = some ((stp r).map (tmv n.2 ts)) := by
  unfold t__law_when
  rw [rngO_pred (by omega), Option.bind_some, lc_stp (fun a b => tmv n.2 ts (a, b)) (by omega) fun k x y hx hy => ?_]
  · rfl
  · have e : ((k : Int) + 1) = ((k + 1 : Nat) : Int) := by omega
    obtain ⟨i, h1, h2, _⟩ := idx_adj (ha (x, y) (List.mem_of_getElem? (stp_get hx hy)))
    rw [atI_nat, hx, Option.bind_some, e, atI_nat, hy, Option.bind_some, show t__law_link_at n x y = _ from link_eq n.1 hl, Option.bind_some, h1]
    show atI ts (i : Int) = _
    rw [atI_nat]
    unfold tmv
    rw [h1, Option.bind_some, List.getElem?_eq_getElem (by omega)]
    rfl
theorem stp_map {α β : Type} (f : α → β) (l : List α) : stp (l.map f) = (stp l).map fun p => (f p.1, f p.2) := by
  unfold stp
  rw [← List.map_tail, List.zip_map]
  rfl
def way (n : WebT) (ts : List Int) (r : List Nm) : Bool := up ((stp r).map (tmv n.2 ts))
theorem goes_eq (ht : ts.length = n.2.length) (hr : r.length ≤ 1000) (ha : Adj n.2 r) : t_goes ts ((stp r).map fun p => (idx n.2 p.1 p.2).map ofN) = some (way n ts r) := by
  unfold t_goes
  have hlen : ((stp r).map fun p => (idx n.2 p.1 p.2).map ofN).length ≤ 1000 := by rw [List.length_map, stp_len]; omega
  rw [rngO_pred (by omega), Option.bind_some, lc_stp (fun a b => decide ((a.bind (atI ts)).getD 0 ≤ (b.bind (atI ts)).getD 0)) (by omega) fun k x y hx hy => ?_]
  · rw [Option.bind_some, Option.bind_some]
    refine congrArg some ?_
    unfold way up
    rw [stp_map, stp_map, List.map_map, List.map_map]
    refine congrArg (List.all · id) (List.map_congr_left fun p hp => ?_)
    have tv : ∀ q : Nm × Nm, (((idx n.2 q.1 q.2).map ofN).bind (atI ts)).getD 0 = tmv n.2 ts q := fun q => by
      unfold tmv
      cases idx n.2 q.1 q.2 with
      | none => rfl
      | some i => show (atI ts (i : Int)).getD 0 = (ts[i]?).getD 0; rw [atI_nat]
    show decide ((((idx n.2 p.1.1 p.1.2).map ofN).bind (atI ts)).getD 0 ≤ (((idx n.2 p.2.1 p.2.2).map ofN).bind (atI ts)).getD 0) = decide (tmv n.2 ts p.1 ≤ tmv n.2 ts p.2)
    rw [tv p.1, tv p.2]
  · have e : ((k : Int) + 1) = ((k + 1 : Nat) : Int) := by omega
    have val : ∀ {j : Nat} {z : Option Int}, ((stp r).map fun p => (idx n.2 p.1 p.2).map ofN)[j]? = some z → ∃ v, z.bind (atI ts) = some v := fun {j z} hz => by
      rw [List.getElem?_map] at hz
      obtain ⟨p, hp, rfl⟩ := Option.map_eq_some_iff.mp hz
      obtain ⟨i, h1, h2, _⟩ := idx_adj (ha p (List.mem_of_getElem? hp))
      rw [h1]
      show ∃ v, atI ts (i : Int) = some v
      rw [atI_nat]
      exact ⟨_, List.getElem?_eq_getElem (by omega)⟩
    obtain ⟨u, hu⟩ := val hx
    obtain ⟨v, hv⟩ := val hy
    rw [atI_nat, hx, Option.bind_some, e, atI_nat, hy, Option.bind_some]
    show ((x.bind (atI ts)).bind _) = some (decide ((x.bind (atI ts)).getD 0 ≤ (y.bind (atI ts)).getD 0))
    rw [hu, hv]
    rfl
theorem serves_eq (hl : n.2.length ≤ 1000) (hr : r.length ≤ 1000) (ht : ts.length = n.2.length) (ha : Adj n.2 r) : t__law_serves n ts r = some (way n ts r) := by
  unfold t__law_serves
  rw [when_eq hl hr ht ha, Option.bind_some, sortT_int, Option.bind_some, Option.bind_some, sort_up]
  rfl
/-! rows from b to g -/
theorem adj_of_ch {ws : List Nm} (lk : Lk ws ls) : ∀ {r : List Nm}, Ch (NB ls) r → Adj ls r
  | [], _, p, hp => by cases hp
  | [a], _, p, hp => by simp [stp] at hp
  | a :: c :: t, h, p, hp => by
    obtain ⟨h1, h2⟩ := ch_cons.mp h
    have e : stp (a :: c :: t) = (a, c) :: stp (c :: t) := rfl
    rw [e] at hp
    rcases List.mem_cons.mp
                                                                                                              hp with rfl | hp
    · exact mem_NB.mp h1
    · exact adj_of_ch lk h2 p hp
theorem er_sp (W : GW n) (hb : b ∈ n.1) (hbg : b ≠ g) : r ∈ ER n b g ↔ SP (NB n.2) b g r := ext_sp (ws := n.1) (fun x y h => NB_in W.lk h) hb hbg (n := 12) (by have := W.h9; omega)
theorem er_ok (W : GW n) (hb : b ∈ n.1) (hbg : b ≠ g) (hr : r ∈ ER n b g) : r.length ≤ 9 ∧ (∀ s ∈ r, s ∈ n.1) ∧ Adj n.2 r := by
  have sp := (er_sp W hb hbg).mp hr
  have hi := sp_in (fun x y h => NB_in W.lk h) hb sp
  obtain ⟨_, _, nd, ch⟩ := id sp
  exact ⟨Nat.le_trans (nd_len nd hi) W.h9, hi, adj_of_ch W.lk ch⟩
def WY (n : WebT) (ts : List Int) (b g : Nm) : List (List Nm) := (ER n b g).filter (way n ts)
theorem wys_eq {f : List Nm → Option Bool} (W : GW n) (hb : b ∈ n.1) (hg : g ∈ n.1) (hbg : b ≠ g) (h : ∀ r, r ∈ ER n b g → f r = some (way n ts r)) : lcO (ER n b g) f (fun r => some r) = some (WY n ts b g) := by
  have := (ext_bound W.lk W.h9 hg hb hbg).1
  have hE : (ER n b g).length ≤ 13700 := this
  rw [lcO_eq (way n ts) (fun r => r) (by omega) h fun _ _ _ => rfl, List.map_id'']
  · rfl
  · exact fun _ => rfl
theorem ways_in_eq (W : GW n) (ht : ts.length = n.2.length) (hb : b ∈ n.1) (hg : g ∈ n.1) (hbg : b ≠ g) : t_ways_in n ts b g = some (WY n ts b g) := by
  have hl : n.2.length ≤ 1000 := Nat.le_trans W.hl (by decide)
  unfold t_ways_in
  rw [paths_eq W hb hg hbg, Option.bind_some, Option.bind_some, wys_eq W hb hg hbg fun r hr => ?_]
  · rfl
  · obtain ⟨h1, _, h3⟩ := er_ok W hb hbg hr
    rw [ties_eq hl (by omega), Option.bind_some, goes_eq ht (by omega) h3]
    rfl
theorem goings_eq (W : GW n) (ht : ts.length = n.2.length) (hb : b ∈ n.1) (hg : g ∈ n.1) (hbg : b ≠ g) : t__law_goings n ts b g = some (WY n ts b g) := by
  have hl : n.2.length ≤ 1000 := Nat.le_trans W.hl (by decide)
  unfold t__law_goings
  rw [lines_eq W hb hg hbg, Option.bind_some, Option.bind_some, wys_eq W hb hg hbg fun r hr => ?_]
  · rfl
  · obtain ⟨h1, _, h3⟩ := er_ok W hb hbg hr
    rw [serves_eq hl (by omega) ht h3]
    rfl
end
end TN

namespace TN
open PySem L2 DL PySem.Spec PyProof.Rows
/-! first arrivals -/
section
variable {κ : Type} [DecidableEq κ] {α : Type}
theorem getA_nil {k : κ} : getA ([] : List (κ × α)) k = none := rfl
theorem getA_cons {k j : κ} {v : α} {d : List (κ × α)} : getA ((j, v) :: d) k = if j = k then some v else getA d k := by
  unfold getA
  rw [List.find?_cons]
  by_cases h : j = k <;> simp [h]
theorem hasA_iff {d : List (κ × α)} {k : κ} : hasA d k = (getA d k).isSome := by
  induction d with
  | nil => rfl
  | cons p d ih =>
    obtain ⟨j, v⟩ := p
    rw [getA_cons]
    unfold hasA at ih ⊢
    rw [List.any_cons]
    by_cases h : j = k
    · simp [h]
    · simp [h, ih]
theorem putA_has {d : List (κ × α)} {k : κ} {v : α} (h : hasA d k = true) : putA d k v = d.map fun p => if p.1 = k then (p.1, v) else p := if_pos h
theorem putA_not {d : List (κ × α)} {k : κ} {v : α} (h : hasA d k = false) : putA d k v = d ++ [(k, v)] := if_neg (by rw [show (d.any fun p => decide (p.1 = k)) = false from h]; decide)
theorem getA_append {d d' : List (κ × α)} {k : κ} : getA (d ++ d') k = (getA d k).or (getA d' k) := by
  unfold getA
  rw [List.find?_append, Option.map_or]
theorem getA_map_put {k j : κ} {v : α} : ∀ {d : List (κ × α)}, getA (d.map fun p => if p.1 = k then (p.1, v) else p) j = if j = k then (if hasA d k then some v else none) else getA d j
  | [] => by by_cases h : j = k <;> simp [h, getA_nil, hasA]
  | (i, w) :: d => by
    have ih := getA_map_put (k := k) (j := j) (v := v) (d := d)
    rw [List.map_cons]
    by_cases hi : i = k
    · subst hi
      rw [if_pos rfl, getA_cons, ih, getA_cons]
      by_cases hj : j = i
      · subst hj
        simp [hasA]
      · rw [if_neg (fun z => hj z.symm), if_neg hj, if_neg hj, if_neg (fun z => hj z.symm)]
    · rw [if_neg hi, getA_cons, ih, getA_cons]
      by_cases hj : j = k
      · subst hj
        rw [if_neg hi, if_pos rfl, if_pos rfl]
        have : hasA ((i, w) :: d) j = hasA d j := by unfold hasA; simp [hi]
        rw [this]
      · rw [if_neg hj, if_neg hj]
theorem getA_put {d : List (κ × α)} {k j : κ} {v : α} : getA (putA d k v) j = if j = k then some v else getA d j := by
  cases h : hasA d k with
  | true =>
    rw [putA_has h, getA_map_put, h]
    rfl
  | false =>
    rw [putA_not h, getA_append, getA_cons, getA_nil]
    rw [hasA_iff] at h
    by_cases hj : j = k
    · subst hj
      rw [if_pos rfl, if_pos rfl, Option.isSome_eq_false_iff.mp h |> Option.isNone_iff_eq_none.mp]
      rfl
    · rw [if_neg hj, if_neg fun z => hj z.symm, Option.or_none]
theorem keys_put {d : List (κ × α)} {k : κ} {v : α} : (putA d k v).map (·.1) = if hasA d k then d.map (·.1) else d.map (·.1) ++ [k] := by
  cases h : hasA d k with
  | true =>
    rw [putA_has h, List.map_map]
    refine List.map_congr_left
                                                                                                              fun p _ => ?_
    simp only [Function.comp]
    split <;> rfl
  | false =>
    rw [putA_not h, List.map_append]
    rfl
theorem mem_keys {d : List (κ × α)} {k : κ} : k ∈ d.map (·.1) ↔ (getA d k).isSome = true := by
  rw [← hasA_iff]
  unfold hasA
  rw [List.any_eq_true, List.mem_map]
  constructor
  · rintro ⟨p, hp, rfl⟩; exact ⟨p, hp, by simp⟩
  · rintro ⟨p, hp, h⟩; exact ⟨p, hp, by simpa using h⟩
end
section
variable {n : WebT} {x y g b p q : Nm} {ls : List (Nm × Nm)} {ts : List Int} {r : List Nm}
/-! times of rows -/
def tms (n : WebT) (ts : List Int) (r : List Nm) : List Int := (stp r).map (tmv n.2 ts)
def arr (n : WebT) (ts : List Int) (r : List Nm) : Int := (tms n ts r).getLast?.getD 0
theorem stp_app : ∀ (l : List Nm) (x : Nm) (m : List Nm), stp (l ++ x :: m) = stp (l ++ [x]) ++ stp (x :: m)
  | [], x, m => rfl
  | [a], x, m => rfl
  | a :: c :: l, x, m => by
    have e := stp_app (c :: l) x m
    show (a, c) :: stp ((c :: l) ++ x :: m) = (a, c) :: (stp ((c :: l) ++ [x]) ++ stp (x :: m))
    rw [e]
theorem tms_app (l : List Nm) (x : Nm) (m : List Nm) : tms n ts (l ++ x :: m) = tms n ts (l ++ [x]) ++ tms n ts (x :: m) := by
  unfold tms
  rw [stp_app, List.map_append]
theorem tms_snoc (l : List Nm) (x y : Nm) : tms n ts (l ++ [x, y]) = tms n ts (l ++ [x]) ++ [tmv n.2 ts (x, y)] := tms_app l x [y]
theorem arr_snoc (l : List Nm) (x y : Nm) : arr n ts (l ++ [x, y]) = tmv n.2 ts (x, y) := by
  unfold arr
  rw [tms_snoc, List.getLast?_concat]
  rfl
theorem up_snoc {l : List Int} {t : Int} : up (l ++ [t]) = true ↔ up l = true ∧ ∀ s ∈ l, s ≤ t := by
  rw [up_iff, up_iff, List.pairwise_append]
  constructor
  · rintro ⟨h1, _, h3⟩
    exact ⟨h1, fun s hs => h3 s hs t List.mem_cons_self⟩
  · rintro ⟨h1, h2⟩
    exact ⟨h1, List.pairwise_singleton _ _, fun s hs u hu => by rw [List.mem_singleton.mp hu]; exact h2 s hs⟩
theorem up_app {l m : List Int} (h : up (l ++ m) = true) : up l = true ∧ ∀ s ∈ l, ∀ t ∈ m, s ≤ t := by
  rw [up_iff, List.pairwise_append] at h
  exact ⟨(up_iff _).mpr h.1, h.2.2⟩
theorem le_last {l : List Int} (h : up l = true) : ∀ s ∈ l, s ≤ l.getLast?.getD 0 := by
  rcases List.eq_nil_or_concat l with rfl | ⟨l, t, rfl⟩
  · exact fun s hs => by cases hs
  · rw [List.concat_eq_append] at h ⊢
    rw [List.getLast?_concat]
    intro s hs
    rcases List.mem_append.mp hs with hs | hs
    · exact (up_snoc.mp h).2 s hs
    · rw [List.mem_singleton.mp hs]; exact Int.le_refl _
theorem wy_iff (W : GW n) (hb : b ∈ n.1) (hbg : b ≠ g) : r ∈ WY n ts b g ↔ SP (NB n.2) b g r ∧ up (tms n ts r) = true := by
  unfold WY
  rw [List.mem_filter, er_sp W hb hbg]
  exact Iff.rfl
theorem ch_pre {nb : Nm → List Nm} {l : List Nm} {x : Nm} {m : List Nm} (h : Ch nb (l ++ x :: m)) : Ch nb (l ++ [x]) := fun l1 a c l2 e => h l1 a c (l2 ++ m) (by
  have : l ++ x :: m = (l ++ [x]) ++ m := by simp
  rw [this, e]
  simp)
theorem ch_snoc {nb : Nm → List Nm} {x y : Nm} : ∀ {l : List Nm}, Ch nb (l ++ [x]) → y ∈ nb x → Ch nb (l ++ [x, y])
  | [], _, h => ch_cons.mpr ⟨h, ch_one⟩
  | [a], h1, h => ch_cons.mpr ⟨(ch_cons.mp h1).1, ch_cons.mpr ⟨h, ch_one⟩⟩
  | a :: c :: l, h1, h => by
    obtain ⟨q1, q2⟩ := ch_cons.mp (show Ch nb (a :: c :: (l ++ [x])) from h1)
    exact ch_cons.mpr ⟨q1, ch_snoc (l := c :: l) q2 h⟩
/-- one tie more -/
theorem wy_more (W : GW n) (hb : b ∈ n.1) (hp : p ≠ b) (hq : q ≠ b) (hr : r ∈ WY n ts b p) (ha : adj n.2 p q) {t : Int} (ht : tmv n.2 ts (p, q) = t) (hle : arr n ts r ≤ t) : ∃ r' ∈ WY n ts b q, arr n ts r' ≤ t := by
  obtain ⟨⟨s, e, nd, ch⟩, hu⟩ := (wy_iff W hb hp.symm).mp hr
  by_cases hin : q ∈ r
  · obtain ⟨l1, l2, e2⟩ := List.append_of_mem hin
    cases l1 with
    | nil => rw [e] at e2; cases e2; exact absurd rfl hq
    | cons c l1 =>
      rw [e2] at nd ch hu
      have ec : c = b := by rw [e] at e2; exact (List.cons.inj e2).1.symm
      subst ec
      have hu' : up (tms n ts ((c :: l1) ++ q :: l2)) = true := hu
      rw [tms_app] at hu'
      obtain ⟨u1, u2⟩ := up_app hu'
      have nd' : ((c :: l1) ++ [q]).Nodup := by
        have : ((c :: l1) ++ [q]).Sublist (c :: l1 ++ q :: l2) := (List.Sublist.refl _).append (by simp)
        exact nd.sublist this
      refine ⟨(c :: l1) ++ [q], (wy_iff W hb hq.symm).mpr ⟨⟨l1, rfl, nd', ch_pre ch⟩, u1⟩, ?_⟩
      rw [e2] at hle
      refine Int.le_trans ?_ hle
      have hlast : ∀ z, z ∈ tms n ts ((c :: l1) ++ [q]) → z ≤ arr n ts (c :: l1 ++ q :: l2) := fun z hz => le_last hu _ (by
        show z ∈ tms n ts ((c :: l1) ++ q :: l2)
        rw [tms_app]
        exact List.mem_append_left _ hz)
      refine hlast _ ?_
      have hne : tms n ts ((c :: l1) ++ [q]) ≠ [] := by
        intro z
        have := congrArg List.length z
        unfold tms at this
        rw [List.length_map, stp_len] at this
        simp at this
      unfold arr
      rw [List.getLast?_eq_some_getLast hne]
      exact List.getLast_mem hne
  · have e' : r = (b :: s) ++ [p] := e
    have nd' : ((b :: s) ++ [p, q]).Nodup := by
      have : (b :: s) ++ [p, q] = r ++ [q] := by rw [e']; simp
      rw [this]
      exact nd_snoc nd hin
    refine ⟨(b :: s) ++ [p, q], (wy_iff W hb hq.symm).mpr ⟨⟨s ++ [p], by simp, nd', ch_snoc (by rw [← e']; exact ch) (mem_NB.mpr ha)⟩, ?_⟩, ?_⟩
    · rw [tms_snoc, up_snoc, ← e']
      refine ⟨hu, fun z hz => ?_⟩
      rw [ht]
      exact Int.le_trans (le_last hu z hz) hle
    · rw [arr_snoc, ht]; exact Int.le_refl _
theorem wy_one (W : GW n) (hb : b ∈ n.1) (hq : q ≠ b) (ha : adj n.2 b q) : [b, q] ∈ WY n ts b q ∧ arr n ts [b, q] = tmv n.2 ts (b, q) := by
  refine ⟨(wy_iff W hb hq.symm).mpr ⟨⟨[], rfl, by simp [hq.symm], ch_cons.mpr ⟨mem_NB.mpr ha, ch_one⟩⟩, rfl⟩, rfl⟩
/-- the last tie of a way -/
theorem wy_last (W : GW n) (hb : b ∈ n.1) (hbg : b ≠ g) (hr : r ∈ WY n ts b g) : ∃ p, adj n.2 p g ∧ arr n ts r = tmv n.2 ts (p, g) ∧ ((p = b ∧ r = [b, g]) ∨ (p ≠ b ∧ ∃ r', r' ∈ WY n ts b p ∧ arr n ts r' ≤ arr n ts r ∧ (stp r').length + 1 = (stp r).length)) ∧ ∃ l, r = l ++ [p, g] := by
  obtain ⟨⟨s, e, nd, ch⟩, hu⟩ := (wy_iff W hb hbg).mp hr
  rcases List.eq_nil_or_concat s with rfl | ⟨s, p, rfl⟩
  · subst e
    exact ⟨b, mem_NB.mp (ch_cons.mp ch).1, rfl, .inl ⟨rfl, rfl⟩, [], rfl⟩
  · rw [List.concat_eq_append] at e
    have e' : r = (b :: s) ++ [p, g] := by rw [e]; simp
    have ha : adj n.2 p g := by
      refine mem_NB.mp (ch (b :: s) p g [] e')
    have hpb : p ≠ b := by
      intro z
      subst z
      rw [e'] at nd
      have := (List.nodup_cons.mp (show (p :: (s ++ [p, g])).Nodup from nd)).1
      exact this (by simp)
    refine ⟨p, ha, by rw [e', arr_snoc], .inr ⟨hpb, (b :: s) ++ [p], ?_, ?_, ?_⟩, b :: s, e'⟩
    · rw [e'] at nd ch hu
      rw [tms_snoc, up_snoc] at hu
      have nd' : ((b :: s) ++ [p]).Nodup := nd.sublist ((List.Sublist.refl _).append (by simp))
      exact (wy_iff W hb hpb.symm).mpr ⟨⟨s, rfl, nd', ch_pre (m := [g]) ch⟩, hu.1⟩
    · rw [e', arr_snoc]
      rw [e', tms_snoc, up_snoc] at hu
      unfold arr
      cases hl : (tms n ts ((b :: s) ++ [p])).getLast? with
      | none =>
        have := List.getLast?_eq_none_iff.mp hl
        have h2 := congrArg List.length this
        unfold tms at h2
        rw [List.length_map, stp_len] at h2
        simp at h2
      | some z => exact hu.2 z (List.mem_of_getLast? hl)
    · rw [stp_len, stp_len, e']
      simp

/-! one step of the search -/
abbrev Dt : Type := List (Nm × Int)
structure Sd (n : WebT) (ts : List Int) (b : Nm) (s : Dt) : Prop where
  nd : (s.map (·.1)).Nodup
  ks : ∀ k ∈ s.map (·.1), k ∈ n.1
  st : getA s b = some 0
  sound : ∀ q v, getA s q = some v → q ≠ b → ∃ r ∈ WY n ts b q, arr n ts r ≤ v
def Le (s s' : Dt) : Prop := ∀ q v, getA s q = some v → ∃ v', v' ≤ v ∧ getA s' q = some v'
theorem Le.refl (s : Dt) : Le s s := fun q v h => ⟨v, Int.le_refl _, h⟩
theorem Le.trans {s s' s'' : Dt} (h : Le s s') (h2 : Le s' s'') : Le s s'' := fun q v hq => by
  obtain ⟨v1, l1, e1⟩ := h q v hq
  obtain ⟨v2, l2, e2⟩ := h2 q v1 e1
  exact ⟨v2, Int.le_trans l2 l1, e2⟩
theorem Sd.len {s : Dt} (h : Sd n ts b s) : s.length ≤ n.1.length := by
  have := nd_len h.nd h.ks
  rwa [List.length_map] at this
theorem relax (W : GW n) (hb : b ∈ n.1) {s : Dt} (h : Sd n ts b s) {k : Nat} {t : Int} (hk : ts[k]? = some t) (h0 : 0 ≤ t) (ha : adj n.2 p q) (ht : tmv n.2 ts (p, q) = t) :
    ∃ s', tb1_arrivals_at ts (k : Int) s (p, q) = some s' ∧ Sd n ts b s' ∧ Le s s' ∧ ∀ x, getA s p = some x → x ≤ t → ∃ v, v ≤ t ∧ getA s' q = some v := by
  have hl := h.len
  have h9 := W.h9
  unfold tb1_arrivals_at
  rw [atI_nat, hk]
  show ∃ s', (Option.bind (if hasA s p = true then (getA s p).bind fun v205 => (some t).bind fun v206 => _ else some false) _) = some s' ∧ _
  cases hx : getA s p with
  | none =>
    have hh : hasA s p = false := by rw [hasA_iff, hx]; rfl
    rw [hh]
    exact ⟨s, rfl, h, Le.refl s, fun x z => by cases z⟩
  | some x =>
    have hh : hasA s p = true := by rw [hasA_iff, hx]; rfl
    rw [hh, if_pos rfl, Option.bind_some, Option.bind_some]
    by_cases hxt : x ≤ t
    · rw [if_pos (decide_eq_true hxt), Option.bind_some, Option.bind_some, Option.bind_some, Option.bind_some]
      by_cases hlt : t < (getA s q).getD (t + 1)
      · rw [if_pos (decide_eq_true hlt), Option.bind_some, dputT_ok (by omega), Option.bind_some]
        have hqb : q ≠ b := by
          intro z
          rw [z, h.st] at hlt
          have : t < 0 := hlt
          omega
        have hqw : q ∈ n.1 := by
          rcases ha with ha | ha
          · exact (W.lk.on _ ha).2.1
          · exact (W.lk.on _ ha).1
        refine ⟨putA s q t, rfl, ⟨?_, ?_, ?_, fun j v hj hjb => ?_⟩, fun j v hj => ?_, fun x' _ _ => ⟨t, Int.le_refl _, by rw [getA_put, if_pos rfl]⟩⟩
        · rw [keys_put]
          split
          · exact h.nd
          · rename_i hn
            refine nd_snoc h.nd fun z => hn ?_
            rw [hasA_iff]
            exact mem_keys.mp z
        · rw [keys_put]
          split
          · exact h.ks
          · exact in_snoc h.ks hqw
        · rw [getA_put, if_neg hqb.symm]
          exact h.st
        · rw [getA_put] at hj
          by_cases e : j = q
          · subst e
            rw [if_pos rfl] at hj
            cases hj
            by_cases hpb : p = b
            · subst hpb
              obtain ⟨w1, w2⟩ := wy_one (ts := ts) W hb hqb ha
              exact ⟨_, w1, by rw [w2, ht]; exact Int.le_refl _⟩
            · obtain ⟨r, hr, hle⟩ := h.sound p x hx hpb
              exact wy_more W hb hpb hqb hr ha ht (Int.le_trans hle hxt)
          · rw [if_neg e] at hj
            exact h.sound j v hj hjb
        · rw [getA_put]
          by_cases e : j = q
          · subst e
            rw [if_pos rfl]
            rw [hj] at hlt
            exact ⟨t, Int.le_of_lt hlt, rfl⟩
          · rw [if_neg e]
            exact ⟨v, Int.le_refl _, hj⟩
      · rw [if_neg (by rw [decide_eq_false hlt]; decide)]
        refine ⟨s, rfl, h, Le.refl s, fun x' _ _ => ?_⟩
        cases hq : getA s q with
        | none =>
          rw [hq] at hlt
          have : ¬ t < t + 1 := hlt
          omega
        | some v =>
          rw [hq] at hlt
          have : ¬ t < v := hlt
          exact ⟨v, by omega, rfl⟩
    · rw [if_neg (by rw [decide_eq_false hxt]; decide)]
      exact ⟨s, rfl, h, Le.refl s, fun x' z hle => by cases z; exact absurd hle hxt⟩
theorem idx_at {ls : List (Nm × Nm)} {ws : List Nm} (lk : Lk ws ls) {k : Nat} (hk : k < ls.length) : idx ls ls[k].1 ls[k].2 = some k ∧ idx ls ls[k].2 ls[k].1 = some k := by
  have un : ∀ j (hj : j < ls.length), (ls[j] = ls[k] ∨ ls[j] = ls[k].swap) → j = k := fun j hj h => by
    rcases Nat.lt_trichotomy j k with c | c | c
    · obtain ⟨d1, d2⟩ := (List.pairwise_iff_getElem.mp lk.dif) j k hj hk c
      rcases h with h | h
      · exact absurd h.symm d1
      · exact absurd (by rw [h, Prod.swap_swap]) d2
    · exact c
    · obtain ⟨d1, d2⟩ := (List.pairwise_iff_getElem.mp lk.dif) k j hk hj c
      rcases h with h | h
      · exact absurd h d1
      · exact absurd h d2
  constructor
  · obtain ⟨j, h1, h2, h3⟩ := idx_adj (x := ls[k].1) (y := ls[k].2) (.inl (List.getElem_mem hk))
    rw [h1, List.getElem?_eq_getElem h2] at *
    congr 1
    refine un j h2 ?_
    rcases h3 with h3 | h3
    · exact .inl (Option.some.inj h3)
    · exact .inr (Option.some.inj h3)
  · obtain ⟨j, h1, h2, h3⟩ := idx_adj (x := ls[k].2) (y := ls[k].1) (.inr (List.getElem_mem hk))
    rw [h1, List.getElem?_eq_getElem h2] at *
    congr 1
    refine un j h2 ?_
    rcases h3 with h3 | h3
    · exact .inr (Option.some.inj h3)
    · exact .inl (Option.some.inj h3)
theorem tmv_at (W : GW n) (ht : ts.length = n.2.length) {k : Nat} (hk : k < n.2.length) : tmv n.2 ts (n.2[k].1, n.2[k].2) = ts[k]'(by omega) ∧ tmv n.2 ts (n.2[k].2, n.2[k].1) = ts[k]'(by omega) := by
  obtain ⟨h1, h2⟩ := idx_at W.lk hk
  unfold tmv
  rw [h1, h2]
  simp [List.getElem?_eq_getElem (show k < ts.length by omega)]
/-- all ties once -/
theorem round (W : GW n) (hb : b ∈ n.1) (ht : ts.length = n.2.length) (h0 : ∀ t ∈ ts, 0 ≤ t) {s : Dt} (h : Sd n ts b s) (a : Nm) :
    ∃ s', tb3_arrivals_at n ts s a = some s' ∧ Sd n ts b s' ∧ Le s s' ∧ ∀ p q x, adj n.2 p q → getA s p = some x → x ≤ tmv n.2 ts (p, q) → ∃ v, v ≤ tmv n.2 ts (p, q) ∧ getA s' q = some v := by
  have hl := W.hl
  unfold tb3_arrivals_at
  rw [rngO_nat (by omega), Option.bind_some]
  obtain ⟨s', q1, q3, hk, hrest, d, l, c⟩ := foldT_inv (tb := tb2_arrivals_at n ts) (fun rest s' => ∃ k, k ≤ ts.length ∧ rest = ((List.range ts.length).drop k).map ofN ∧ Sd n ts b s' ∧ Le s s' ∧ ∀ j (hj : j < n.2.length), j < k → ∀ p q, (p, q) = n.2[j] ∨ (q, p) = n.2[j] → ∀ x, getA s p = some x → x ≤ tmv n.2 ts (p, q) → ∃ v, v ≤ tmv n.2 ts (p, q) ∧ getA s' q = some v) (l := (List.range ts.length).map ofN) (s := s)
    ⟨0, Nat.zero_le _, rfl, h, Le.refl s, fun j hj hj0 => by omega⟩ (fun a rest s1 ⟨k, hk, hrest, d1, l1, c1⟩ => by
      have hkl : k < ts.length := by
        rcases Nat.lt_or_ge k ts.length with c | c
        · exact c
        · rw [List.drop_eq_nil_of_le (by simpa using c)] at hrest
          cases hrest
      rw [List.drop_eq_getElem_cons (by simpa using hkl), List.map_cons] at hrest
      obtain ⟨ea, er⟩ := List.cons.inj hrest
      have ea : a = (k : Int) := by rw [ea]; simp [ofN]
      subst ea
      have hk2 : k < n.2.length := by omega
      obtain ⟨t1, t2⟩ := tmv_at W ht hk2
      have hkt : ts[k]? = some (ts[k]'hkl) := List.getElem?_eq_getElem hkl
      have ht0 := h0 _ (List.getElem_mem hkl)
      have ad : adj n.2 n.2[k].1 n.2[k].2 := .inl (List.getElem_mem hk2)
      obtain ⟨s2, r1, d2, l2, c2⟩ := relax W hb d1 hkt ht0 ad t1
      obtain ⟨s3, r2, d3, l3, c3⟩ := relax W hb d2 hkt ht0 (adj_symm ad) t2
      refine ⟨s3, ?_, k + 1, hkl, er, d3, l1.trans (l2.trans l3), fun j hj hj2 p q hpq x hx hle => ?_⟩
      · unfold tb2_arrivals_at t_Web_ties
        have e1 : atI n.2 (k : Int) = some n.2[k] := by rw [atI_nat]; exact List.getElem?_eq_getElem hk2
        simp only [Option.bind_some, e1]
        show (Option.bind (foldT (tb1_arrivals_at ts (k : Int)) [n.2[k], (n.2[k].2, n.2[k].1)] s1) _) = _
        rw [foldT, show tb1_arrivals_at ts (k : Int) s1 n.2[k] = some s2 from r1, Option.bind_some, foldT, r2, Option.bind_some, foldT]
        rfl
      · rcases Nat.lt_or_ge j k with c | c
        · obtain ⟨v, v1, v2⟩ := c1 j hj c p q hpq x hx hle
          obtain ⟨v', v3, v4⟩ := (l2.trans l3) q v v2
          exact ⟨v', Int.le_trans v3 v1, v4⟩
        · have : j = k := by omega
          subst this
          obtain ⟨x1, x2, x3⟩ := l1 p x hx
          rcases hpq with e | e
          · have e1 : p = n.2[j].1 := congrArg Prod.fst e
            have e2 : q = n.2[j].2 := congrArg Prod.snd e
            subst e1 e2
            rw [t1] at hle ⊢
            obtain ⟨v, v1, v2⟩ := c2 x1 x3 (Int.le_trans x2 hle)
            obtain ⟨v', v3, v4⟩ := l3 _ v v2
            exact ⟨v', Int.le_trans v3 v1, v4⟩
          · have e1 : q = n.2[j].1 := congrArg Prod.fst e
            have e2 : p = n.2[j].2 := congrArg Prod.snd e
            subst e1 e2
            rw [t2] at hle ⊢
            obtain ⟨y1, y2, y3⟩ := l2 _ x1 x3
            exact c3 y1 y3 (Int.le_trans y2 (Int.le_trans x2 hle)))
  have hkl : ts.length ≤ q3 := by
    have := congrArg List.length hrest
    simp at this
    omega
  refine ⟨s', by rw [q1]; rfl, d, l, fun p q x ha hx hle => ?_⟩
  rcases ha with ha | ha
  · obtain ⟨j, hj, e⟩ := List.getElem_of_mem ha
    exact c j hj (by omega) p q (.inl e.symm) x hx hle
  · obtain ⟨j, hj, e⟩ := List.getElem_of_mem ha
    exact c j hj (by omega) p q (.inr e.symm) x hx hle
/-- what arrivals_at tells -/
structure Arr (n : WebT) (ts : List Int) (b : Nm) (d : Dt) : Prop where
  nd : (d.map (·.1)).Nodup
  ks : ∀ k ∈ d.map (·.1), k ∈ n.1 ∧ k ≠ b
  no : ∀ g, g ∈ n.1 → g ≠ b → WY n ts b g = [] → getA d g = none
  yes : ∀ g, g ∈ n.1 → g ≠ b → WY n ts b g ≠ [] → ∃ v, getA d g = some v ∧ (∃ r ∈ WY n ts b g, arr n ts r = v) ∧ ∀ r ∈ WY n ts b g, v ≤ arr n ts r
theorem arrivals_eq (W : GW n) (hb : b ∈ n.1) (ht : ts.length = n.2.length) (h0 : ∀ t ∈ ts, 0 ≤ t) : ∃ d, t_arrivals_at n ts b = some d ∧ Arr n ts b d := by
  have hp : ∀ {g r}, g ≠ b → r ∈ WY n ts b g → (stp r).length ≤ n.1.length := fun {g r} hg hr => by
    obtain ⟨h1, h2, _⟩ := er_ok W hb hg.symm (List.mem_filter.mp hr).1
    have nd := ((er_sp W hb hg.symm).mp (List.mem_filter.mp hr).1)
    obtain ⟨_, _, nd, _⟩ := nd
    have := nd_len nd h2
    rw [stp_len]
    omega
  obtain ⟨s, q1, q2, q3, q4⟩ := foldT_inv (tb := tb3_arrivals_at n ts) (fun rest s => Sd n ts b s ∧ rest.length ≤ n.1.length ∧ ∀ g, g ≠ b → ∀ r ∈ WY n ts b g, (stp r).length + rest.length ≤ n.1.length → ∃ v, v ≤ arr n ts r ∧ getA s g = some v) (l := n.1) (s := [(b, 0)])
    ⟨⟨by simp, fun k hk => by simp at hk; subst hk; exact hb, by rw [getA_cons, if_pos rfl], fun q v h hq => by rw [getA_cons, if_neg hq.symm] at h; cases h⟩, Nat.le_refl _, fun g hg r hr hlen => by
      exfalso
      have : (stp r).length = 0 := by omega
      obtain ⟨_, _, _, _, l, e⟩ := wy_last W hb hg.symm hr
      rw [stp_len, e] at this
      simp at this⟩ (fun a rest s ⟨d, hlr, c⟩ => by
      obtain ⟨s', r1, d', l', c'⟩ := round W hb ht h0 d a
      refine ⟨s', r1, d', by simp at hlr; omega, fun g hg r hr hlen => ?_⟩
      rw [List.length_cons] at hlr
      obtain ⟨p, ha, et, hc, _⟩ := wy_last W hb hg.symm hr
      rw [et]
      rcases hc with ⟨rfl, rfl⟩ | ⟨hpb, r', hr', hle, hl'⟩
      · have h0' : 0 ≤ tmv n.2 ts (p, g) := by
          obtain ⟨k, k1, k2, _⟩ := idx_adj ha
          unfold tmv
          rw [k1, Option.bind_some, List.getElem?_eq_getElem (by omega)]
          exact h0 _ (List.getElem_mem _)
        exact c' p g 0 ha d.st h0'
      · obtain ⟨v, v1, v2⟩ := c p hpb r' hr' (by rw [List.length_cons]; omega)
        exact c' p g v ha v2 (by rw [← et]; exact Int.le_trans v1 hle))
  have full : ∀ g, g ≠ b → ∀ r ∈ WY n ts b g, ∃ v, v ≤ arr n ts r ∧ getA s g = some v := fun g hg r hr => q4 g hg r hr (by simpa using hp hg hr)
  have hk : ∀ a ∈ s.map (·.1), ∃ v, getA s a = some v := fun a ha => Option.isSome_iff_exists.mp (mem_keys.mp ha)
  have dc : dcO (s.map (·.1)) (fun a => some (!eqv a b)) (fun a => some a) (fun a => getA s a) = some (((s.map (·.1)).filter fun a => !eqv a b).map fun a => (a, (getA s a).getD 0)) := by
    unfold dcO
    rw [if_pos (by rw [sizeLine_eq, List.length_map]; have := q2.len; have := W.h9; omega), dcGo_eq (p' := fun a => !eqv a b) (k' := fun a => a) (h' := fun a => (getA s a).getD 0) (fun _ _ => rfl) (fun a ha _ => ⟨rfl, by
      obtain ⟨v, hv⟩ := hk a ha
      rw [hv]
      rfl⟩) ?_ fun _ _ _ q hq => by cases hq]
    · rfl
    · rw [List.map_id'']
      · exact q2.nd.sublist List.filter_sublist
      · exact fun _ => rfl
  have gd : ∀ g, g ≠ b → getA (((s.map (·.1)).filter fun a => !eqv a b).map fun a => (a, (getA s a).getD 0)) g = getA s g := fun g hg => by
    cases hs : getA s g with
    | some v =>
      rw [getA_map (f := fun a => (getA s a).getD 0) (List.mem_filter.mpr ⟨mem_keys.mpr (by rw [hs]; rfl), by rw [eqv_no.mpr hg]; rfl⟩), hs]
      rfl
    | none =>
      cases hq : getA (((s.map (·.1)).filter fun a => !eqv a b).map fun a => (a, (getA s a).getD 0)) g with
      | none => rfl
      | some v =>
        have := mem_keys.mpr (show (getA (((s.map (·.1)).filter fun a => !eqv a b).map fun a => (a, (getA s a).getD 0)) g).isSome = true by rw [hq]; rfl)
        rw [List.map_map, List.map_id''] at this
        · have := mem_keys.mp (List.mem_filter.mp this).1
          rw [hs] at this
          cases this
        · exact fun _ => rfl
  refine ⟨((s.map (·.1)).filter fun a => !eqv a b).map fun a => (a, (getA s a).getD 0), ?_, ⟨?_, ?_, fun g hgw hg hw => ?_, fun g hgw hg hw => ?_⟩⟩
  · unfold t_arrivals_at t_Web_places
    rw [Option.bind_some, Option.bind_some, Option.bind_some, q1, Option.bind_some, dc]
    rfl
  · rw [List.map_map, List.map_id'']
    · exact q2.nd.sublist List.filter_sublist
    · exact fun _ => rfl
  · intro k hk
    rw [List.map_map, List.map_id''] at hk
    · obtain ⟨h1, h2⟩ := List.mem_filter.mp hk
      refine ⟨q2.ks k h1, fun z => ?_⟩
      rw [eqv_iff.mpr z] at h2
      cases h2
    · exact fun _ => rfl
  · rw [gd g hg]
    cases hs : getA s g with
    | none => rfl
    | some v =>
      obtain ⟨r, hr, _⟩ := q2.sound g v hs hg
      rw [hw] at hr
      cases hr
  · rw [gd g hg]
    obtain ⟨r0, hr0⟩ := List.exists_mem_of_ne_nil _ hw
    obtain ⟨v, _, hv⟩ := full g hg r0 hr0
    have low : ∀ r ∈ WY n ts b g, v ≤ arr n ts r := fun r hr => by
      obtain ⟨v', h1, h2⟩ := full g hg r hr
      rw [hv] at h2
      cases h2
      exact h1
    obtain ⟨r, hr, hle⟩ := q2.sound g v hv hg
    exact ⟨v, hv, ⟨r, hr, Int.le_antisymm hle (low r hr)⟩, low⟩
end
end TN

namespace TN
open PySem L2 DL PySem.Spec PyProof.Rows
/-! first ways, fewest ties -/
section
variable {n : WebT} {x y g b p q : Nm} {ts : List Int} {r : List Nm}
/-- a good clock's times -/
structure GT (n : WebT) (ts : List Int) : Prop where
  len : ts.length = n.2.length
  ok : ∀ t ∈ ts, 0 ≤ t ∧ t ≤ 1000000000000
theorem web_in (W : GW n) (hx : x ∈ n.1) : t_Web_in n x = some true := by
  unfold t_Web_in
  rw [memv_iff.mpr hx, memv_iff.mpr (W.pl x hx)]
  rfl
theorem check_place_eq (W : GW n) (hx : x ∈ n.1) : t_check_place n x = some () := by
  unfold t_check_place
  rw [web_in W hx]
  rfl
theorem check_goal_eq (W : GW n) (hb : b ∈ n.1) (hg : g ∈ n.1) (hbg : b ≠ g) : t_check_goal n b g = some () := by
  unfold t_check_goal
  rw [check_place_eq W hb, Option.bind_some, check_place_eq W hg, Option.bind_some, eqv_no.mpr hbg]
  rfl
theorem ways_eq (W : GW n) (T : GT n ts) (hb : b ∈ n.1) (hg : g ∈ n.1) (hbg : b ≠ g) : t_ways (n, ts) b g = some (WY n ts b g) := by
  unfold t_ways t_check_clock t_Clock_web t_Clock_times
  simp only [Bool.not_true, Bool.false_eq_true, if_false, Option.bind_some, check_goal_eq W hb hg hbg, ways_in_eq W T.len hb hg hbg]
/-- the least number of ties -/
def few (n : WebT) (ts : List Int) (b g : Nm) : Option Int := if WY n ts b g = [] then none else minI ((WY n ts b g).map fun a => (a.length : Int) - 1)
theorem wy_len (W : GW n) (hb : b ∈ n.1) (hg : g ∈ n.1) (hbg : b ≠ g) : (WY n ts b g).length ≤ 13700 := Nat.le_trans (List.length_filter_le _ _) (ext_bound W.lk W.h9 hg hb hbg).1
theorem minI_some {l : List Int} (h : l ≠ []) : ∃ m, minI l = some m := by
  cases l with
  | nil => exact absurd rfl h
  | cons a l => exact ⟨_, rfl⟩
theorem few_eq (W : GW n) (T : GT n ts) (hb : b ∈ n.1) (hg : g ∈ n.1) (hbg : b ≠ g) : t_fewest_ties (n, ts) b g = some (few n ts b g) := by
  have hl := wy_len (ts := ts) W hb hg hbg
  unfold t_fewest_ties few
  rw [ways_eq W T hb hg hbg]
  simp only [Option.bind_some, lcP_eq (Nat.le_trans hl (by decide : 13700 ≤ 16777216)), List.filter_eq_self.mpr fun _ _ => rfl]
  by_cases h : WY n ts b g = []
  · rw [h]
    rfl
  · have e : eqv ((WY n ts b g).map fun a => (a.length : Int) - 1) [] = false := eqv_no.mpr (by simpa using h)
    rw [e, if_neg h]
    obtain ⟨m, hm⟩ := minI_some (l := (WY n ts b g).map fun a => (a.length : Int) - 1) (by simpa using h)
    rw [hm]
    rfl
/-- the least arrival -/
theorem first_eq (W : GW n) (T : GT n ts) (hb : b ∈ n.1) (hg : g ∈ n.1) (hbg : b ≠ g) : (WY n ts b g = [] ∧ t_first_way (n, ts) b g = some none) ∨ ∃ r ∈ WY n ts b g, t_first_way (n, ts) b g = some (some r) ∧ ∀ r' ∈ WY n ts b g, arr n ts r ≤ arr n ts r' := by
  obtain ⟨d, hd, A⟩ := arrivals_eq W hb T.len fun t h => (T.ok t h).1
  have e0 : t_first_way (n, ts) b g = t_earliest_way n ts b g := by
    unfold t_first_way t_check_clock t_Clock_web t_Clock_times
    simp only [Bool.not_true, Bool.false_eq_true, if_false, Option.bind_some, check_goal_eq W hb hg hbg]
    cases t_earliest_way n ts b g <;> rfl
  rw [e0]
  unfold t_earliest_way
  rw [hd, Option.bind_some, hasA_iff]
  by_cases hw : WY n ts b g = []
  · rw [A.no g hg hbg.symm hw]
    exact .inl ⟨hw, rfl⟩
  · obtain ⟨v, hv, ⟨r0, hr0, er0⟩, low⟩ := A.yes g hg hbg.symm hw
    refine .inr ?_
    rw [hv, ways_in_eq W T.len hb hg hbg]
    have hs : (!(some v).isSome) = false := rfl
    rw [hs, if_neg (by decide), Option.bind_some, Option.bind_some, forT_find (c := fun r => decide (arr n ts r = v)) (g := fun r => some r) (s := ()) fun r hr => ?_]
    · have : ((WY n ts b g).find? fun r => decide (arr n ts r = v)).isSome = true := by
        rw [List.find?_isSome]
        exact ⟨r0, hr0, decide_eq_true er0⟩
      obtain ⟨r, hf⟩ := Option.isSome_iff_exists.mp this
      have h1 := List.mem_of_find?_eq_some hf
      have h2 := of_decide_eq_true (List.find?_some (p := fun r => decide (arr n ts r = v)) hf)
      refine ⟨r, h1, ?_, fun r' hr' => by rw [h2]; exact low r' hr'⟩
      rw [hf]
      rfl
    · obtain ⟨p, ha, et, _, l, e⟩ := wy_last W hb hbg hr
      obtain ⟨k, k1, k2, _⟩ := idx_adj ha
      unfold tb1_earliest_way t_Web_ties
      have a1 : atI r (-(2 : Int)) = some p := by rw [e]; exact atI_last2
      have a2 : atI r (-(1 : Int)) = some g := by
        rw [e, show l ++ [p, g] = (l ++ [p]) ++ [g] by simp]
        exact atI_last
      have a3 : atI ts (ofN k) = some (arr n ts r) := by
        show atI ts (k : Int) = _
        rw [atI_nat, et]
        unfold tmv
        rw [k1, Option.bind_some, List.getElem?_eq_getElem (by have := T.len; omega)]
        rfl
      simp only [Option.bind_some, a1, a2, index_eq (Nat.le_trans W.hl (by decide) : n.2.length ≤ 1000), k1, Option.map_some, a3, hv]
      unfold eqv
      split <;> rfl
/-! reprs -/
theorem reprT_ok {α : Type} {enc : α → D} {a : α} {k m : Nat} (hs : isSeqD (enc a) = true) (h : Sh k (enc a)) (hk : k ≤ 60) (t : Txt m (enc a)) (hm : m ≤ 16777216) : ∃ s, reprT enc a = some s := by
  have e := repr_of hs h hk t hm
  have e2 : repr2D [enc a] = some (.str (enc a).py.shown) := by
    rw [← e]
    cases hq : enc a <;> first | rfl | (rw [hq] at hs; cases hs)
  unfold reprT
  rw [e2]
  exact ⟨_, dif_pos t.ok⟩
theorem nm_txt (W : GW n) (hx : x ∈ n.1) : Txt 10 (eS x) := by
  have h1 : ∀ w ∈ poolN, (eS w).py.showable = true := by decide +kernel
  have h2 : ∀ w ∈ poolN, (eS w).py.shown.length ≤ 10 := by decide +kernel
  have h3 : ∀ w ∈ poolN, PyData.strOk (eS w).py.shown = true := by decide +kernel
  exact ⟨h1 x (W.pl x hx), h2 x (W.pl x hx), h3 x (W.pl x hx)⟩
theorem row_txt (W : GW n) (h9 : r.length ≤ 9) (h : ∀ s ∈ r, s ∈ n.1) : Txt 111 (eT eS r) := by
  refine (Txt.tup (n := 10) fun d hd => ?_).mono (by rw [List.length_map]; omega)
  obtain ⟨s, hs, rfl⟩ := List.mem_map.mp hd
  exact nm_txt W (h s hs)
theorem rows_txt {E : List (List Nm)} (W : GW n) (h : ∀ r ∈ E, r.length ≤ 9 ∧ ∀ s ∈ r, s ∈ n.1) (hE : E.length ≤ 13700) : Txt 1548103 (eT (eT eS) E) := by
  refine (Txt.tup (n := 111) fun d hd => ?_).mono (by rw [List.length_map]; omega)
  obtain ⟨r, hr, rfl⟩ := List.mem_map.mp hd
  exact row_txt W (h r hr).1 (h r hr).2
theorem wy_ok (W : GW n) (hb : b ∈ n.1) (hbg : b ≠ g) (hr : r ∈ WY n ts b g) : r.length ≤ 9 ∧ (∀ s ∈ r, s ∈ n.1) ∧ Adj n.2 r := er_ok W hb hbg (List.mem_filter.mp hr).1
theorem two_txt {d : D} {m : Nat} (h : Txt m d) : Txt (2 * m + 7) (.lst [d, d]) := (Txt.lst (n := m) fun x hx => by
  have : x = d := by
    rcases List.mem_cons.mp
                                                                                                              hx with h | h
    · exact h
    · exact List.mem_singleton.mp h
  rw [this]
  exact h).mono (by simp only [List.length_cons, List.length_nil]; omega)
theorem small_txt : ∀ k : Nat, k < 32 → Txt 8 (.int (k : Int)) := by
  have h1 : ∀ k : Nat, k < 32 → (D.int (k : Int)).py.showable = true := by decide +kernel
  have h2 : ∀ k : Nat, k < 32 → (D.int (k : Int)).py.shown.length ≤ 8 := by decide +kernel
  have h3 : ∀ k : Nat, k < 32 → PyData.strOk (D.int (k : Int)).py.shown = true := by decide +kernel
  exact fun k hk => ⟨h1 k hk, h2 k hk, h3 k hk⟩
theorem non_txt : Txt 8 .non := ⟨by decide +kernel, by decide +kernel, by decide +kernel⟩
theorem repr_wys (W : GW n) (hb : b ∈ n.1) (hg : g ∈ n.1) (hbg : b ≠ g) : ∃ s, reprT (eL (eT (eT eS))) [WY n ts b g, WY n ts b g] = some s :=
  reprT_ok rfl ((eq_L (eq_T (eq_T eq_S))).sh _) (by decide) (two_txt (rows_txt W (fun r hr => ⟨(wy_ok W hb hbg hr).1, (wy_ok W hb hbg hr).2.1⟩) (wy_len W hb hg hbg))) (by decide)
theorem few_val (W : GW n) (hb : b ∈ n.1) (hbg : b ≠ g) : few n ts b g = none ∨ ∃ k : Nat, k < 32 ∧ few n ts b g = some (k : Int) := by
  unfold few
  split
  · exact .inl rfl
  · rename_i h
    obtain ⟨m, hm⟩ := minI_some (l := (WY n ts b g).map fun a => (a.length : Int) - 1) (by simpa using h)
    obtain ⟨h1, _⟩ := minI_ok hm
    obtain ⟨r, hr, e⟩ := List.mem_map.mp h1
    obtain ⟨h9, _, _⟩ := wy_ok W hb hbg hr
    obtain ⟨p, _, _, _, l, er⟩ := wy_last W hb hbg hr
    have : 2 ≤ r.length := by rw [er]; simp
    exact .inr ⟨r.length - 1, by omega, by rw [hm, ← e]; congr 1; omega⟩
theorem repr_few (W : GW n) (hb : b ∈ n.1) (hbg : b ≠ g) : ∃ s, reprT (eL (eO eI)) [few n ts b g, few n ts b g] = some s := by
  refine reprT_ok rfl ((eq_L (eq_O eq_I nn_I)).sh _) (by decide) (two_txt (m := 8) ?_) (by decide)
  rcases few_val (ts := ts) W hb hbg with e | ⟨k, hk, e⟩
  · rw [e]; exact non_txt
  · rw [e]; exact small_txt k hk
theorem repr_none {α : Type} {enc : α → D} : ∃ s, reprT (eO enc) none = some s := ⟨⟨"None", by decide +kernel⟩, by
  unfold reprT
  show (if h : PyData.strOk ("None" : Str) = true then _ else _) = _
  rw [dif_pos (by decide +kernel)]⟩
theorem repr_told (W : GW n) (hb : b ∈ n.1) (hbg : b ≠ g) (hr : r ∈ WY n ts b g) : ∃ s, reprT (eO (eT eS)) (some r) = some s :=
  reprT_ok rfl ((eq_O (eq_T eq_S) nn_T).sh _) (by decide) (row_txt W (wy_ok W hb hbg hr).1 (wy_ok W hb hbg hr).2.1) (by decide)
theorem eqv_self {α : Type} [DecidableEq α] {a : α} : eqv a a = true := eqv_iff.mpr rfl
end
end TN

namespace TN
open PySem L2 DL PySem.Spec PyProof.Rows
/-! texts of times -/
theorem int_txt {i : Int} (h0 : 0 ≤ i) (h1 : i ≤ 1000000000000) : Txt 13 (.int i) := by
  obtain ⟨m, rfl⟩ : ∃ m : Nat, i = m := ⟨i.toNat, by omega⟩
  have hm : m ≤ 1000000000000 := by omega
  have e : (D.int (m : Int)).py.shown = ⟨((Nat.toDigits 10 m).map Char.toNat).toArray⟩ := by
    rw [← text_ofNat m]
    simp only [D.py, PyData.shown]
    rfl
  refine ⟨?_, ?_, ?_⟩
  · show decide ((m : Int).natAbs.log2 < 1920) = true
    rw [decide_eq_true_eq, Int.natAbs_natCast]
    by_cases h : m = 0
    · subst h; decide
    · rw [Nat.log2_lt h]
      exact Nat.lt_of_le_of_lt hm (Nat.lt_of_lt_of_le (by decide : 1000000000000 < 2 ^ 64) (Nat.pow_le_pow_right (by decide) (by decide)))
  · rw [e]
    show (((Nat.toDigits 10 m).map Char.toNat).toArray).size ≤ 13
    rw [List.size_toArray,
                                                                                                              List.length_map]
    exact digits10_le (by decide) (by omega)
  · rw [e]
    show (((Nat.toDigits 10 m).map Char.toNat).toArray).all (· < 0x110000) = true
    rw [List.all_toArray, List.all_eq_true]
    intro x hx
    obtain ⟨c, _, rfl⟩ := List.mem_map.mp hx
    rw [decide_eq_true_eq]
    have hv : c.val.toNat.isValidChar := c.valid
    show c.val.toNat < 0x110000
    rcases hv with h | ⟨_, h⟩
    · omega
    · exact h
/-! walks that gather -/
section
variable {α β ρ : Type}
theorem fold_push {tb : List β → α → Option (List β)} {c : α → Bool} {h : α → β} : ∀ {l : List α} {s : List β}, s.length + l.length ≤ 1000000 → (∀ s : List β, s.length < 1000000 → ∀ a ∈ l, tb s a = some (if c a then s ++ [h a] else s)) → foldT tb l s = some (s ++ (l.filter c).map h)
  | [], s, _, _ => by simp [foldT]
  | a :: l, s, hl, hh => by
    have hl' : s.length + (l.length + 1) ≤ 1000000 := hl
    rw [foldT, hh s (by omega) a List.mem_cons_self, Option.bind_some, List.filter_cons]
    by_cases hc : c a = true
    · rw [if_pos hc, if_pos hc, fold_push (c := c) (h := h) (by rw [List.length_append, List.length_singleton]; omega) fun s hs a ha => hh s hs a (List.mem_cons_of_mem _ ha)]
      simp
    · rw [if_neg hc, if_neg hc, fold_push (c := c) (h := h) (by omega) fun s hs a ha => hh s hs a (List.mem_cons_of_mem _ ha)]
theorem for_push {tb : List β → α → Option (Fw ρ (List β))} {c : α → Bool} {h : α → β} : ∀ {l : List α} {s : List β}, s.length + l.length ≤ 1000000 → (∀ s : List β, s.length < 1000000 → ∀ a ∈ l, tb s a = some (.nx (if c a then s ++ [h a] else s))) → forT tb l s = some (.nx (s ++ (l.filter c).map h))
  | [], s, _, _ => by simp [forT]
  | a :: l, s, hl, hh => by
    have hl' : s.length + (l.length + 1) ≤ 1000000 := hl
    rw [forT, hh s (by omega) a List.mem_cons_self, Option.bind_some, List.filter_cons]
    by_cases hc : c a = true
    · rw [if_pos hc, if_pos hc]
      show forT tb l _ = _
      rw [for_push (c := c) (h := h) (by rw [List.length_append, List.length_singleton]; omega) fun s hs a ha => hh s hs a (List.mem_cons_of_mem _ ha)]
      simp
    · rw [if_neg hc, if_neg hc]
      show forT tb l _ = _
      rw [for_push (c := c) (h := h) (by omega) fun s hs a ha => hh s hs a (List.mem_cons_of_mem _ ha)]
end
theorem repL_ok {α : Type} {a : List α} {k : Nat} (h : k ≤ 1000) (hl : a.length * k ≤ 16777216) : repL a (k : Int) = some (List.replicate k a).flatten := by
  unfold repL
  rw [Int.toNat_natCast]
  exact if_pos ⟨by omega, by omega, by rw [sizeLine_eq]; exact hl⟩
/-! rows read from the other end -/
section
variable {n : WebT} {ts : List Int} {b g : Nm} {r : List Nm}
theorem stp_rev : ∀ l : List Nm, stp l.reverse = ((stp l).map Prod.swap).reverse
  | [] => rfl
  | [_] => rfl
  | a :: c :: l => by
    have ih := stp_rev (c :: l)
    rw [List.reverse_cons] at ih
    have e : (a :: c :: l).reverse = l.reverse ++ c :: [a] := by simp
    rw [e, stp_app, ih]
    show _ ++ [(c, a)] = ((a, c).swap :: (stp (c :: l)).map Prod.swap).reverse
    rw [List.reverse_cons]
    rfl
theorem hitB_comm (ls : List (Nm × Nm)) (a b : Nm) (k : Nat) : hitB ls a b k = hitB ls b a k := by
  unfold hitB hitP
  split
  · exact Bool.or_comm _ _
  · rfl
theorem idx_comm (ls : List (Nm × Nm)) (a b : Nm) : idx ls a b = idx ls b a := by
  unfold idx
  rw [show hitB ls a b = hitB ls b a from funext (hitB_comm ls a b)]
theorem tmv_comm (ls : List (Nm × Nm)) (ts : List Int) (p : Nm × Nm) : tmv ls ts p.swap = tmv ls ts p := by
  unfold tmv
  rw [show idx ls p.swap.1 p.swap.2 = idx ls p.1 p.2 from idx_comm ls p.2 p.1]
theorem tms_rev (r : List Nm) : tms n ts r.reverse = (tms n ts r).reverse := by
  unfold tms
  rw [stp_rev, List.map_reverse, List.map_map]
  congr 1
  exact List.map_congr_left fun p _ => tmv_comm n.2 ts p
theorem tms_sub (ht : ts.length = n.2.length) (m : Int) (ha : Adj n.2 r) : tms n (ts.map fun t => m - t) r = (tms n ts r).map fun t => m - t := by
  unfold tms
  rw [List.map_map]
  refine List.map_congr_left
                                                                                                              fun p hp => ?_
  obtain ⟨k, e, hk, _⟩ := idx_adj (ha p hp)
  show tmv n.2 _ p = m - tmv n.2 ts p
  unfold tmv
  rw [e]
  simp [List.getElem?_eq_getElem (show k < ts.length by omega)]
theorem adj_comm {ls : List (Nm × Nm)} {x y : Nm} (h : adj ls x y) : adj ls y x := Or.symm h
theorem spn_rev {ls : List (Nm × Nm)} (h : SP (NB ls) b g r) : SP (NB ls) g b r.reverse := by
  obtain ⟨s, rfl, nd, ch⟩ := h
  refine ⟨s.reverse, by simp, (List.reverse_perm _).nodup_iff.mpr nd, fun l1 a c l2 e => ?_⟩
  have e2 := congrArg List.reverse e
  rw [List.reverse_reverse] at e2
  have := ch l2.reverse c a l1.reverse (by rw [e2]; simp)
  exact mem_NB.mpr (adj_comm (mem_NB.mp this))
theorem up_rev {l : List Int} (m : Int) : up (l.map fun t => m - t) = up l.reverse := by
  rw [Bool.eq_iff_iff, up_iff, up_iff, List.pairwise_map, List.pairwise_reverse]
  exact ⟨fun h => h.imp fun {a b} h => by omega, fun h => h.imp fun {a b} h => by omega⟩
theorem wy_rev (W : GW n) (ht : ts.length = n.2.length) (m : Int) (hb : b ∈ n.1) (hg : g ∈ n.1) (hbg : b ≠ g) : r ∈ WY n (ts.map fun t => m - t) b g ↔ r.reverse ∈ WY n ts g b := by
  rw [wy_iff W hb hbg, wy_iff W hg hbg.symm]
  constructor
  · rintro ⟨s, u⟩
    have ha := (er_ok W hb hbg ((er_sp W hb hbg).mpr s)).2.2
    rw [tms_sub ht m ha, up_rev] at u
    exact ⟨spn_rev s, by rw [tms_rev]; exact u⟩
  · rintro ⟨s, u⟩
    have s := spn_rev s
    rw [List.reverse_reverse] at s
    have ha := (er_ok W hb hbg ((er_sp W hb hbg).mpr s)).2.2
    rw [tms_rev] at u
    exact ⟨s, by rw [tms_sub ht m ha, up_rev]; exact u⟩
def fst (n : WebT) (ts : List Int) (r : List Nm) : Int := (tms n ts r).head?.getD 0
theorem wy_tms (W : GW n) (hb : b ∈ n.1) (hbg : b ≠ g) (hr : r ∈ WY n ts b g) : ∃ t l l' t', tms n ts r = t :: l ∧ tms n ts r = l' ++ [t'] := by
  obtain ⟨p, _, _, _, l, e⟩ := wy_last W hb hbg hr
  have e2 : tms n ts r = tms n ts (l ++ [p]) ++ [tmv n.2 ts (p, g)] := by rw [e, tms_snoc]
  cases h : tms n ts r with
  | nil => rw [h] at e2; simp at e2
  | cons t l1 => exact ⟨t, l1, _, _, rfl, h.symm.trans e2⟩
theorem arr_at (W : GW n) (hb : b ∈ n.1) (hbg : b ≠ g) (hr : r ∈ WY n ts b g) : atI (tms n ts r) (-(1 : Int)) = some (arr n ts r) := by
  obtain ⟨_, _, l, t, _, e⟩ := wy_tms W hb hbg hr
  unfold arr
  rw [e, List.getLast?_concat]
  exact atI_last
theorem fst_at (W : GW n) (hb : b ∈ n.1) (hbg : b ≠ g) (hr : r ∈ WY n ts b g) : atI (tms n ts r) (0 : Int) = some (fst n ts r) := by
  obtain ⟨t, l, _, _, e, _⟩ := wy_tms W hb hbg hr
  unfold fst
  rw [e]
  exact atI_nat (k := 0)
theorem arr_rev (W : GW n) (ht : ts.length = n.2.length) (m : Int) (hb : b ∈ n.1) (hg : g ∈ n.1) (hbg : b ≠ g) (hr : r ∈ WY n (ts.map fun t => m - t) b g) : arr n (ts.map fun t => m - t) r = m - fst n ts r.reverse := by
  have h2 := (wy_rev W ht m hb hg hbg).mp hr
  obtain ⟨t, l, _, _, e, _⟩ := wy_tms W hg hbg.symm h2
  have ha : Adj n.2 r := (wy_ok W hb hbg hr).2.2
  unfold arr fst
  rw [tms_sub ht m ha, e]
  rw [tms_rev] at e
  have e3 := congrArg List.reverse e
  rw [List.reverse_reverse] at e3
  rw [e3]
  simp
/-! what is due -/
theorem mn_of {l : List Int} {v : Int} (h1 : v ∈ l) (h2 : ∀ x ∈ l, v ≤ x) : minI l = some v := by
  obtain ⟨m, hm⟩ := minI_some (l := l) (List.ne_nil_of_mem h1)
  obtain ⟨m1, m2⟩ := minI_ok hm
  rw [hm, Int.le_antisymm (m2 v h1) (h2 m m1)]
theorem maxI_some {l : List Int} (h : l ≠ []) : ∃ m, maxI l = some m := by
  cases l with
  | nil => exact absurd rfl h
  | cons a l => exact ⟨_, rfl⟩
theorem mx_of {l : List Int} {v : Int} (h1 : v ∈ l) (h2 : ∀ x ∈ l, x ≤ v) : maxI l = some v := by
  obtain ⟨m, hm⟩ := maxI_some (l := l) (List.ne_nil_of_mem h1)
  obtain ⟨m1, m2⟩ := maxI_ok hm
  rw [hm, Int.le_antisymm (h2 m m1) (m2 v h1)]
def oth (n : WebT) (b : Nm) : List Nm := sortN (n.1.filter fun a => !eqv a b)
theorem mem_oth {x : Nm} : x ∈ oth n b ↔ x ∈ n.1 ∧ x ≠ b := by
  unfold oth
  rw [(sortN_perm _).mem_iff, List.mem_filter, Bool.not_eq_true', eqv_no]
theorem oth_lt (W : GW n) (b : Nm) : (oth n b).Pairwise fun a b => ltN a b = true := sortN_lt (W.nd.filter _)
theorem oth_len (W : GW n) (b : Nm) : (oth n b).length ≤ 9 := by
  unfold oth
  rw [(sortN_perm _).length_eq]
  exact Nat.le_trans (List.length_filter_le _ _) W.h9
theorem lt_eq {l m : List Nm} (hl : l.Pairwise fun a b => ltN a b = true) (hm : m.Pairwise fun a b => ltN a b = true) (h : ∀ x, x ∈ l ↔ x ∈ m) : l = m := by
  have nl : l.Nodup := hl.imp fun h => ltN_ne h
  have nm : m.Nodup := hm.imp fun h => ltN_ne h
  refine List.Perm.eq_of_pairwise (le := fun a b => ltN a b = true) (fun a b _ _ h1 h2 => ?_) hl hm ((List.perm_ext_iff_of_nodup nl nm).mpr h)
  rw [ltN_asym h1] at h2
  cases h2
def dueT (n : WebT) (ts : List Int) (b : Nm) : List (Nm × Int) := ((oth n b).filter fun g => !eqv (WY n ts b g) []).map fun g => (g, (minI ((WY n ts b g).map (arr n ts))).getD 0)
def dueF (n : WebT) (ts : List Int) (b : Nm) : List (Nm × Int) := ((oth n b).filter fun g => !eqv (WY n ts g b) []).map fun g => (g, (maxI ((WY n ts g b).map (fst n ts))).getD 0)
theorem keys_of (W : GW n) {d : Dt} (A : Arr n ts b d) : sortN (d.map (·.1)) = (oth n b).filter fun g => !eqv (WY n ts b g) [] := by
  refine lt_eq (sortN_lt A.nd) ((oth_lt W b).filter _) fun x => ?_
  rw [(sortN_perm _).mem_iff, List.mem_filter, mem_oth, Bool.not_eq_true', eqv_no, mem_keys]
  constructor
  · intro h
    obtain ⟨h1, h2⟩ := A.ks x (mem_keys.mpr h)
    refine ⟨⟨h1, h2⟩, fun z => ?_⟩
    rw [A.no x h1 h2 z] at h
    cases h
  · rintro ⟨⟨h1, h2⟩, h3⟩
    obtain ⟨v, e, _⟩ := A.yes x h1 h2 h3
    rw [e]
    rfl
theorem val_of {d : Dt} (A : Arr n ts b d) {g : Nm} (hg : g ∈ (oth n b).filter fun g => !eqv (WY n ts b g) []) : getA d g = some ((minI ((WY n ts b g).map (arr n ts))).getD 0) := by
  rw [List.mem_filter, mem_oth, Bool.not_eq_true', eqv_no] at hg
  obtain ⟨v, e, ⟨r, hr, e1⟩, low⟩ := A.yes g hg.1.1 hg.1.2 hg.2
  rw [e, mn_of (v := v) (List.mem_map.mpr ⟨r, hr, e1⟩) fun x hx => ?_]
  · rfl
  · obtain ⟨r', hr', rfl⟩ := List.mem_map.mp hx
    exact low r' hr'
theorem len_due (W : GW n) {d : Dt} (A : Arr n ts b d) : d.length = (dueT n ts b).length := by
  unfold dueT
  rw [List.length_map, ← keys_of W A, (sortN_perm _).length_eq, List.length_map]
theorem rev_nil (W : GW n) (ht : ts.length = n.2.length) (m : Int) (hb : b ∈ n.1) (hg : g ∈ n.1) (hbg : b ≠ g) : eqv (WY n (ts.map fun t => m - t) b g) [] = eqv (WY n ts g b) [] := by
  rw [Bool.eq_iff_iff, eqv_iff, eqv_iff]
  constructor
  · intro h
    refine List.eq_nil_iff_forall_not_mem.mpr fun r hr => ?_
    have := (wy_rev W ht m hb hg hbg (r := r.reverse)).mpr (by rw [List.reverse_reverse]; exact hr)
    rw [h] at this
    cases this
  · intro h
    refine List.eq_nil_iff_forall_not_mem.mpr fun r hr => ?_
    have := (wy_rev W ht m hb hg hbg).mp hr
    rw [h] at this
    cases this
theorem keys_rev (W : GW n) (ht : ts.length = n.2.length) (m : Int) (hb : b ∈ n.1) : ((oth n b).filter fun g => !eqv (WY n (ts.map fun t => m - t) b g) []) = (oth n b).filter fun g => !eqv (WY n ts g b) [] := by
  refine List.filter_congr fun g hg => ?_
  obtain ⟨h1, h2⟩ := mem_oth.mp hg
  rw [rev_nil W ht m hb h1 h2.symm]
theorem val_rev (W : GW n) (ht : ts.length = n.2.length) (m : Int) (hb : b ∈ n.1) {d : Dt} (A : Arr n (ts.map fun t => m - t) b d) {g : Nm} (hg : g ∈ (oth n b).filter fun g => !eqv (WY n ts g b) []) : ∃ v, getA d g = some v ∧ m - v = (maxI ((WY n ts g b).map (fst n ts))).getD 0 := by
  have hg0 := hg
  rw [List.mem_filter, mem_oth, Bool.not_eq_true', eqv_no] at hg
  obtain ⟨⟨h1, h2⟩, h3⟩ := hg
  have h4 : WY n (ts.map fun t => m - t) b g ≠ [] := fun z => h3 (eqv_iff.mp ((rev_nil W ht m hb h1 h2.symm) ▸ eqv_iff.mpr z))
  obtain ⟨v, e, ⟨r, hr, e1⟩, low⟩ := A.yes g h1 h2 h4
  refine ⟨v, e, ?_⟩
  have hr2 := (wy_rev W ht m hb h1 h2.symm).mp hr
  rw [arr_rev W ht m hb h1 h2.symm hr] at e1
  rw [mx_of (v := m - v) (List.mem_map.mpr ⟨r.reverse, hr2, by omega⟩) fun x hx => ?_]
  · rfl
  · obtain ⟨r', hr', rfl⟩ := List.mem_map.mp hx
    have hq := (wy_rev W ht m hb h1 h2.symm (r := r'.reverse)).mpr (by rw [List.reverse_reverse]; exact hr')
    have := low _ hq
    rw [arr_rev W ht m hb h1 h2.symm hq, List.reverse_reverse] at this
    omega
/-! the bounds of times -/
theorem tm_in (T : GT n ts) (ha : Adj n.2 r) : ∀ t ∈ tms n ts r, 0 ≤ t ∧ t ≤ 1000000000000 := by
  intro t h
  unfold tms at h
  obtain ⟨p, hp, rfl⟩
                                                                                                              := List.mem_map.mp h
  obtain ⟨k, e, hk, _⟩ := idx_adj (ha p hp)
  unfold tmv
  rw [e]
  have hk' : k < ts.length := by rw [T.len]; exact hk
  simp only [Option.bind_some, List.getElem?_eq_getElem hk', Option.getD_some]
  exact T.ok _ (List.getElem_mem hk')
theorem due_txt {E : List Nm} {f : Nm → Int} (W : GW n) (hE : E.length ≤ 9) (h : ∀ g ∈ E, g ∈ n.1 ∧ 0 ≤ f g ∧ f g ≤ 1000000000000) : Txt 1000 (eT (eP eS eI) (E.map fun g => (g, f g))) := by
  refine (Txt.tup (n := 100) fun d hd => ?_).mono (by rw [List.length_map, List.length_map]; omega)
  obtain ⟨p, hp, rfl⟩ := List.mem_map.mp hd
  obtain ⟨g, hg, rfl⟩ := List.mem_map.mp hp
  obtain ⟨h1, h2, h3⟩ := h g hg
  refine (Txt.tup (l := [eS g, eI (f g)]) (n := 13) fun d hd => ?_).mono (by simp)
  rcases List.mem_cons.mp
                                                                                                              hd with rfl | hd
  · exact (nm_txt W h1).mono (by decide)
  · rw [List.mem_singleton.mp hd]
    exact int_txt h2 h3
theorem dueT_txt (W : GW n) (T : GT n ts) (hb : b ∈ n.1) : Txt 1000 (eT (eP eS eI) (dueT n ts b)) := by
  refine due_txt W (Nat.le_trans (List.length_filter_le _ _) (oth_len W b)) fun g hg => ?_
  rw [List.mem_filter, mem_oth, Bool.not_eq_true', eqv_no] at hg
  obtain ⟨⟨h1, h2⟩, h3⟩ := hg
  refine ⟨h1, ?_⟩
  obtain ⟨m, hm⟩ := minI_some (l := (WY n ts b g).map (arr n ts)) (by simpa using h3)
  rw [hm]
  obtain ⟨r, hr, e⟩ := List.mem_map.mp (minI_ok hm).1
  obtain ⟨_, _, l, t, _, e2⟩ := wy_tms W hb h2.symm hr
  have := tm_in T (wy_ok W hb h2.symm hr).2.2 t (by rw [e2]; simp)
  unfold arr at e
  rw [e2, List.getLast?_concat] at e
  rw [show (some m).getD 0 = t from e.symm]
  exact this
theorem dueF_txt (W : GW n) (T : GT n ts) (hb : b ∈ n.1) : Txt 1000 (eT (eP eS eI) (dueF n ts b)) := by
  refine due_txt W (Nat.le_trans (List.length_filter_le _ _) (oth_len W b)) fun g hg => ?_
  rw [List.mem_filter, mem_oth, Bool.not_eq_true', eqv_no] at hg
  obtain ⟨⟨h1, h2⟩, h3⟩ := hg
  refine ⟨h1, ?_⟩
  obtain ⟨m, hm⟩ := maxI_some (l := (WY n ts g b).map (fst n ts)) (by simpa using h3)
  rw [hm]
  obtain ⟨r, hr, e⟩ := List.mem_map.mp (maxI_ok hm).1
  obtain ⟨t, l, _, _, e2, _⟩ := wy_tms W h1 h2 hr
  have := tm_in T (wy_ok W h1 h2 hr).2.2 t (by rw [e2]; simp)
  unfold fst at e
  rw [e2] at e
  rw [show (some m).getD 0 = t from e.symm]
  exact this
theorem repr_due {l : List (Nm × Int)} (t : Txt 1000 (eT (eP eS eI) l)) : ∃ s, reprT (eL (eT (eP eS eI))) [l, l] = some s :=
  reprT_ok rfl ((eq_L (eq_T (eq_P eq_S eq_I))).sh _) (by decide) (two_txt t) (by decide)
theorem repr_names (W : GW n) {l : List Nm} (hl : l.length ≤ 9) (h : ∀ s ∈ l, s ∈ n.1) : ∃ s, reprT (eL (eT eS)) [l, l] = some s :=
  reprT_ok rfl ((eq_L (eq_T eq_S)).sh _) (by decide) (two_txt (row_txt W hl h)) (by decide)
end
end TN

namespace TN
open PySem L2 DL PySem.Spec PyProof.Rows
/-! lots of places -/
theorem ltN_trans {a b c : Nm} (h1 : ltN a b = true) (h2 : ltN b c = true) : ltN a c = true := by
  have e1 : srtLe (eS a) (eS b) = true := by rw [srt_nm, ltN_asym h1]; rfl
  have e2 : srtLe (eS b) (eS c) = true := by rw [srt_nm, ltN_asym h2]; rfl
  have e3 := srt_trans _ _ _ e1 e2
  rw [srt_nm] at e3
  refine ltN_tot (fun z => ?_) (by simpa using e3)
  rw [z] at h1
  rw [ltN_asym h1] at h2
  cases h2
abbrev Asc (l : List Nm) : Prop := l.Pairwise fun a b => ltN a b = true
theorem asc_snoc {l : List Nm} {p : Nm} : Asc (l ++ [p]) ↔ Asc l ∧ ∀ x ∈ l, ltN x p = true := by
  unfold Asc
  rw [List.pairwise_append]
  constructor
  · rintro ⟨h1, _, h3⟩
    exact ⟨h1, fun x hx => h3 x hx p (List.mem_singleton.mpr rfl)⟩
  · rintro ⟨h1, h2⟩
    exact ⟨h1, List.pairwise_singleton _ _, fun x hx y hy => by rw [List.mem_singleton.mp hy]; exact h2 x hx⟩
theorem ltR_ext : ∀ {a b : List Nm} (s t : List Nm), ltR a b = true → a.length = b.length → ltR (a ++ s) (b ++ t) = true
  | [], [], _, _, h, _ => by cases h
  | [], _ :: _, _, _, _, h => by cases h
  | _ :: _, [], _, _, _, h => by cases h
  | x :: a, y :: b, s, t, h, hl => by
    have h : (if x = y then ltR a b else ltN x y) = true := h
    show (if x = y then ltR (a ++ s) (b ++ t) else ltN x y) = true
    by_cases e : x = y
    · rw [if_pos e] at h ⊢
      exact ltR_ext s t h (Nat.succ.inj hl)
    · rw [if_neg e] at h ⊢
      exact h
def after (lot : List Nm) (p : Nm) : Bool := match lot.getLast? with
  | none => true
  | some a => ltN a p
def nxt (P : List Nm) (lot : List Nm) : List (List Nm) := (P.filter (after lot)).map fun p => lot ++ [p]
def LT (P : List Nm) : Nat → List (List Nm)
  | 0 => [[]]
  | k + 1 => (LT P k).flatMap (nxt P)
theorem after_snoc {l : List Nm} {a p : Nm} : after (l ++ [a]) p = ltN a p := by
  unfold after
  rw [List.getLast?_concat]
theorem after_asc {l : List Nm} {p : Nm} (h : Asc l) : after l p = true ↔ ∀ x ∈ l, ltN x p = true := by
  rcases List.eq_nil_or_concat l with rfl | ⟨m, a, rfl⟩
  · exact ⟨fun _ x hx => (nomatch hx), fun _ => rfl⟩
  · rw [List.concat_eq_append] at h ⊢
    rw [after_snoc]
    constructor
    · intro hp x hx
      rcases List.mem_append.mp
                                                                                                              hx with hx | hx
      · exact ltN_trans ((asc_snoc.mp h).2 x hx) hp
      · rw [List.mem_singleton.mp hx]; exact hp
    · intro hx
      exact hx a (by simp)
theorem LT_mem {P : List Nm} : ∀ {k : Nat} {l : List Nm}, l ∈ LT P k ↔ Asc l ∧ (∀ x ∈ l, x ∈ P) ∧ l.length = k
  | 0, l => by
    show l ∈ [[]] ↔ _
    rw [List.mem_singleton]
    constructor
    · rintro rfl
      exact ⟨List.Pairwise.nil, fun x hx => (nomatch hx), rfl⟩
    · rintro ⟨_, _, h⟩
      exact List.length_eq_zero_iff.mp h
  | k + 1, l => by
    show l ∈ (LT P k).flatMap (nxt P) ↔ _
    rw [List.mem_flatMap]
    constructor
    · rintro ⟨lot, h1, h2⟩
      obtain ⟨a1, a2, a3⟩ := LT_mem.mp h1
      obtain ⟨p, hp, rfl⟩ := List.mem_map.mp h2
      obtain ⟨b1, b2⟩ := List.mem_filter.mp hp
      refine ⟨asc_snoc.mpr ⟨a1, (after_asc a1).mp b2⟩, fun x hx => ?_, by rw [List.length_append, List.length_singleton, a3]⟩
      rcases List.mem_append.mp
                                                                                                              hx with hx | hx
      · exact a2 x hx
      · rw [List.mem_singleton.mp hx]; exact b1
    · rintro ⟨h1, h2, h3⟩
      rcases List.eq_nil_or_concat l with rfl | ⟨m, p, rfl⟩
      · cases h3
      · rw [List.concat_eq_append] at h1 h2 h3 ⊢
        obtain ⟨c1, c2⟩ := asc_snoc.mp h1
        refine ⟨m, LT_mem.mpr ⟨c1, fun x hx => h2 x (List.mem_append_left _ hx), by simpa using h3⟩, List.mem_map.mpr ⟨p, List.mem_filter.mpr ⟨h2 p (by simp), (after_asc c1).mpr c2⟩, rfl⟩⟩
theorem LT_lt {P : List Nm} (hP : Asc P) : ∀ k : Nat, (LT P k).Pairwise fun a b => ltR a b = true
  | 0 => List.pairwise_singleton _ _
  | k + 1 => by
    show ((LT P k).flatMap (nxt P)).Pairwise _
    rw [List.pairwise_flatMap]
    constructor
    · intro lot _
      unfold nxt
      rw [List.pairwise_map]
      refine (hP.filter _).imp fun {p q} h => ?_
      rw [ltR_pre]
      show (if p = q then ltR [] [] else ltN p q) = true
      rw [if_neg (ltN_ne h), h]
    · refine (LT_lt hP k).imp_of_mem fun {a b} ha hb h x hx y hy => ?_
      obtain ⟨p, _, rfl⟩ := List.mem_map.mp hx
      obtain ⟨q, _, rfl⟩ := List.mem_map.mp hy
      exact ltR_ext _ _ h ((LT_mem.mp ha).2.2.trans (LT_mem.mp hb).2.2.symm)
theorem flat_len {α β : Type} {f : α → List β} {c : Nat} : ∀ {l : List α}, (∀ a ∈ l, (f a).length ≤ c) → (l.flatMap f).length ≤ l.length * c
  | [], _ => Nat.zero_le _
  | a :: l, h => by
    have ih := flat_len fun x hx => h x (List.mem_cons_of_mem _ hx)
    have := h a List.mem_cons_self
    rw [List.flatMap_cons, List.length_append, List.length_cons, Nat.add_mul]
    omega
theorem nxt_len {P : List Nm} (h7 : P.length ≤ 7) (lot : List Nm) : (nxt P lot).length ≤ 7 := by
  unfold nxt
  rw [List.length_map]
  exact Nat.le_trans (List.length_filter_le _ _) h7
theorem LT_len {P : List Nm} (h7 : P.length ≤ 7) : ∀ k : Nat, (LT P k).length ≤ 7 ^ k
  | 0 => Nat.le_refl _
  | k + 1 => by
    show ((LT P k).flatMap (nxt P)).length ≤ _
    refine Nat.le_trans (flat_len fun a _ => nxt_len h7 a) ?_
    rw [Nat.pow_succ]
    exact Nat.mul_le_mul_right _ (LT_len h7 k)
theorem LT_len7 {P : List Nm} (h7 : P.length ≤ 7) {k : Nat} (hk : k ≤ 7) : (LT P k).length ≤ 823543 := Nat.le_trans (LT_len h7 k) (Nat.pow_le_pow_right (by decide) hk)
theorem fold_flat {α β : Type} {tb : List β → α → Option (List β)} {f : α → List β} {N : Nat} : ∀ {l : List α} {s : List β}, s.length + (l.flatMap f).length ≤ N → (∀ (s : List β), ∀ a ∈ l, s.length + (f a).length ≤ N → tb s a = some (s ++ f a)) → foldT tb l s = some (s ++ l.flatMap f)
  | [], s, _, _ => by simp [foldT]
  | a :: l, s, h, hh => by
    rw [List.flatMap_cons, List.length_append] at h
    rw [foldT, hh s a List.mem_cons_self (by omega), Option.bind_some, fold_flat (f := f) (by rw [List.length_append]; omega) fun s a ha => hh s a (List.mem_cons_of_mem _ ha), List.flatMap_cons, List.append_assoc]
/-! all lots, one place after the other -/
structure LI (Q : List Nm) (s : List (List Nm)) : Prop where
  mem : ∀ l, l ∈ s ↔ Asc l ∧ ∀ x ∈ l, x ∈ Q
  nd : s.Nodup
  len : s.length = 2 ^ Q.length
theorem LI0 : LI [] [[]] := ⟨fun l => by
  rw [List.mem_singleton]
  constructor
  · rintro rfl; exact ⟨List.Pairwise.nil, fun x hx => (nomatch hx)⟩
  · rintro ⟨_, h⟩
    exact List.eq_nil_iff_forall_not_mem.mpr fun x hx => (nomatch h x hx), by simp, rfl⟩
theorem LI.step {Q : List Nm} {s : List (List Nm)} {x : Nm} (h : LI Q s) (hQ : Asc (Q ++ [x])) : LI (Q ++ [x]) (s ++ s.map fun l => l ++ [x]) := by
  obtain ⟨q1, q2⟩ := asc_snoc.mp hQ
  have nx : x ∉ Q := fun z => by have := ltN_ne (q2 x z); exact this rfl
  refine ⟨fun l => ?_, ?_, ?_⟩
  · rw [List.mem_append, h.mem]
    constructor
    · rintro (⟨h1, h2⟩ | h1)
      · exact ⟨h1, fun y hy => List.mem_append_left _ (h2 y hy)⟩
      · obtain ⟨m, hm, rfl⟩ := List.mem_map.mp h1
        obtain ⟨m1, m2⟩ := (h.mem m).mp hm
        refine ⟨asc_snoc.mpr ⟨m1, fun y hy => q2 y (m2 y hy)⟩, fun y hy => ?_⟩
        rcases List.mem_append.mp
                                                                                                              hy with hy | hy
        · exact List.mem_append_left _ (m2 y hy)
        · exact List.mem_append_right _ hy
    · rintro ⟨h1, h2⟩
      by_cases hx : x ∈ l
      · right
        obtain ⟨l1, l2, rfl⟩ := List.append_of_mem hx
        have e : l2 = [] := List.eq_nil_iff_forall_not_mem.mpr fun y hy => by
          have c1 : ltN x y = true := (List.pairwise_cons.mp (List.pairwise_append.mp h1).2.1).1 y hy
          rcases List.mem_append.mp (h2 y (by simp [hy])) with c | c
          · rw [ltN_asym (q2 y c)] at c1; cases c1
          · rw [List.mem_singleton.mp c] at c1; exact ltN_ne c1 rfl
        subst e
        obtain ⟨c1, c2⟩ := asc_snoc.mp h1
        refine List.mem_map.mpr ⟨l1, (h.mem l1).mpr ⟨c1, fun y hy => ?_⟩, rfl⟩
        rcases List.mem_append.mp (h2 y (List.mem_append_left _ hy)) with c | c
        · exact c
        · have := c2 y hy
          rw [List.mem_singleton.mp c] at this
          exact absurd rfl (ltN_ne this)
      · left
        refine ⟨h1, fun y hy => ?_⟩
        rcases List.mem_append.mp (h2 y hy) with c | c
        · exact c
        · rw [List.mem_singleton.mp c] at hy; exact absurd hy hx
  · refine List.nodup_append.mpr ⟨h.nd, List.pairwise_map.mpr (h.nd.imp fun h z => h (List.append_cancel_right z)), fun a ha c hc z => ?_⟩
    obtain ⟨m, _, rfl⟩ := List.mem_map.mp hc
    rw [z] at ha
    exact nx (((h.mem _).mp ha).2 x (by simp))
  · rw [List.length_append, List.length_map, h.len, List.length_append, List.length_singleton, Nat.pow_succ]
    omega
theorem LI.fold {tb : List (List Nm) → Nm → Option (List (List Nm))} (ht : ∀ (s : List (List Nm)) x, s.length ≤ 128 → (∀ l ∈ s, l.length ≤ 128) → tb s x = some (s ++ s.map fun l => l ++ [x])) : ∀ {R Q : List Nm} {s : List (List Nm)}, Asc (Q ++ R) → (Q ++ R).length ≤ 7 → LI Q s → ∃ s', foldT tb R s = some s' ∧ LI (Q ++ R) s'
  | [], Q, s, _, _, h => ⟨s, rfl, by rw [List.append_nil]; exact h⟩
  | x :: R, Q, s, ha, hl, h => by
    have e : Q ++ x :: R = (Q ++ [x]) ++ R := by simp
    rw [e] at ha hl ⊢
    have a1 := (List.pairwise_append.mp ha).1
    have hq : Q.length ≤ 7 := by simp only [List.length_append, List.length_singleton] at hl; omega
    obtain ⟨s', h1, h2⟩ := LI.fold ht (R := R) ha hl (h.step a1)
    refine ⟨s', ?_, h2⟩
    rw [foldT, ht s x (by rw [h.len]; exact Nat.le_trans (Nat.pow_le_pow_right (by decide) hq) (by decide)) fun l hl => ?_]
    · exact h1
    · obtain ⟨c1, c2⟩ := (h.mem l).mp hl
      have := nd_len (ws := Q) (c1.imp fun h => ltN_ne h) c2
      omega
/-! rows, their inner places, what bars them -/
def inn (r : List Nm) : List Nm := cutL r (some (1 : Int)) (some (-(1 : Int)))
theorem inn_of (b g : Nm) (s : List Nm) : inn (b :: (s ++ [g])) = s := by
  unfold inn cutL HT.sIx
  simp
  have e : (-1 + ((s.length : Int) + 1 + 1)).toNat - 1 = s.length := by omega
  rw [e]
  exact List.take_left
def Bar (R : List (List Nm)) (lot : List Nm) : Prop := ∀ r ∈ R, ∃ x ∈ inn r, x ∈ lot
def barB (R : List (List Nm)) (lot : List Nm) : Bool := R.all fun r => (inn r).any fun x => memv x lot
theorem barB_iff {R : List (List Nm)} {lot : List Nm} : barB R lot = true ↔ Bar R lot := by
  unfold barB Bar
  rw [List.all_eq_true]
  refine forall_congr' fun r => imp_congr_right fun _ => ?_
  rw [List.any_eq_true]
  exact exists_congr fun x => and_congr_right fun _ => memv_iff
def barL (R : List (List Nm)) (lot : List Nm) : Bool := R.all fun r => lot.any fun x => memv x (inn r)
theorem barL_iff {R : List (List Nm)} {lot : List Nm} : barL R lot = true ↔ Bar R lot := by
  unfold barL Bar
  rw [List.all_eq_true]
  refine forall_congr' fun r => imp_congr_right fun _ => ?_
  rw [List.any_eq_true]
  constructor
  · rintro ⟨x, h1, h2⟩; exact ⟨x, memv_iff.mp h2, h1⟩
  · rintro ⟨x, h1, h2⟩; exact ⟨x, h2, memv_iff.mpr h1⟩
def cov (x a : List Nm) : Bool := (inn x).all fun p => memv p (inn a)
theorem cov_iff {x a : List Nm} : cov x a = true ↔ ∀ p ∈ inn x, p ∈ inn a := by
  unfold cov
  rw [List.all_eq_true]
  exact forall_congr' fun p => imp_congr_right fun _ => memv_iff
theorem inn_fold {tb : List (List Nm) → List Nm → Option (List (List Nm))} : ∀ {l s : List (List Nm)}, s.length + l.length ≤ 1000000 → (∀ (s : List (List Nm)) (a : List Nm), s.length < 1000000 → tb s a = some (if (s.any fun x => cov x a) = true then s else s ++ [a])) →
    ∃ s', foldT tb l s = some s' ∧ (∀ x ∈ s, x ∈ s') ∧ (∀ x ∈ s', x ∈ s ∨ x ∈ l) ∧ (∀ a ∈ l, ∃ x ∈ s', cov x a = true) ∧ s'.length ≤ s.length + l.length
  | [], s, _, _ => ⟨s, rfl, fun _ h => h, fun _ h => .inl h, fun _ h => (nomatch h), Nat.le_refl _⟩
  | a :: l, s, hl, ht => by
    have hl' : s.length + (l.length + 1) ≤ 1000000 := hl
    rw [foldT, ht s a (by omega), Option.bind_some]
    by_cases h : (s.any fun x => cov x a) = true
    · rw [if_pos h]
      obtain ⟨s', h1, h2, h3, h4, h5⟩ := inn_fold (l := l) (s := s) (by omega) ht
      refine ⟨s', h1, h2, fun x hx => (h3 x hx).imp_right fun z => List.mem_cons_of_mem _ z, fun b hb => ?_, by rw [List.length_cons]; omega⟩
      rcases List.mem_cons.mp
                                                                                                              hb with rfl | hb
      · obtain ⟨x, hx, hc⟩ := List.any_eq_true.mp h
        exact ⟨x, h2 x hx, hc⟩
      · exact h4 b hb
    · rw [if_neg h]
      obtain ⟨s', h1, h2, h3, h4, h5⟩ := inn_fold (l := l) (s := s ++ [a]) (by rw [List.length_append, List.length_singleton]; omega) ht
      refine ⟨s', h1, fun x hx => h2 x (List.mem_append_left _ hx), fun x hx => ?_, fun b hb => ?_, by rw [List.length_append, List.length_singleton] at h5; rw [List.length_cons]; omega⟩
      · rcases h3 x hx with z | z
        · rcases List.mem_append.mp z with z | z
          · exact .inl z
          · rw [List.mem_singleton.mp z]; exact .inr List.mem_cons_self
        · exact .inr (List.mem_cons_of_mem _ z)
      · rcases List.mem_cons.mp
                                                                                                              hb with rfl | hb
        · exact ⟨b, h2 b (by simp), cov_iff.mpr fun p hp => hp⟩
        · exact h4 b hb
theorem bar_inn {R I : List (List Nm)} {lot : List Nm} (h1 : ∀ x ∈ I, x ∈ R) (h2 : ∀ a ∈ R, ∃ x ∈ I, cov x a = true) : Bar I lot ↔ Bar R lot := by
  constructor
  · intro h a ha
    obtain ⟨x, hx, hc⟩ := h2 a ha
    obtain ⟨p, hp, hl⟩ := h x hx
    exact ⟨p, cov_iff.mp hc p hp, hl⟩
  · intro h x hx
    exact h x (h1 x hx)
theorem sort3_nm (l : List Nm) : sortT3 eS l = some (sortN l) := by
  unfold sortT3
  split
  · rename_i h
    rw [short_perm h (sortN_perm l)]
  · exact sortT_nm l
theorem sort3_rows {E fd : List (List Nm)} (hn : 2 ≤ fd.length → ∀ r ∈ fd, r ≠ []) (hE : E.Pairwise fun a b => ltR a b = true) (p : fd.Perm E) : sortT3 (eT eS) fd = some E := by
  unfold sortT3
  split
  · rename_i h
    rw [short_perm h p.symm]
  · exact sortT_rows (hn (by omega)) hE p
end TN

namespace K30
open PySem L2 DL PySem.Spec PyProof.Rows
/-! the draws -/
def JarD (d : D) : Prop := ∃ a b c : Int, d = .lst [.int a, .int b, .int c]
theorem dip_ok {m : Int} (hm : 0 < m) (h2 : m < 1073741824) {d : D} (hd : JarD d) : ∃ v d', F__law_dip [.jar 0, .dat (.int m)] [d] = .ok (.int v) [d'] ∧ JarD d' ∧ 0 ≤ v ∧ v < m := by
  obtain ⟨a, b, c, rfl⟩ := hd
  have e1 : (0 : Int) < 2147483399 := by decide
  have e2 : (0 : Int) < 2048 := by decide
  have e3 : (2048 : Int) < 1073741824 := by decide
  by_cases ha : 0 < a
  · refine ⟨a % m, .lst [.int (a / m), .int b, .int (c + 1)], ?_, ⟨_, _, _, rfl⟩, Int.emod_nonneg _ (by omega), Int.emod_lt_of_pos _ hm⟩
    simp [F__law_dip, g__law_dip, v_mulI, v_modI, v_divI, hm, h2, ha]
  · refine ⟨(b * 40692 + (c + 1) * 52021 + 31) % 2147483399 / 2048 % m, .lst [.int a, .int ((b * 40692 + (c + 1) * 52021 + 31) % 2147483399), .int (c + 1)], ?_, ⟨_, _, _, rfl⟩, Int.emod_nonneg _ (by omega), Int.emod_lt_of_pos _ hm⟩
    simp [F__law_dip, g__law_dip, v_mulI, v_modI, v_divI, hm, h2, ha, e1, e2, e3]
theorem pick_ok {l : List D} (hl : l ≠ []) (h2 : (l.length : Int) < 1073741824) {d : D} (hd : JarD d) : ∃ x d', F__law_pick [.jar 0, .dat (.lst l)] [d] = .ok x [d'] ∧ JarD d' ∧ x ∈ l := by
  have hp : 0 < l.length := List.length_pos_iff.mpr hl
  obtain ⟨v, d', h1, h3, h4, h5⟩ := dip_ok (m := l.length) (by omega) h2 hd
  obtain ⟨k, rfl⟩ : ∃ k : Nat, v = k := ⟨v.toNat, by omega⟩
  have hk : k < l.length := by omega
  have e : atI l (k : Int) = some l[k] := at_nat (List.getElem?_eq_getElem hk)
  refine ⟨l[k], d', ?_, h3, List.getElem_mem hk⟩
  simp [F__law_pick, g__law_pick, lenD, h1, e]
def pool : List Str := ["a", "b", "ab", "hub", "tie", "places", "zz", "q", "m", "longname", "x", "y"]
theorem pool_nd : pool.Nodup := by decide +kernel
theorem names_ok {m : Nat} (hm : m ≤ 12) {d : D} (hd : JarD d) : ∃ (ws : List Str) (d' : D), F__law_names [.jar 0, .dat (.int m)] [d] = .ok (.lst (ws.map D.str)) [d'] ∧ JarD d' ∧ ws.length = m ∧ ws.Nodup ∧ ∀ w ∈ ws, w ∈ pool := by
  obtain ⟨v, d', h1, h3, h4, h5⟩ := dip_ok (m := 12) (by decide) (by decide) hd
  obtain ⟨k, rfl⟩ : ∃ k : Nat, v = k := ⟨v.toNat, by omega⟩
  have hk : k < 12 := by omega
  have pm : (pool.drop k ++ pool.take k).Perm pool := List.perm_append_comm.trans (by rw [List.take_append_drop])
  have ln : (pool.drop k ++ pool.take k).length = 12 := pm.length_eq
  refine ⟨(pool.drop k ++ pool.take k).take m, d', ?_, h3, ?_, ?_, ?_⟩
  · have e : [D.str "a", .str "b", .str "ab", .str "hub", .str "tie", .str "places", .str "zz", .str "q", .str "m", .str "longname", .str "x", .str "y"] = pool.map D.str := rfl
    have hs : (pool.map D.str).length = 12 := rfl
    have a1 : addD (.lst ((pool.map D.str).drop k)) (.lst ((pool.map D.str).take k)) = some (.lst ((pool.map D.str).drop k ++ (pool.map D.str).take k)) := v_addL (by rw [List.length_drop, List.length_take, hs]; omega)
    simp only [F__law_names, g__law_names, v_fn, List.length_cons, List.length_nil]
    simp [v_lstO, h1]
    rw [e, cut_from, cut_to, a1]
    simp [cut_to]
  · rw [List.length_take, ln]; omega
  · exact ((pm.nodup_iff).mpr pool_nd).sublist (List.take_sublist _ _)
  · exact fun w hw => pm.mem_iff.mp (List.mem_of_mem_take hw)
theorem pool_ok : ∀ w ∈ pool, PyData.strOk w = true := by decide +kernel
def netE (lo hi mx : Nat) (ws : List Str) (ps : List (Str × Str)) (fd : List (Str × Str)) (x y z t : S) (d : D) : DL.Env :=
  ⟨[.jar 0, .dat (.int lo), .dat (.int hi), .dat (.int mx), .dat (.lst (ws.map D.str)), .dat (.lst (ps.map tieD)), .own (.lst (fd.map tieD)), x, .un, y, z, t], [d]⟩
theorem net1 {lo hi mx : Nat} {ws : List Str} (hw : ws.length ≤ 12) {y z t : S} {d : D} : ∃ x', forL (gN 7) b1__law_net (rng 0 ws.length) (netE lo hi mx ws [] [] .un y z t d) = .ok .nx (netE lo hi mx ws (allPairs ws) [] x' y z t d) := by
  obtain ⟨e', h1, acc, k, x', h2, h3, h4, h5⟩ := forL_ok (g := gN 7) (body := b1__law_net) (ds := rng 0 ws.length)
    (fun ds e => ∃ (acc : List (Str × Str)) (k : Nat) (x : S), k ≤ ws.length ∧ ds = rng k (ws.length - k) ∧ acc ++ allPairs (ws.drop k) = allPairs ws ∧ e = netE lo hi mx ws acc [] x y z t d)
    (fun dd ds e ⟨acc, k, x, hk, hd, ha, he⟩ => by
      have hlt : k < ws.length := by
        rcases Nat.lt_or_ge k ws.length with h | h
        · exact h
        · rw [show ws.length - k = 0 by omega] at hd
          cases hd
      rw [show ws.length - k = (ws.length - (k + 1)) + 1 by omega, rng_cons] at hd
      cases hd
      subst he
      have hdr := List.drop_eq_getElem_cons hlt
      rw [hdr, allPairs] at ha
      have la := allPairs_len (l := ws)
      have lq : ws.length * ws.length ≤ 12 * 12 := Nat.mul_le_mul hw hw
      have lt : acc.length + (ws.drop (k + 1)).length ≤ 144 := by
        have := congrArg List.length ha
        rw [List.length_append, List.length_append, List.length_map] at this
        omega
      refine ⟨netE lo hi mx ws acc [] (.dat (.int k)) y z t d, netE lo hi mx ws (acc ++ (ws.drop (k + 1)).map fun o => (ws[k], o)) [] (.dat (.int k)) y z t d, rfl, .inl ?_, _, k + 1, _, hlt, by rw [show ((k + 1 : Nat) : Int) = (k : Int) + 1 by omega], by rw [List.append_assoc]; exact ha, rfl⟩
      have hat : atI (ws.map D.str) (k : Int) = some (.str ws[k]) := at_nat (by rw [List.getElem?_map, List.getElem?_eq_getElem hlt]; rfl)
      have hc : cLc [8] (cIter (cSl (cVar 4) (cPart (cOp addD (cVar 7) (cC (.int 1)))) cNoPart)) (gN 8) tYs (cTup (cCons (cOp ixD (cVar 4) (cVar 7)) (cCons (cVar 8) cNil))) (netE lo hi mx ws acc [] (.dat (.int k)) y z t d) =
          .ok (.val (.lst ((((ws.drop (k + 1)).map D.str).filter fun _ => true).map fun o => .tup [.str ws[k], o]))) (netE lo hi mx ws acc [] (.dat (.int k)) y z t d) := by
        refine v_lc1 (fun _ => true) (fun o => .tup [.str ws[k], o]) ?_ ?_ ?_ fun o ho => ⟨rfl, fun _ => ?_⟩
        · have e1 : (k : Int) + 1 = ((k + 1 : Nat) : Int) := by omega
          simp [netE]
          rw [e1, cut_from]
        · rfl
        · rw [List.length_map, sizeLine_eq]; omega
        · simp [netE, hat]
      have e2 : ∀ l : List D, l.filter (fun _ => true) = l := fun l => by simp
      rw [e2] at hc
      unfold b1__law_net
      rw [v_asg]
      have e3 : cVar 5 (netE lo hi mx ws acc [] (.dat (.int k)) y z t d) = .ok (.val (.lst (acc.map tieD))) (netE lo hi mx ws acc [] (.dat (.int k)) y z t d) := rfl
      rw [v_op, e3, v_bnd, hc, v_bnd, v_rdV, v_rdV, v_opt2, v_addL (by rw [List.length_map, List.length_map, List.length_map]; omega)]
      simp [netE, tieD, Function.comp_def])
    ⟨[], 0, .un, Nat.zero_le _, by simp, by simp, rfl⟩
  have hk : k = ws.length := by
    rcases Nat.lt_or_ge k ws.length with h | h
    · rw [show ws.length - k = (ws.length - (k + 1)) + 1 by omega, rng_cons] at h3
      cases h3
    · omega
  subst hk
  rw [List.drop_length, allPairs, List.append_nil] at h4
  subst h4
  exact ⟨x', h5 ▸ h1⟩
theorem net2 {lo hi mx : Nat} {ws : List Str} {ps : List (Str × Str)} (hl : Lk ws ps) (hp : ps.length ≤ 144) {T : Nat} (hT : T ≤ ps.length) {x y z t : S} {d : D} (hd : JarD d) :
    ∃ (fd rest : List (Str × Str)) (z' t' : S) (d' : D), forL (gN 10) b2__law_net (rng 0 T) (netE lo hi mx ws ps [] x y z t d) = .ok .nx (netE lo hi mx ws rest fd x y z' t' d') ∧ JarD d' ∧ Lk ws fd ∧ fd.length = T := by
  obtain ⟨e', h1, fd, rest, z', t', d', h2, h3, h4, h5, h6, h7⟩ := forL_ok (g := gN 10) (body := b2__law_net) (ds := rng 0 T)
    (fun ds e => ∃ (fd rest : List (Str × Str)) (z t : S) (d : D), JarD d ∧ Lk ws (fd ++ rest) ∧ fd.length + rest.length = ps.length ∧ fd.length ≤ T ∧ ds = rng fd.length (T - fd.length) ∧ e = netE lo hi mx ws rest fd x y z t d)
    (fun dd ds e ⟨fd, rest, z, t, d, hd, hk, hn, hf, hds, he⟩ => by
      have hlt : fd.length < T := by
        rcases Nat.lt_or_ge fd.length T with h | h
        · exact h
        · rw [show T - fd.length = 0 by omega] at hds
          cases hds
      rw [show T - fd.length = (T - (fd.length + 1)) + 1 by omega, rng_cons] at hds
      cases hds
      subst he
      have hr : 0 < rest.length := by omega
      obtain ⟨v, d1, q1, q2, q3, q4⟩ := dip_ok (m := rest.length) (by omega) (by omega) hd
      obtain ⟨k, rfl⟩ : ∃ k : Nat, v = k := ⟨v.toNat, by omega⟩
      have hkl : k < rest.length := by omega
      obtain ⟨u, d2, r1, r2, r3, r4⟩ := dip_ok (m := 2) (by decide) (by decide) q2
      have hat : atI (rest.map tieD) (k : Int) = some (tieD rest[k]) := at_nat (by rw [List.getElem?_map, List.getElem?_eq_getElem hkl]; rfl)
      have pm : rest.Perm (rest[k] :: (rest.take k ++ rest.drop (k + 1))) := by
        have e := List.take_append_drop k rest
        rw [List.drop_eq_getElem_cons hkl] at e
        conv => lhs; rw [← e]
        exact List.perm_middle
      have lk : Lk ws (rest[k] :: (fd ++ (rest.take k ++ rest.drop (k + 1)))) := hk.perm ((pm.append_left fd).trans List.perm_middle)
      have ln : (rest.take k ++ rest.drop (k + 1)).length + 1 = rest.length := by have := pm.length_eq; simp only [List.length_cons] at this; omega
      have e1 : (k : Int) + 1 = ((k + 1 : Nat) : Int) := by omega
      have asm : ∀ w : Str × Str, Lk ws (w :: (fd ++ (rest.take k ++ rest.drop (k + 1)))) → Lk ws ((fd ++ [w]) ++ (rest.take k ++ rest.drop (k + 1))) := fun w h => h.perm (by rw [List.append_assoc]; exact List.perm_middle.symm)
      have key : ∃ w : Str × Str, Lk ws (w :: (fd ++ (rest.take k ++ rest.drop (k + 1)))) ∧ b2__law_net (netE lo hi mx ws rest fd x y (.dat (.int fd.length)) t d) = .ok .nx (netE lo hi mx ws (rest.take k ++ rest.drop (k + 1)) (fd ++ [w]) x y (.dat (.int fd.length)) (.dat (.int k)) d2) := by
        have a1 : addD (.lst ((rest.map tieD).take k)) (.lst ((rest.map tieD).drop (k + 1))) = some (.lst ((rest.map tieD).take k ++ (rest.map tieD).drop (k + 1))) := v_addL (by rw [List.length_take, List.length_drop, List.length_map]; omega)
        have lf : (fd.map tieD).length < 16777216 := by rw [List.length_map]; omega
        by_cases hu : u = 0
        · refine ⟨rest[k], lk, ?_⟩
          subst hu
          simp [b2__law_net, netE, q1, r1, hat, v_appL lf]
          rw [e1, cut_from, cut_to, a1]
          simp
        · refine ⟨rest[k].swap, lk.swap, ?_⟩
          have hs : (tieD rest[k]) = .tup [.str rest[k].1, .str rest[k].2] := rfl
          simp [b2__law_net, netE, q1, r1, hat, hu, hs, v_appL lf]
          rw [e1, cut_from, cut_to, a1]
          simp [tieD]
      obtain ⟨w, w1, w2⟩ := key
      exact ⟨_, _, rfl, .inl w2, fd ++ [w], rest.take k ++ rest.drop (k + 1), _, _, d2, r2, asm w w1, by rw [List.length_append]; simp only [List.length_cons, List.length_nil]; omega, by rw [List.length_append]; simp only [List.length_cons, List.length_nil]; omega,
        by rw [List.length_append]; simp only [List.length_cons, List.length_nil, Nat.zero_add]; rw [show ((fd.length + 1 : Nat) : Int) = (fd.length : Int) + 1 by omega], rfl⟩)
    ⟨[], ps, z, t, d, hd, hl, by simp, by simp, by simp, rfl⟩
  have hf : fd.length = T := by
    rcases Nat.lt_or_ge fd.length T with h | h
    · rw [show T - fd.length = (T - (fd.length + 1)) + 1 by omega, rng_cons] at h6
      cases h6
    · omega
  exact ⟨fd, rest, z', t', d', h7 ▸ h1, h2, h3.sub (List.sublist_append_left _ _), hf⟩
/-- a drawn web -/
structure Net (lo hi mx : Nat) (ws : List Str) (ls : List (Str × Str)) : Prop where
  nd : ws.Nodup
  pool : ∀ w ∈ ws, w ∈ pool
  lo : lo ≤ ws.length
  hi : ws.length ≤ hi
  lk : Lk ws ls
  mx : ls.length ≤ mx
def netD (ws : List Str) (ls : List (Str × Str)) : D := .tup [.tup (ws.map D.str), .tup (ls.map tieD)]
theorem net_run {lo hi mx k : Nat} {ws : List Str} {fd rest : List (Str × Str)} {d d1 d2 d3 d4 d5 : D} {x' z' t' : S} {many tt u : Int} {m : Nat}
    (a1 : F__law_dip [.jar 0, .dat (.int ((hi : Int) - lo + 1))] [d] = .ok (.int k) [d1]) (b1' : F__law_names [.jar 0, .dat (.int ((lo : Int) + k))] [d1] = .ok (.lst (ws.map D.str)) [d2])
    (c1 : forL (gN 7) b1__law_net (rng 0 ws.length) (netE lo hi mx ws [] [] .un .un .un .un d2) = .ok .nx (netE lo hi mx ws (allPairs ws) [] x' .un .un .un d2))
    (e1 : F__law_pick [.jar 0, .dat (.lst [.int 2, .int 3, .int (allPairs ws).length])] [d2] = .ok (.int m) [d3]) (f1 : F__law_dip [.jar 0, .dat (.int m)] [d3] = .ok (.int u) [d4])
    (hmany : many = if (allPairs ws).length + 1 - u < (mx : Int) then (allPairs ws).length + 1 - u else (mx : Int)) (htt : tt = if ((allPairs ws).length : Int) < many then ((allPairs ws).length : Int) else many)
    (g1 : forL (gN 10) b2__law_net (rng 0 tt.toNat) (netE lo hi mx ws (allPairs ws) [] x' (.dat (.int many)) .un .un d4) = .ok .nx (netE lo hi mx ws rest fd x' (.dat (.int many)) z' t' d5))
    (r1 : rngI1 [.val (.int ws.length)] = some (rng 0 ws.length)) (r2 : rngI1 [.val (.int tt)] = some (rng 0 tt.toNat)) :
    F__law_net [.jar 0, .dat (.int lo), .dat (.int hi), .dat (.int mx)] [d] = .ok (netD ws fd) [d5] := by
  have st1 : ∀ k : DL.Env → Out Fl, (forL (gN 7) b1__law_net (rng 0 ws.length) ⟨[.jar 0, .dat (.int lo), .dat (.int hi), .dat (.int mx), .dat (.lst (ws.map D.str)), .dat (.lst []), .own (.lst []), .un, .un, .un, .un, .un], [d2]⟩).bndF k =
      k (netE lo hi mx ws (allPairs ws) [] x' .un .un .un d2) := fun k => by
    have := c1
    unfold netE at this
    simp only [List.map_nil] at this
    rw [this]
    rfl
  have st2 : ∀ k : DL.Env → Out Fl, (forL (gN 10) b2__law_net (rng 0 tt.toNat) ⟨[.jar 0, .dat (.int lo), .dat (.int hi), .dat (.int mx), .dat (.lst (ws.map D.str)), .dat (.lst ((allPairs ws).map tieD)), .own (.lst []), x', .un, .dat (.int many), .un, .un], [d4]⟩).bndF k =
      k (netE lo hi mx ws rest fd x' (.dat (.int many)) z' t' d5) := fun k => by
    have := g1
    unfold netE at this
    simp only [List.map_nil] at this
    rw [this]
    rfl
  unfold F__law_net g__law_net
  simp -implicitDefEqProofs [a1, b1', r1, st1]
  simp -implicitDefEqProofs [netE, e1, f1]
  rw [← hmany, ← htt, r2]
  simp -implicitDefEqProofs [st2]
  simp -implicitDefEqProofs [netE, netD]
theorem net_ok {lo hi mx : Nat} (h2 : 2 ≤ lo) (hh : lo ≤ hi) (h12 : hi ≤ 12) {d : D} (hd : JarD d) :
    ∃ (ws : List Str) (ls : List (Str × Str)) (d' : D), F__law_net [.jar 0, .dat (.int lo), .dat (.int hi), .dat (.int mx)] [d] = .ok (netD ws ls) [d'] ∧ JarD d' ∧ Net lo hi mx ws ls := by
  obtain ⟨v, d1, a1, a2, a3, a4⟩ := dip_ok (m := (hi : Int) - lo + 1) (by omega) (by omega) hd
  obtain ⟨k, rfl⟩ : ∃ k : Nat, v = k := ⟨v.toNat, by omega⟩
  obtain ⟨ws, d2, b1, b2, b3, b4, b5⟩ := names_ok (m := lo + k) (by omega) a2
  have b1' : F__law_names [.jar 0, .dat (.int ((lo : Int) + k))] [d1] = .ok (.lst (ws.map D.str)) [d2] := by rw [show ((lo : Int) + k) = ((lo + k : Nat) : Int) by omega]; exact b1
  have lq : ws.length * ws.length ≤ 12 * 12 := Nat.mul_le_mul (by omega) (by omega)
  have la := allPairs_len (l := ws)
  have lp := allPairs_pos (l := ws) (by omega)
  obtain ⟨x', c1⟩ := net1 (lo := lo) (hi := hi) (mx := mx) (ws := ws) (by omega) (y := .un) (z := .un) (t := .un) (d := d2)
  obtain ⟨mv, d3, e1, e2, e3⟩ := pick_ok (l := [.int 2, .int 3, .int (allPairs ws).length]) (by simp) (by simp) b2
  obtain ⟨m, hm, hm2, rfl⟩ : ∃ m : Nat, 0 < m ∧ (m : Int) < 1073741824 ∧ mv = .int m := by
    rcases List.mem_cons.mp e3 with rfl | e3
    · exact ⟨2, by omega, by omega, rfl⟩
    rcases List.mem_cons.mp e3 with rfl | e3
    · exact ⟨3, by omega, by omega, rfl⟩
    · rw [List.mem_singleton.mp e3]; exact ⟨_, lp, by omega, rfl⟩
  obtain ⟨u, d4, f1, f2, f3, f4⟩ := dip_ok (m := m) (by omega) hm2 e2
  obtain ⟨many, hmany⟩ : ∃ n : Int, n = if (allPairs ws).length + 1 - u < (mx : Int) then (allPairs ws).length + 1 - u else (mx : Int) := ⟨_, rfl⟩
  obtain ⟨tt, htt⟩ : ∃ n : Int, n = if ((allPairs ws).length : Int) < many then ((allPairs ws).length : Int) else many := ⟨_, rfl⟩
  have hm1 : many ≤ mx := by rw [hmany]; split <;> omega
  have hm3 : -1073741824 ≤ many := by rw [hmany]; split <;> omega
  have ht1 : tt ≤ (allPairs ws).length := by rw [htt]; split <;> omega
  have ht2 : tt ≤ mx := by rw [htt]; split <;> omega
  have ht3 : -1073741824 ≤ tt := by rw [htt]; split <;> omega
  obtain ⟨fd, rest, z', t', d5, g1, g2, g3, g4⟩ := net2 (lo := lo) (hi := hi) (mx := mx) (allPairs_lk b4) (by omega) (T := tt.toNat) (by omega) (x := x') (y := .dat (.int many)) (z := .un) (t := .un) f2
  refine ⟨ws, fd, d5, ?_, g2, b4, b5, by omega, by omega, g3, by omega⟩
  have r1 : rngI1 [.val (.int ws.length)] = some (rng 0 ws.length) := v_rng (by omega) (by omega)
  have r2 : rngI1 [.val (.int tt)] = some (rng 0 tt.toNat) := v_rng (by omega) (by omega)
  exact net_run a1 b1' c1 e1 f1 hmany htt g1 r1 r2
end K30

namespace K30
open PySem L2 DL PySem.Spec PyProof.Rows
/-! webs are made -/
theorem name_ok : ∀ w ∈ pool, F_is_name [.dat (.str w)] [] = .ok (.bl true) [] :=
  List.forall_mem_cons.mpr ⟨by kernel_rfl, List.forall_mem_cons.mpr ⟨by kernel_rfl, List.forall_mem_cons.mpr ⟨by kernel_rfl, List.forall_mem_cons.mpr ⟨by kernel_rfl, List.forall_mem_cons.mpr ⟨by kernel_rfl, List.forall_mem_cons.mpr ⟨by kernel_rfl, List.forall_mem_cons.mpr ⟨by kernel_rfl, List.forall_mem_cons.mpr ⟨by kernel_rfl, List.forall_mem_cons.mpr ⟨by kernel_rfl, List.forall_mem_cons.mpr ⟨by kernel_rfl, List.forall_mem_cons.mpr ⟨by kernel_rfl, List.forall_mem_cons.mpr ⟨by kernel_rfl, fun _ h => nomatch h⟩⟩⟩⟩⟩⟩⟩⟩⟩⟩⟩⟩
theorem sh_str {w : Str} (h : w ∈ pool) {k : Nat} : Sh k (.str w) := .str (pool_ok w h)
theorem sh_strs {ws : List Str} (h : ∀ w ∈ ws, w ∈ pool) {k : Nat} : Sh (k + 1) (.tup (ws.map D.str)) := sh_row fun s hs => pool_ok s (h s hs)
theorem places_ok {ws : List Str} (hn : ws.Nodup) (hp : ∀ w ∈ ws, w ∈ pool) (h2 : 2 ≤ ws.length) (h9 : ws.length ≤ 9) : F_check_places [.dat (.tup (ws.map D.str))] [] = .ok .non [] := by
  obtain ⟨e', h1, hI⟩ := forL_ok (g := gN 1) (body := b1_check_places) (ds := rng 0 ws.length) (e := ⟨[.dat (.tup (ws.map D.str)), .un], []⟩)
    (fun ds e => ∃ (k : Nat) (x : S), k ≤ ws.length ∧ ds = rng k (ws.length - k) ∧ e = ⟨[.dat (.tup (ws.map D.str)), x], []⟩)
    (fun dd ds e ⟨k, x, hk, hd, he⟩ => by
      have hlt : k < ws.length := by
        rcases Nat.lt_or_ge k ws.length with h | h
        · exact h
        · rw [show ws.length - k = 0 by omega] at hd
          cases hd
      rw [show ws.length - k = (ws.length - (k + 1)) + 1 by omega, rng_cons] at hd
      cases hd
      subst he
      refine ⟨⟨[.dat (.tup (ws.map D.str)), .dat (.int k)], []⟩, ⟨[.dat (.tup (ws.map D.str)), .dat (.int k)], []⟩, rfl, .inl ?_, k + 1, .dat (.int k), hlt, by rw [show ((k + 1 : Nat) : Int) = (k : Int) + 1 by omega], rfl⟩
      have hat : atI (ws.map D.str) (k : Int) = some (.str ws[k]) := at_nat (by rw [List.getElem?_map, List.getElem?_eq_getElem hlt]; rfl)
      have hw : ws[k] ∈ pool := hp _ (List.getElem_mem hlt)
      have hnin : ws[k] ∉ ws.take k := by
        have e := List.take_append_drop k ws
        rw [List.drop_eq_getElem_cons hlt] at e
        rw [← e] at hn
        obtain ⟨_, _, n3⟩ := List.nodup_append.mp hn
        exact fun z => n3 _ z _ List.mem_cons_self rfl
      have hin : inD (.str ws[k]) (.tup ((ws.take k).map D.str)) = some (.bl false) := by
        rw [inD_tup (k := 1) (sh_str hw) (sh_strs fun w hw => hp w (List.mem_of_mem_take hw)) (by omega), memB_str]
        simp [hnin]
      have k9 : ¬ (k : Int) = 9 := by omega
      have hn1 := name_ok _ hw
      simp -implicitDefEqProofs [b1_check_places, hat, hn1, k9]
      rw [cut_to, ← List.map_take, hin]
      simp -implicitDefEqProofs)
    ⟨0, .un, Nat.zero_le _, by simp, rfl⟩
  have r1 : rngI1 [.val (.int ws.length)] = some (rng 0 ws.length) := v_rng (by omega) (by omega)
  have l2 : ¬ (ws.length : Int) < 2 := by omega
  simp -implicitDefEqProofs [F_check_places, g_check_places, l2, r1, h1]
  obtain ⟨k, x, _, _, rfl⟩ := hI
  rfl
theorem sh_tie {p : Str × Str} (h1 : p.1 ∈ pool) (h2 : p.2 ∈ pool) {k : Nat} : Sh (k + 1) (tieD p) := .tup fun d hd => by
  rcases List.mem_cons.mp
                                                                                                              hd with rfl | hd
  · exact sh_str h1
  · rw [List.mem_singleton.mp hd]; exact sh_str h2
theorem tie_ok {ws : List Str} {p : Str × Str} (hp : ∀ w ∈ ws, w ∈ pool) (h1 : p.1 ∈ ws) (h2 : p.2 ∈ ws) (h3 : p.1 ≠ p.2) : F_is_tie [.dat (tieD p), .dat (.tup (ws.map D.str))] [] = .ok (.bl true) [] := by
  have a1 := name_ok _ (hp _ h1)
  have a2 := name_ok _ (hp _ h2)
  have n1 : neD (.str p.1) (.str p.2) = some (.bl true) := by
    rw [v_neS (pool_ok _ (hp _ h1)) (pool_ok _ (hp _ h2))]
    simp [h3]
  have i1 : inD (.str p.1) (.tup (ws.map D.str)) = some (.bl true) := by
    rw [inD_tup (k := 1) (sh_str (hp _ h1)) (sh_strs hp) (by omega), memB_str]; simp [h1]
  have i2 : inD (.str p.2) (.tup (ws.map D.str)) = some (.bl true) := by
    rw [inD_tup (k := 1) (sh_str (hp _ h2)) (sh_strs hp) (by omega), memB_str]; simp [h2]
  have hp1 : F_is_pair [.dat (.tup [.str p.1, .str p.2])] [] = .ok (.bl true) [] := by
    simp -implicitDefEqProofs [F_is_pair, g_is_pair]
  simp -implicitDefEqProofs [F_is_tie, g_is_tie, tieD, hp1, a1, a2, n1, i1, i2]
theorem eqB_tie {p q : Str × Str} : eqB (tieD p) (tieD q) = decide (p = q) := by
  have := eqB_row [p.1, p.2] [q.1, q.2]
  have e : eqB (tieD p) (tieD q) = decide ([p.1, p.2] = [q.1, q.2]) := this
  rw [e]
  by_cases h : p = q
  · subst h; simp
  · have : ¬ (p.1 = q.1 ∧ p.2 = q.2) := fun z => h (Prod.ext z.1 z.2)
    simp [h, this]
theorem index_none {ls : List (Str × Str)} {p : Str × Str} (hl : ls.length ≤ 100) (hp : ∀ q ∈ ls, q.1 ∈ pool ∧ q.2 ∈ pool) (h1 : p.1 ∈ pool) (h2 : p.2 ∈ pool) (hn : ∀ q ∈ ls, q ≠ p ∧ q ≠ p.swap) :
    F_index_in [.dat (.tup (ls.map tieD)), .dat (.str p.1), .dat (.str p.2)] [] = .ok .non [] := by
  obtain ⟨e', q1, hI⟩ := forL_ok (g := gN 3) (body := b1_index_in) (ds := rng 0 ls.length) (e := ⟨[.dat (.tup (ls.map tieD)), .dat (.str p.1), .dat (.str p.2), .un], []⟩)
    (fun ds e => ∃ (k : Nat) (x : S), k ≤ ls.length ∧ ds = rng k (ls.length - k) ∧ e = ⟨[.dat (.tup (ls.map tieD)), .dat (.str p.1), .dat (.str p.2), x], []⟩)
    (fun dd ds e ⟨k, x, hk, hd, he⟩ => by
      have hlt : k < ls.length := by
        rcases Nat.lt_or_ge k ls.length with h | h
        · exact h
        · rw [show ls.length - k = 0 by omega] at hd
          cases hd
      rw [show ls.length - k = (ls.length - (k + 1)) + 1 by omega, rng_cons] at hd
      cases hd
      subst he
      refine ⟨⟨[.dat (.tup (ls.map tieD)), .dat (.str p.1), .dat (.str p.2), .dat (.int k)], []⟩, ⟨[.dat (.tup (ls.map tieD)), .dat (.str p.1), .dat (.str p.2), .dat (.int k)], []⟩, rfl, .inl ?_, k + 1, .dat (.int k), hlt, by rw [show ((k + 1 : Nat) : Int) = (k : Int) + 1 by omega], rfl⟩
      have hat : atI (ls.map tieD) (k : Int) = some (tieD ls[k]) := at_nat (by rw [List.getElem?_map, List.getElem?_eq_getElem hlt]; rfl)
      have hm := List.getElem_mem hlt
      obtain ⟨b1, b2⟩ := hp _ hm
      obtain ⟨c1, c2⟩ := hn _ hm
      have hin : inD (tieD ls[k]) (.tup [.tup [.str p.1, .str p.2], .tup [.str p.2, .str p.1]]) = some (.bl false) := by
        have e : D.tup [.tup [.str p.1, .str p.2], .tup [.str p.2, .str p.1]] = .tup [tieD p, tieD p.swap] := rfl
        rw [e, inD_tup (k := 2) (sh_tie b1 b2) (.tup fun d hd => by
          rcases List.mem_cons.mp
                                                                                                              hd with rfl | hd
          · exact sh_tie h1 h2
          · rw [List.mem_singleton.mp hd]; exact sh_tie h2 h1) (by omega), memB_cons, memB_cons, memB_nil, eqB_tie, eqB_tie]
        have d1 : ¬ p = ls[k] := fun z => c1 z.symm
        have d2 : ¬ p.swap = ls[k] := fun z => c2 z.symm
        simp [d1, d2]
      simp -implicitDefEqProofs [b1_index_in, hat, hin])
    ⟨0, .un, Nat.zero_le _, by simp, rfl⟩
  have r1 : rngI1 [.val (.int ls.length)] = some (rng 0 ls.length) := v_rng (by omega) (by omega)
  simp -implicitDefEqProofs [F_index_in, g_index_in, r1, q1]
  obtain ⟨k, x, _, _, rfl⟩ := hI
  rfl
theorem ties_ok {ws : List Str} {ls : List (Str × Str)} (hp : ∀ w ∈ ws, w ∈ pool) (lk : Lk ws ls) (hl : ls.length ≤ 16) : F_check_ties [.dat (.tup (ls.map tieD)), .dat (.tup (ws.map D.str))] [] = .ok .non [] := by
  obtain ⟨e', q1, hI⟩ := forL_ok (g := gN 2) (body := b1_check_ties) (ds := rng 0 ls.length) (e := ⟨[.dat (.tup (ls.map tieD)), .dat (.tup (ws.map D.str)), .un], []⟩)
    (fun ds e => ∃ (k : Nat) (x : S), k ≤ ls.length ∧ ds = rng k (ls.length - k) ∧ e = ⟨[.dat (.tup (ls.map tieD)), .dat (.tup (ws.map D.str)), x], []⟩)
    (fun dd ds e ⟨k, x, hk, hd, he⟩ => by
      have hlt : k < ls.length := by
        rcases Nat.lt_or_ge k ls.length with h | h
        · exact h
        · rw [show ls.length - k = 0 by omega] at hd
          cases hd
      rw [show ls.length - k = (ls.length - (k + 1)) + 1 by omega, rng_cons] at hd
      cases hd
      subst he
      refine ⟨⟨[.dat (.tup (ls.map tieD)), .dat (.tup (ws.map D.str)), .dat (.int k)], []⟩, ⟨[.dat (.tup (ls.map tieD)), .dat (.tup (ws.map D.str)), .dat (.int k)], []⟩, rfl, .inl ?_, k + 1, .dat (.int k), hlt, by rw [show ((k + 1 : Nat) : Int) = (k : Int) + 1 by omega], rfl⟩
      have hat : atI (ls.map tieD) (k : Int) = some (tieD ls[k]) := at_nat (by rw [List.getElem?_map, List.getElem?_eq_getElem hlt]; rfl)
      have hm := List.getElem_mem hlt
      obtain ⟨b1, b2, b3⟩ := lk.on _ hm
      have t1 := tie_ok hp b1 b2 b3
      have k16 : ¬ (k : Int) = 16 := by omega
      have dd : ∀ q ∈ ls.take k, q ≠ ls[k] ∧ q ≠ ls[k].swap := by
        have e := List.take_append_drop k ls
        rw [List.drop_eq_getElem_cons hlt] at e
        have d := lk.dif
        rw [← e] at d
        obtain ⟨_, _, n3⟩ := List.pairwise_append.mp d
        intro q hq
        exact dif_symm (n3 q hq _ List.mem_cons_self)
      have ix := index_none (ls := ls.take k) (p := ls[k]) (by rw [List.length_take]; omega) (fun q hq => by
        obtain ⟨c1, c2, _⟩ := lk.on q (List.mem_of_mem_take hq)
        exact ⟨hp _ c1, hp _ c2⟩) (hp _ b1) (hp _ b2) dd
      rw [List.map_take] at ix
      have ta : tieD ls[k] = .tup [.str ls[k].1, .str ls[k].2] := rfl
      simp -implicitDefEqProofs [b1_check_ties, hat, t1, k16, cut_to]
      rw [ta]
      simp -implicitDefEqProofs [hat, ta, ix, D.isNon])
    ⟨0, .un, Nat.zero_le _, by simp, rfl⟩
  have r1 : rngI1 [.val (.int ls.length)] = some (rng 0 ls.length) := v_rng (by omega) (by omega)
  simp -implicitDefEqProofs [F_check_ties, g_check_ties, r1, q1]
  obtain ⟨k, x, _, _, rfl⟩ := hI
  rfl
def webD (ws : List Str) (ls : List (Str × Str)) : D := .obj "Web" ["both"] [netD ws ls]
theorem made_ok {ws : List Str} {ls : List (Str × Str)} (hn : ws.Nodup) (hp : ∀ w ∈ ws, w ∈ pool) (h2 : 2 ≤ ws.length) (h9 : ws.length ≤ 9) (lk : Lk ws ls) (hl : ls.length ≤ 16) :
    F_Web___init__ [.jar 0, .dat (.tup (ws.map D.str)), .dat (.tup (ls.map tieD))] [.obj "Web" [] []] = .ok .non [webD ws ls] := by
  have a1 := places_ok hn hp h2 h9
  have a2 := ties_ok hp lk hl
  simp -implicitDefEqProofs [F_Web___init__, g_Web___init__, a1, a2, putN, webD, netD]
end K30

namespace K30
open PySem L2 DL PySem.Spec PyProof.Rows
theorem ties_of {ws : List Str} {ls : List (Str × Str)} : F_Web_ties [.dat (webD ws ls)] [] = .ok (.tup (ls.map tieD)) [] := by
  simp -implicitDefEqProofs [F_Web_ties, g_Web_ties, webD, netD, fldD, lookD]
end K30

namespace K30
open PySem L2 DL PySem.Spec PyProof.Rows

/-! the typed defs -/
def t__law_is_int (p_value : Int) : Option Bool := some (true && (!false))
def tb1__law_touch (p_net_here : ((List Nm) × (List (Nm × Nm)))) (s17 : ((List (Int × Int)))) (a19 : Int) : Option ((List (Int × Int))) := ((((rngO2 (a19 + (1 : Int)) (p_net_here.2.length : Int)).bind fun v30 => (lcO v30 (fun (a21 : Int) => (((((atI p_net_here.2 a19).bind fun v24 => some [v24.1, v24.2]).bind fun v26 => (((atI p_net_here.2 a21).bind fun v25 => some [v25.1, v25.2]).bind fun v27 => (addL v26 v27))).bind fun v28 => (lenSetT v28)).bind fun v29 => some (eqv v29 (3 : Int)))) fun (a21 : Int) => (some (a19, a21)))).bind fun v31 => (addL s17 v31)).bind fun found_32 => some found_32)
def t__law_touch (p_net_here : ((List Nm) × (List (Nm × Nm)))) : Option (List (Int × Int)) := ((some ([] : List (Int × Int))).bind fun found_15 => ((rngO (p_net_here.2.length : Int)).bind fun v36 => ((foldT (tb1__law_touch p_net_here) v36 found_15).bind fun s33 => some s33)))
def t__law_stand (p_net_here : ((List Nm) × (List (Nm × Nm)))) (p_beats_here : (List Int)) : Option (List Int) := ((((t__law_touch p_net_here).bind fun v37 => some v37).bind fun v45 => (lcO v45 (fun (a38 : (Int × Int)) => (some true)) fun (a38 : (Int × Int)) => (((atI p_beats_here a38.1).bind fun v39 => ((atI p_beats_here a38.2).bind fun v40 => some (decide (v40 < v39)))).bind fun v43 => (((atI p_beats_here a38.1).bind fun v41 => ((atI p_beats_here a38.2).bind fun v42 => some (decide (v41 < v42)))).bind fun v44 => some (b2i v43 - b2i v44))))).bind fun v46 => some v46)
def t__law_stays (p_net_here : ((List Nm) × (List (Nm × Nm)))) (p_beats_here : (List Int)) (p_at : Int) (p_moment : Int) : Option Bool := (((((addL (cutL p_beats_here none (some p_at)) [p_moment]).bind fun v48 => (addL v48 (cutL p_beats_here (some (p_at + (1 : Int))) none))).bind fun v49 => (t__law_stand p_net_here v49)).bind fun v50 => ((t__law_stand p_net_here p_beats_here).bind fun v51 => some (eqv v50 v51))).bind fun v52 => some v52)
def t__law_tie_right (p_net_here : ((List Nm) × (List (Nm × Nm)))) (p_beats_here : (List Int)) (p_at : Int) (p_told : (Int × Int)) : Option Bool := ((if (!true) then some true else (if (!eqv ([p_told.1, p_told.2].length : Int) (2 : Int)) then some true else ((((lcO [p_told.1, p_told.2] (fun (a1 : Int) => (some true)) fun (a1 : Int) => (t__law_is_int a1)).bind fun v3 => some (v3.all id)).map fun v4 => v4).map (!·)))).bind fun v66 => (if v66 then some false else ((some p_told).bind fun v6 => (((if (decide ((0 : Int) ≤ v6.1)) then ((atI p_beats_here p_at).bind fun v7 => (if (decide (v6.1 ≤ v7)) then (if (decide (v7 ≤ v6.2)) then some (decide (v6.2 ≤ 1000000000000)) else some false) else some false)) else some false).map (!·)).bind fun v65 => (if v65 then some false else ((((((((fdivI (v6.1 + v6.2) (2 : Int)).bind fun v11 => ((((atI p_beats_here p_at).bind fun v9 => some (v6.1 + v9)).bind fun v10 => (fdivI v10 (2 : Int))).bind fun v12 => some [v6.1, v6.2, v11, v12])).bind fun v13 => some v13).bind fun v54 => (lcO v54 (fun (a14 : Int) => (some true)) fun (a14 : Int) => (t__law_stays p_net_here p_beats_here p_at a14))).bind fun v55 => some (v55.all id)).map fun v56 => v56).map (!·)).bind fun v64 => (if v64 then some false else ((if (decide ((0 : Int) < v6.1)) then ((t__law_stays p_net_here p_beats_here p_at (v6.1 - (1 : Int))).map fun v58 => v58) else some false).bind fun v63 => (if v63 then some false else ((if (eqv v6.2 1000000000000) then some true else ((t__law_stays p_net_here p_beats_here p_at (v6.2 + (1 : Int))).map (!·))).bind fun v61 => some v61))))))))))
def t_is_count (p_value : Int) : Option Bool := some (true && ((!false) && (decide ((0 : Int) ≤ p_value))))
def t_check_index (p_web : WebT) (p_index : Int) : Option Unit := (((((t_is_count p_index).map fun v69 => v69).map (!·)).bind fun v74 => (if v74 then some true else (((t_Web_ties p_web).bind fun v72 => some (v72.length : Int)).bind fun v73 => some (decide (v73 ≤ p_index))))).bind fun v75 => (if v75 then none else some ()))
def t_touch (p_web : WebT) (p_one : Int) (p_other : Int) : Option Bool := ((if (!eqv p_one p_other) then (((((t_Web_ties p_web).bind fun v86 => (atI v86 p_one)).bind fun v87 => some [v87.1, v87.2]).bind fun v92 => (lcO v92 (fun (a88 : Nm) => (some true)) fun (a88 : Nm) => ((((t_Web_ties p_web).bind fun v89 => (atI v89 p_other)).bind fun v90 => some [v90.1, v90.2]).bind fun v91 => some (memv a88 v91)))).bind fun v93 => some (v93.any id)) else some false).bind fun v94 => some v94)
def t_touching (p_web : WebT) (p_index : Int) : Option (List Int) := (((((t_Web_ties p_web).bind fun v83 => some (v83.length : Int)).bind fun v84 => (rngO v84)).bind fun v97 => (lcO v97 (fun (a85 : Int) => ((t_touch p_web p_index a85).map fun v96 => v96)) fun (a85 : Int) => (some a85))).bind fun v98 => some v98)
def t_slack (p_clock : ClockT) (p_index : Int) : Option (Int × Int) := ((t_check_clock p_clock).bind fun v67 => (((t_Clock_web p_clock).bind fun v78 => (t_check_index v78 p_index)).bind fun v79 => ((((t_Clock_times p_clock).bind fun v82 => (atI v82 p_index)).bind fun v105 => (((((t_Clock_web p_clock).bind fun v100 => (t_touching v100 p_index)).bind fun v101 => some v101).bind fun v104 => (lcO v104 (fun (a102 : Int) => (some true)) fun (a102 : Int) => ((t_Clock_times p_clock).bind fun v103 => (atI v103 a102)))).bind fun v106 => some (v105, v106))).bind fun v107 => (if (memv v107.1 v107.2) then some (v107.1, v107.1) else ((((lcP v107.2 (fun (a109 : Int) => (decide (a109 < v107.1))) fun (a109 : Int) => (a109 + (1 : Int))).bind fun v110 => (addL [(0 : Int)] v110)).bind fun v111 => (maxI v111)).bind fun low_112 => (((((lcP v107.2 (fun (a113 : Int) => (decide (v107.1 < a113))) fun (a113 : Int) => (a113 - (1 : Int))).bind fun v114 => (addL [(1000000000000 : Int)] v114)).bind fun v115 => (minI v115)).bind fun v116 => some (low_112, v116)).bind fun v117 => some v117))))))
/-! the mirrors give what these give -/
theorem r__law_is_int (p_value : Int) : ∀ r : Bool, t__law_is_int p_value = some r → F__law_is_int [.dat (eI p_value)] [] = .ok (eB r) [] :=
  fn_t (n := 1) (np := 1) (as := [.dat (eI p_value)]) (er := eB) (o := t__law_is_int p_value) (g := g__law_is_int) rfl ((b_one (b_retE (ea := eB) (g := fun (r2 : Bool) => r2) (tv_andP (tv_isT (h := fun (_ : Int) => true) (fun _ => rfl) (tv_var (enc := eI) (a := p_value) 0 rfl).r) (tv_not (tv_isT (h := fun (_ : Int) => false) (fun _ => rfl) (tv_var (enc := eI) (a := p_value) 0 rfl).r))).x (fun _ => ⟨rfl, .inl rfl⟩))) : B g__law_is_int ⟨[.dat (eI p_value)], []⟩ (RFn eB) _)
theorem r__law_touch (p_net_here : ((List Nm) × (List (Nm × Nm)))) : ∀ r : (List (Int × Int)), t__law_touch p_net_here = some r → F__law_touch [.dat ((eP (eT eS) (eT (eP eS eS))) p_net_here)] [] = .ok ((eL (eP eI eI)) r) [] :=
  fn_t (n := 4) (np := 1) (as := [.dat ((eP (eT eS) (eT (eP eS eS))) p_net_here)]) (er := (eL (eP eI eI))) (o := t__law_touch p_net_here) (g := g__law_touch) rfl ((b_asg (i := 1) (ea := (eL (eP eI eI))) (tc_lst0 (enc := (eP eI eI))).x (fun found_15 => ((b_fold (E := (fun (s17 : ((List (Int × Int)))) z18 => ⟨[.dat ((eP (eT eS) (eT (eP eS eS))) p_net_here), .dat ((eL (eP eI eI)) s17), pj (z18 2), .un], []⟩)) (s0 := found_15) (zl [some ((eP (eT eS) (eT (eP eS eS))) p_net_here), some ((eL (eP eI eI)) found_15), none, none]) (ti_rng1 (tv_cb1 fn_lenT (tv_ixc (ec := (eT (eP eS eS))) (h := fun (q16 : ((List Nm) × (List (Nm × Nm)))) => q16.2) (fun _ => rfl) (tv_var (enc := (eP (eT eS) (eT (eP eS eS)))) (a := p_net_here) 0 rfl).r).r)) rfl (fun a19 s17 z18 => ⟨⟨[.dat ((eP (eT eS) (eT (eP eS eS))) p_net_here), .dat ((eL (eP eI eI)) s17), .dat (eI a19), .un], []⟩, rfl, (b_one (b_asg (i := 1) (ea := (eL (eP eI eI))) (tv_op op_addL (tv_var (enc := (eL (eP eI eI))) (a := s17) 1 rfl).r (tc_lcO (eb := (eP eI eI)) (ea := eI) (p := fun (a21 : Int) => (((((atI p_net_here.2 a19).bind fun v24 => some [v24.1, v24.2]).bind fun v26 => (((atI p_net_here.2 a21).bind fun v25 => some [v25.1, v25.2]).bind fun v27 => (addL v26 v27))).bind fun v28 => (lenSetT v28)).bind fun v29 => some (eqv v29 (3 : Int)))) (h := fun (a21 : Int) => (some (a19, a21))) (fun (a21 : Int) => ⟨[.dat ((eP (eT eS) (eT (eP eS eS))) p_net_here), .dat ((eL (eP eI eI)) s17), .dat (eI a19), .dat (eI a21)], []⟩) (ti_rng2 (tv_op op_addI (tv_var (enc := eI) (a := a19) 2 rfl).r (tv_c (enc := eI) (a := 1) rfl).r) (tv_cb1 fn_lenT (tv_ixc (ec := (eT (eP eS eS))) (h := fun (q20 : ((List Nm) × (List (Nm × Nm)))) => q20.2) (fun _ => rfl) (tv_var (enc := (eP (eT eS) (eT (eP eS eS)))) (a := p_net_here) 0 rfl).r).r)) rfl (fun _ => ⟨rfl, rfl⟩) (fun a21 => (tb_test (tv_op (op_eq eq_I) (tv_cb1 fn_lenSet (tv_op op_addT (tr_PT (tv_op op_ixT (tv_ixc (ec := (eT (eP eS eS))) (h := fun (q22 : ((List Nm) × (List (Nm × Nm)))) => q22.2) (fun _ => rfl) (tv_var (enc := (eP (eT eS) (eT (eP eS eS)))) (a := p_net_here) 0 rfl).r).r (tv_var (enc := eI) (a := a19) 2 rfl).r).r) (tr_PT (tv_op op_ixT (tv_ixc (ec := (eT (eP eS eS))) (h := fun (q23 : ((List Nm) × (List (Nm × Nm)))) => q23.2) (fun _ => rfl) (tv_var (enc := (eP (eT eS) (eT (eP eS eS)))) (a := p_net_here) 0 rfl).r).r (tv_var (enc := eI) (a := a21) 3 rfl).r).r)).r).r (tv_c (enc := eI) (a := 3) rfl).r))) (fun a21 => (tc_pair (tv_var (enc := eI) (a := a19) 2 rfl).fz (tv_var (enc := eI) (a := a21) 3 rfl).fz).x)).r).x (fun found_32 => ((b_nx (x := found_32) ⟨.inl rfl, (zl [some ((eP (eT eS) (eT (eP eS eS))) p_net_here), some ((eL (eP eI eI)) found_32), some (eI a19), none]), rfl⟩) : B _ ⟨[.dat ((eP (eT eS) (eT (eP eS eS))) p_net_here), .dat ((eL (eP eI eI)) found_32), .dat (eI a19), .un], []⟩ _ _))))⟩) (fun s33 z34 => ((b_one (b_retE (ea := (eL (eP eI eI))) (g := fun (r35 : (List (Int × Int))) => r35) (tv_var (enc := (eL (eP eI eI))) (a := s33) 1 rfl).x (fun _ => ⟨rfl, .inl rfl⟩))) : B _ ⟨[.dat ((eP (eT eS) (eT (eP eS eS))) p_net_here), .dat ((eL (eP eI eI)) s33), pj (z34 2), .un], []⟩ _ _))) : B _ ⟨[.dat ((eP (eT eS) (eT (eP eS eS))) p_net_here), .dat ((eL (eP eI eI)) found_15), .un, .un], []⟩ _ _))) : B g__law_touch ⟨[.dat ((eP (eT eS) (eT (eP eS eS))) p_net_here), .un, .un, .un], []⟩ (RFn (eL (eP eI eI))) _)
theorem r__law_stand (p_net_here : ((List Nm) × (List (Nm × Nm)))) (p_beats_here : (List Int)) : ∀ r : (List Int), t__law_stand p_net_here p_beats_here = some r → F__law_stand [.dat ((eP (eT eS) (eT (eP eS eS))) p_net_here), .dat ((eT eI) p_beats_here)] [] = .ok ((eL eI) r) [] :=
  fn_t (n := 4) (np := 2) (as := [.dat ((eP (eT eS) (eT (eP eS eS))) p_net_here), .dat ((eT eI) p_beats_here)]) (er := (eL eI)) (o := t__law_stand p_net_here p_beats_here) (g := g__law_stand) rfl ((b_one (b_retE (ea := (eL eI)) (g := fun (r47 : (List Int)) => r47) (tc_lcO (eb := eI) (ea := (eP eI eI)) (p := fun (a38 : (Int × Int)) => (some true)) (h := fun (a38 : (Int × Int)) => (((atI p_beats_here a38.1).bind fun v39 => ((atI p_beats_here a38.2).bind fun v40 => some (decide (v40 < v39)))).bind fun v43 => (((atI p_beats_here a38.1).bind fun v41 => ((atI p_beats_here a38.2).bind fun v42 => some (decide (v41 < v42)))).bind fun v44 => some (b2i v43 - b2i v44)))) (fun (a38 : (Int × Int)) => ⟨[.dat ((eP (eT eS) (eT (eP eS eS))) p_net_here), .dat ((eT eI) p_beats_here), .dat (eI a38.1), .dat (eI a38.2)], []⟩) (ti_L (tc_call1 r__law_touch (tv_var (enc := (eP (eT eS) (eT (eP eS eS)))) (a := p_net_here) 0 rfl).fz).x) rfl (fun _ => ⟨rfl, rfl⟩) (fun a38 => tb_yes) (fun a38 => (tv_op op_subB (tv_op op_gtI (tv_op op_ixT (tv_var (enc := (eT eI)) (a := p_beats_here) 1 rfl).r (tv_var (enc := eI) (a := a38.1) 2 rfl).r).r (tv_op op_ixT (tv_var (enc := (eT eI)) (a := p_beats_here) 1 rfl).r (tv_var (enc := eI) (a := a38.2) 3 rfl).r).r).r (tv_op op_ltI (tv_op op_ixT (tv_var (enc := (eT eI)) (a := p_beats_here) 1 rfl).r (tv_var (enc := eI) (a := a38.1) 2 rfl).r).r (tv_op op_ixT (tv_var (enc := (eT eI)) (a := p_beats_here) 1 rfl).r (tv_var (enc := eI) (a := a38.2) 3 rfl).r).r).r).x)).x (fun _ => ⟨rfl, .inl rfl⟩))) : B g__law_stand ⟨[.dat ((eP (eT eS) (eT (eP eS eS))) p_net_here), .dat ((eT eI) p_beats_here), .un, .un], []⟩ (RFn (eL eI)) _)
theorem r__law_stays (p_net_here : ((List Nm) × (List (Nm × Nm)))) (p_beats_here : (List Int)) (p_at : Int) (p_moment : Int) : ∀ r : Bool, t__law_stays p_net_here p_beats_here p_at p_moment = some r → F__law_stays [.dat ((eP (eT eS) (eT (eP eS eS))) p_net_here), .dat ((eT eI) p_beats_here), .dat (eI p_at), .dat (eI p_moment)] [] = .ok (eB r) [] :=
  fn_t (n := 4) (np := 4) (as := [.dat ((eP (eT eS) (eT (eP eS eS))) p_net_here), .dat ((eT eI) p_beats_here), .dat (eI p_at), .dat (eI p_moment)]) (er := eB) (o := t__law_stays p_net_here p_beats_here p_at p_moment) (g := g__law_stays) rfl ((b_one (b_retE (ea := eB) (g := fun (r53 : Bool) => r53) (tv_op (op_eq (eq_L eq_I)) (tc_call2 r__law_stand (tv_var (enc := (eP (eT eS) (eT (eP eS eS)))) (a := p_net_here) 0 rfl).fz (tv_op op_addT (tv_op op_addT (tv_sl (h := cutL) slT (tv_var (enc := (eT eI)) (a := p_beats_here) 1 rfl).r tp_none (tp_some (tv_var (enc := eI) (a := p_at) 2 rfl))).r (tc_tup1 (tv_var (enc := eI) (a := p_moment) 3 rfl).fz).r).r (tv_sl (h := cutL) slT (tv_var (enc := (eT eI)) (a := p_beats_here) 1 rfl).r (tp_some (tv_op op_addI (tv_var (enc := eI) (a := p_at) 2 rfl).r (tv_c (enc := eI) (a := 1) rfl).r)) tp_none).r).fz).r (tc_call2 r__law_stand (tv_var (enc := (eP (eT eS) (eT (eP eS eS)))) (a := p_net_here) 0 rfl).fz (tv_var (enc := (eT eI)) (a := p_beats_here) 1 rfl).fz).r).x (fun _ => ⟨rfl, .inl rfl⟩))) : B g__law_stays ⟨[.dat ((eP (eT eS) (eT (eP eS eS))) p_net_here), .dat ((eT eI) p_beats_here), .dat (eI p_at), .dat (eI p_moment)], []⟩ (RFn eB) _)
theorem r__law_tie_right (p_net_here : ((List Nm) × (List (Nm × Nm)))) (p_beats_here : (List Int)) (p_at : Int) (p_told : (Int × Int)) : ∀ r : Bool, t__law_tie_right p_net_here p_beats_here p_at p_told = some r → F__law_tie_right [.dat ((eP (eT eS) (eT (eP eS eS))) p_net_here), .dat ((eT eI) p_beats_here), .dat (eI p_at), .dat ((eP eI eI) p_told)] [] = .ok (eB r) [] :=
  fn_t (n := 8) (np := 4) (as := [.dat ((eP (eT eS) (eT (eP eS eS))) p_net_here), .dat ((eT eI) p_beats_here), .dat (eI p_at), .dat ((eP eI eI) p_told)]) (er := eB) (o := t__law_tie_right p_net_here p_beats_here p_at p_told) (g := g__law_tie_right) rfl ((b_if (tb_or (tb_not (tb_tru tru_B (tv_isT (h := fun (_ : (Int × Int)) => true) (fun _ => rfl) (tv_var (enc := (eP eI eI)) (a := p_told) 3 rfl).r).r)) (tb_or (tb_test (tv_op (op_ne eq_I) (tv_cb1 fn_lenT (tr_PT (tv_var (enc := (eP eI eI)) (a := p_told) 3 rfl).r)).r (tv_c (enc := eI) (a := 2) rfl).r)) (tb_not (tb_tru tru_B (tv_cb1 fn_all (tc_lcO (eb := eB) (ea := eI) (p := fun (a1 : Int) => (some true)) (h := fun (a1 : Int) => (t__law_is_int a1)) (fun (a1 : Int) => ⟨[.dat ((eP (eT eS) (eT (eP eS eS))) p_net_here), .dat ((eT eI) p_beats_here), .dat (eI p_at), .dat ((eP eI eI) p_told), .dat (eI a1), .un, .un, .un], []⟩) (ti_P (tv_var (enc := (eP eI eI)) (a := p_told) 3 rfl).x) rfl (fun _ => ⟨rfl, rfl⟩) (fun a1 => tb_yes) (fun a1 => (tc_call1 r__law_is_int (tv_var (enc := eI) (a := a1) 4 rfl).fz).x)).r).r)))) (b_retE (ea := eB) (g := fun (r5 : Bool) => r5) (tv_c (enc := eB) (a := false) rfl).x (fun _ => ⟨rfl, .inl rfl⟩)) (b_skip (b_asgT (i := 5) (i2 := 6) (tv_var (enc := (eP eI eI)) (a := p_told) 3 rfl).x (fun v6 => ((b_if (tb_not (tb_chainN (tv_c (enc := eI) (a := 0) rfl).r (tch_link op_leI (tv_var (enc := eI) (a := v6.1) 5 rfl).r (tch_link op_leI (tv_op op_ixT (tv_var (enc := (eT eI)) (a := p_beats_here) 1 rfl).r (tv_var (enc := eI) (a := p_at) 2 rfl).r).r (tch_link op_leI (tv_var (enc := eI) (a := v6.2) 6 rfl).r (tch_last op_leI (tv_pow (by rfl)).r)))))) (b_retE (ea := eB) (g := fun (r8 : Bool) => r8) (tv_c (enc := eB) (a := false) rfl).x (fun _ => ⟨rfl, .inl rfl⟩)) (b_skip (b_if (tb_not (tb_tru tru_B (tv_cb1 fn_all (tc_lcO (eb := eB) (ea := eI) (p := fun (a14 : Int) => (some true)) (h := fun (a14 : Int) => (t__law_stays p_net_here p_beats_here p_at a14)) (fun (a14 : Int) => ⟨[.dat ((eP (eT eS) (eT (eP eS eS))) p_net_here), .dat ((eT eI) p_beats_here), .dat (eI p_at), .dat ((eP eI eI) p_told), .un, .dat (eI v6.1), .dat (eI v6.2), .dat (eI a14)], []⟩) (ti_L (tc_lst4 (tv_var (enc := eI) (a := v6.1) 5 rfl).fz (tv_var (enc := eI) (a := v6.2) 6 rfl).fz (tv_op op_fdivI (tv_cb1 fn_int (tv_op op_addI (tv_var (enc := eI) (a := v6.1) 5 rfl).r (tv_var (enc := eI) (a := v6.2) 6 rfl).r).r).r (tv_c (enc := eI) (a := 2) rfl).r).fz (tv_op op_fdivI (tv_op op_addI (tv_var (enc := eI) (a := v6.1) 5 rfl).r (tv_op op_ixT (tv_var (enc := (eT eI)) (a := p_beats_here) 1 rfl).r (tv_var (enc := eI) (a := p_at) 2 rfl).r).r).r (tv_c (enc := eI) (a := 2) rfl).r).fz).x) rfl (fun _ => ⟨rfl, rfl⟩) (fun a14 => tb_yes) (fun a14 => (tc_call4 r__law_stays (tv_var (enc := (eP (eT eS) (eT (eP eS eS)))) (a := p_net_here) 0 rfl).fz (tv_var (enc := (eT eI)) (a := p_beats_here) 1 rfl).fz (tv_var (enc := eI) (a := p_at) 2 rfl).fz (tv_var (enc := eI) (a := a14) 7 rfl).fz).x)).r).r)) (b_retE (ea := eB) (g := fun (r57 : Bool) => r57) (tv_c (enc := eB) (a := false) rfl).x (fun _ => ⟨rfl, .inl rfl⟩)) (b_skip (b_if (tb_and (tb_test (tv_op op_gtI (tv_var (enc := eI) (a := v6.1) 5 rfl).r (tv_c (enc := eI) (a := 0) rfl).r)) (tb_tru tru_B (tc_call4 r__law_stays (tv_var (enc := (eP (eT eS) (eT (eP eS eS)))) (a := p_net_here) 0 rfl).fz (tv_var (enc := (eT eI)) (a := p_beats_here) 1 rfl).fz (tv_var (enc := eI) (a := p_at) 2 rfl).fz (tv_op op_subI (tv_var (enc := eI) (a := v6.1) 5 rfl).r (tv_c (enc := eI) (a := 1) rfl).r).fz).r)) (b_retE (ea := eB) (g := fun (r59 : Bool) => r59) (tv_c (enc := eB) (a := false) rfl).x (fun _ => ⟨rfl, .inl rfl⟩)) (b_skip (b_one (b_retE (ea := eB) (g := fun (r62 : Bool) => r62) (tv_or (tv_op (op_eq eq_I) (tv_var (enc := eI) (a := v6.2) 6 rfl).r (tv_pow (by rfl)).r) (tv_not (tc_call4 r__law_stays (tv_var (enc := (eP (eT eS) (eT (eP eS eS)))) (a := p_net_here) 0 rfl).fz (tv_var (enc := (eT eI)) (a := p_beats_here) 1 rfl).fz (tv_var (enc := eI) (a := p_at) 2 rfl).fz (tv_op op_addI (tv_var (enc := eI) (a := v6.2) 6 rfl).r (tv_c (enc := eI) (a := 1) rfl).r).fz))).x (fun _ => ⟨rfl, .inl rfl⟩))))))))) : B _ ⟨[.dat ((eP (eT eS) (eT (eP eS eS))) p_net_here), .dat ((eT eI) p_beats_here), .dat (eI p_at), .dat ((eP eI eI) p_told), .un, .dat (eI v6.1), .dat (eI v6.2), .un], []⟩ _ _))))) : B g__law_tie_right ⟨[.dat ((eP (eT eS) (eT (eP eS eS))) p_net_here), .dat ((eT eI) p_beats_here), .dat (eI p_at), .dat ((eP eI eI) p_told), .un, .un, .un, .un], []⟩ (RFn eB) _)
theorem r_check_clock (p_value : ClockT) : ∀ r : Unit, t_check_clock p_value = some r → F_check_clock [.dat (eC p_value)] [] = .ok (eU r) [] :=
  fn_t (n := 1) (np := 1) (as := [.dat (eC p_value)]) (er := eU) (o := t_check_clock p_value) (g := g_check_clock) rfl ((b_one (b_if (tb_not (tb_tru tru_B (tv_isC (h := fun (_ : ClockT) => true) (fun _ => rfl) (tv_var (enc := eC) (a := p_value) 0 rfl).r).r)) (b_bad) (b_skip (b_nx (x := ()) ⟨rfl, .inr ⟨rfl, rfl⟩⟩)))) : B g_check_clock ⟨[.dat (eC p_value)], []⟩ (RFn eU) _)
theorem r_is_count (p_value : Int) : ∀ r : Bool, t_is_count p_value = some r → F_is_count [.dat (eI p_value)] [] = .ok (eB r) [] :=
  fn_t (n := 1) (np := 1) (as := [.dat (eI p_value)]) (er := eB) (o := t_is_count p_value) (g := g_is_count) rfl ((b_one (b_retE (ea := eB) (g := fun (r68 : Bool) => r68) (tv_andP (tv_isT (h := fun (_ : Int) => true) (fun _ => rfl) (tv_var (enc := eI) (a := p_value) 0 rfl).r) (tv_andP (tv_not (tv_isT (h := fun (_ : Int) => false) (fun _ => rfl) (tv_var (enc := eI) (a := p_value) 0 rfl).r)) (tv_op op_geI (tv_var (enc := eI) (a := p_value) 0 rfl).r (tv_c (enc := eI) (a := 0) rfl).r))).x (fun _ => ⟨rfl, .inl rfl⟩))) : B g_is_count ⟨[.dat (eI p_value)], []⟩ (RFn eB) _)
theorem r_Web_ties (p_self : WebT) : ∀ r : (List (Nm × Nm)), t_Web_ties p_self = some r → F_Web_ties [.dat (eW p_self)] [] = .ok ((eT (eP eS eS)) r) [] :=
  fn_t (n := 1) (np := 1) (as := [.dat (eW p_self)]) (er := (eT (eP eS eS))) (o := t_Web_ties p_self) (g := g_Web_ties) rfl ((b_one (b_retE (ea := (eT (eP eS eS))) (g := fun (r71 : (List (Nm × Nm))) => r71) (tv_ixc (ec := (eT (eP eS eS))) (h := fun (q70 : ((List Nm) × (List (Nm × Nm)))) => q70.2) (fun _ => rfl) (tv_fld (ec := (eP (eT eS) (eT (eP eS eS)))) (h := fun (q : WebT) => q) (fun _ => rfl) (tv_var (enc := eW) (a := p_self) 0 rfl).r).r).x (fun _ => ⟨rfl, .inl rfl⟩))) : B g_Web_ties ⟨[.dat (eW p_self)], []⟩ (RFn (eT (eP eS eS))) _)
theorem r_check_index (p_web : WebT) (p_index : Int) : ∀ r : Unit, t_check_index p_web p_index = some r → F_check_index [.dat (eW p_web), .dat (eI p_index)] [] = .ok (eU r) [] :=
  fn_t (n := 2) (np := 2) (as := [.dat (eW p_web), .dat (eI p_index)]) (er := eU) (o := t_check_index p_web p_index) (g := g_check_index) rfl ((b_one (b_if (tb_or (tb_not (tb_tru tru_B (tc_call1 r_is_count (tv_var (enc := eI) (a := p_index) 1 rfl).fz).r)) (tb_test (tv_op op_geI (tv_var (enc := eI) (a := p_index) 1 rfl).r (tv_cb1 fn_lenT (tv_prop isC_Web r_Web_ties (tv_var (enc := eW) (a := p_web) 0 rfl)).r).r))) (b_bad) (b_skip (b_nx (x := ()) ⟨rfl, .inr ⟨rfl, rfl⟩⟩)))) : B g_check_index ⟨[.dat (eW p_web), .dat (eI p_index)], []⟩ (RFn eU) _)
theorem r_Clock_web (p_self : ClockT) : ∀ r : WebT, t_Clock_web p_self = some r → F_Clock_web [.dat (eC p_self)] [] = .ok (eW r) [] :=
  fn_t (n := 1) (np := 1) (as := [.dat (eC p_self)]) (er := eW) (o := t_Clock_web p_self) (g := g_Clock_web) rfl ((b_one (b_retE (ea := eW) (g := fun (r77 : WebT) => r77) (tv_ixc (ec := eW) (h := fun (q76 : (WebT × (List Int))) => q76.1) (fun _ => rfl) (tv_fld (ec := (eP eW (eT eI))) (h := fun (q : ClockT) => q) (fun _ => rfl) (tv_var (enc := eC) (a := p_self) 0 rfl).r).r).x (fun _ => ⟨rfl, .inl rfl⟩))) : B g_Clock_web ⟨[.dat (eC p_self)], []⟩ (RFn eW) _)
theorem r_Clock_times (p_self : ClockT) : ∀ r : (List Int), t_Clock_times p_self = some r → F_Clock_times [.dat (eC p_self)] [] = .ok ((eT eI) r) [] :=
  fn_t (n := 1) (np := 1) (as := [.dat (eC p_self)]) (er := (eT eI)) (o := t_Clock_times p_self) (g := g_Clock_times) rfl ((b_one (b_retE (ea := (eT eI)) (g := fun (r81 : (List Int)) => r81) (tv_ixc (ec := (eT eI)) (h := fun (q80 : (WebT × (List Int))) => q80.2) (fun _ => rfl) (tv_fld (ec := (eP eW (eT eI))) (h := fun (q : ClockT) => q) (fun _ => rfl) (tv_var (enc := eC) (a := p_self) 0 rfl).r).r).x (fun _ => ⟨rfl, .inl rfl⟩))) : B g_Clock_times ⟨[.dat (eC p_self)], []⟩ (RFn (eT eI)) _)
theorem r_touch (p_web : WebT) (p_one : Int) (p_other : Int) : ∀ r : Bool, t_touch p_web p_one p_other = some r → F_touch [.dat (eW p_web), .dat (eI p_one), .dat (eI p_other)] [] = .ok (eB r) [] :=
  fn_t (n := 4) (np := 3) (as := [.dat (eW p_web), .dat (eI p_one), .dat (eI p_other)]) (er := eB) (o := t_touch p_web p_one p_other) (g := g_touch) rfl ((b_one (b_retE (ea := eB) (g := fun (r95 : Bool) => r95) (tv_and (tv_op (op_ne eq_I) (tv_var (enc := eI) (a := p_one) 1 rfl).r (tv_var (enc := eI) (a := p_other) 2 rfl).r) (tv_cb1 fn_any (tc_lcO (eb := eB) (ea := eS) (p := fun (a88 : Nm) => (some true)) (h := fun (a88 : Nm) => ((((t_Web_ties p_web).bind fun v89 => (atI v89 p_other)).bind fun v90 => some [v90.1, v90.2]).bind fun v91 => some (memv a88 v91))) (fun (a88 : Nm) => ⟨[.dat (eW p_web), .dat (eI p_one), .dat (eI p_other), .dat (eS a88)], []⟩) (ti_P (tv_op op_ixT (tv_prop isC_Web r_Web_ties (tv_var (enc := eW) (a := p_web) 0 rfl)).r (tv_var (enc := eI) (a := p_one) 1 rfl).r).x) rfl (fun _ => ⟨rfl, rfl⟩) (fun a88 => tb_yes) (fun a88 => (tv_op (op_inT eq_S) (tv_var (enc := eS) (a := a88) 3 rfl).r (tr_PT (tv_op op_ixT (tv_prop isC_Web r_Web_ties (tv_var (enc := eW) (a := p_web) 0 rfl)).r (tv_var (enc := eI) (a := p_other) 2 rfl).r).r)).x)).r)).x (fun _ => ⟨rfl, .inl rfl⟩))) : B g_touch ⟨[.dat (eW p_web), .dat (eI p_one), .dat (eI p_other), .un], []⟩ (RFn eB) _)
theorem r_touching (p_web : WebT) (p_index : Int) : ∀ r : (List Int), t_touching p_web p_index = some r → F_touching [.dat (eW p_web), .dat (eI p_index)] [] = .ok ((eL eI) r) [] :=
  fn_t (n := 3) (np := 2) (as := [.dat (eW p_web), .dat (eI p_index)]) (er := (eL eI)) (o := t_touching p_web p_index) (g := g_touching) rfl ((b_one (b_retE (ea := (eL eI)) (g := fun (r99 : (List Int)) => r99) (tc_lcO (eb := eI) (ea := eI) (p := fun (a85 : Int) => ((t_touch p_web p_index a85).map fun v96 => v96)) (h := fun (a85 : Int) => (some a85)) (fun (a85 : Int) => ⟨[.dat (eW p_web), .dat (eI p_index), .dat (eI a85)], []⟩) (ti_rng1 (tv_cb1 fn_lenT (tv_prop isC_Web r_Web_ties (tv_var (enc := eW) (a := p_web) 0 rfl)).r)) rfl (fun _ => ⟨rfl, rfl⟩) (fun a85 => (tb_tru tru_B (tc_call3 r_touch (tv_var (enc := eW) (a := p_web) 0 rfl).fz (tv_var (enc := eI) (a := p_index) 1 rfl).fz (tv_var (enc := eI) (a := a85) 2 rfl).fz).r)) (fun a85 => (tv_var (enc := eI) (a := a85) 2 rfl).x)).x (fun _ => ⟨rfl, .inl rfl⟩))) : B g_touching ⟨[.dat (eW p_web), .dat (eI p_index), .un], []⟩ (RFn (eL eI)) _)
theorem r_slack (p_clock : ClockT) (p_index : Int) : ∀ r : (Int × Int), t_slack p_clock p_index = some r → F_slack [.dat (eC p_clock), .dat (eI p_index)] [] = .ok ((eP eI eI) r) [] :=
  fn_t (n := 7) (np := 2) (as := [.dat (eC p_clock), .dat (eI p_index)]) (er := (eP eI eI)) (o := t_slack p_clock p_index) (g := g_slack) rfl ((b_expr (tc_call1 r_check_clock (tv_var (enc := eC) (a := p_clock) 0 rfl).fz) (fun v67 => ((b_expr (tc_call2 r_check_index (tv_prop isC_Clock r_Clock_web (tv_var (enc := eC) (a := p_clock) 0 rfl)).fz (tv_var (enc := eI) (a := p_index) 1 rfl).fz) (fun v79 => ((b_asgT (i := 2) (i2 := 3) (tc_pair (tv_op op_ixT (tv_prop isC_Clock r_Clock_times (tv_var (enc := eC) (a := p_clock) 0 rfl)).r (tv_var (enc := eI) (a := p_index) 1 rfl).r).fz (tc_lcO (eb := eI) (ea := eI) (p := fun (a102 : Int) => (some true)) (h := fun (a102 : Int) => ((t_Clock_times p_clock).bind fun v103 => (atI v103 a102))) (fun (a102 : Int) => ⟨[.dat (eC p_clock), .dat (eI p_index), .un, .un, .dat (eI a102), .un, .un], []⟩) (ti_L (tc_call2 r_touching (tv_prop isC_Clock r_Clock_web (tv_var (enc := eC) (a := p_clock) 0 rfl)).fz (tv_var (enc := eI) (a := p_index) 1 rfl).fz).x) rfl (fun _ => ⟨rfl, rfl⟩) (fun a102 => tb_yes) (fun a102 => (tv_op op_ixT (tv_prop isC_Clock r_Clock_times (tv_var (enc := eC) (a := p_clock) 0 rfl)).r (tv_var (enc := eI) (a := a102) 4 rfl).r).x)).fz).x (fun v107 => ((b_if (tb_test (tv_op (op_inL eq_I) (tv_var (enc := eI) (a := v107.1) 2 rfl).r (tv_var (enc := (eL eI)) (a := v107.2) 3 rfl).r)) (b_retE (ea := (eP eI eI)) (g := fun (r108 : (Int × Int)) => r108) (tc_pair (tv_var (enc := eI) (a := v107.1) 2 rfl).fz (tv_var (enc := eI) (a := v107.1) 2 rfl).fz).x (fun _ => ⟨rfl, .inl rfl⟩)) (b_skip (b_asg (i := 5) (ea := eI) (tv_cb1 fn_maxL (tv_op op_addL (tc_lst1 (tv_c (enc := eI) (a := 0) rfl).fz).r (tc_lcP (eb := eI) (ea := eI) (p := fun (a109 : Int) => (decide (a109 < v107.1))) (h := fun (a109 : Int) => (a109 + (1 : Int))) (fun (a109 : Int) => ⟨[.dat (eC p_clock), .dat (eI p_index), .dat (eI v107.1), .dat ((eL eI) v107.2), .un, .un, .dat (eI a109)], []⟩) (ti_L (tv_var (enc := (eL eI)) (a := v107.2) 3 rfl).x) rfl (fun _ => ⟨rfl, rfl⟩) (fun a109 => (tb_test (tv_op op_ltI (tv_var (enc := eI) (a := a109) 6 rfl).r (tv_var (enc := eI) (a := v107.1) 2 rfl).r))) (fun a109 => (tv_op op_addI (tv_var (enc := eI) (a := a109) 6 rfl).r (tv_c (enc := eI) (a := 1) rfl).r).x)).r).r).x (fun low_112 => ((b_one (b_retE (ea := (eP eI eI)) (g := fun (r118 : (Int × Int)) => r118) (tc_pair (tv_var (enc := eI) (a := low_112) 5 rfl).fz (tv_cb1 fn_minL (tv_op op_addL (tc_lst1 (tv_c (enc := eI) (a := 1000000000000) rfl).fz).r (tc_lcP (eb := eI) (ea := eI) (p := fun (a113 : Int) => (decide (v107.1 < a113))) (h := fun (a113 : Int) => (a113 - (1 : Int))) (fun (a113 : Int) => ⟨[.dat (eC p_clock), .dat (eI p_index), .dat (eI v107.1), .dat ((eL eI) v107.2), .un, .dat (eI low_112), .dat (eI a113)], []⟩) (ti_L (tv_var (enc := (eL eI)) (a := v107.2) 3 rfl).x) rfl (fun _ => ⟨rfl, rfl⟩) (fun a113 => (tb_test (tv_op op_gtI (tv_var (enc := eI) (a := a113) 6 rfl).r (tv_var (enc := eI) (a := v107.1) 2 rfl).r))) (fun a113 => (tv_op op_subI (tv_var (enc := eI) (a := a113) 6 rfl).r (tv_c (enc := eI) (a := 1) rfl).r).x)).r).r).fz).x (fun _ => ⟨rfl, .inl rfl⟩))) : B _ ⟨[.dat (eC p_clock), .dat (eI p_index), .dat (eI v107.1), .dat ((eL eI) v107.2), .un, .dat (eI low_112), .un], []⟩ _ _))))) : B _ ⟨[.dat (eC p_clock), .dat (eI p_index), .dat (eI v107.1), .dat ((eL eI) v107.2), .un, .un, .un], []⟩ _ _))) : B _ ⟨[.dat (eC p_clock), .dat (eI p_index), .un, .un, .un, .un, .un], []⟩ _ _))) : B _ ⟨[.dat (eC p_clock), .dat (eI p_index), .un, .un, .un, .un, .un], []⟩ _ _))) : B g_slack ⟨[.dat (eC p_clock), .dat (eI p_index), .un, .un, .un, .un, .un], []⟩ (RFn (eP eI eI)) _)
end K30

namespace K30
open PySem PySem.Spec PyProof.Rows L2 DL TN
section
variable {n : WebT} {ts : List Int}
/-! touching ties -/
def tch (p q : Nm × Nm) : Bool := decide (p.1 = q.1 ∨ p.1 = q.2 ∨ p.2 = q.1 ∨ p.2 = q.2)
theorem tch_comm (p q : Nm × Nm) : tch p q = tch q p := by
  unfold tch
  exact decide_eq_decide.mpr ⟨fun h => by
    rcases h with h | h | h | h
    · exact .inl h.symm
    · exact .inr (.inr (.inl h.symm))
    · exact .inr (.inl h.symm)
    · exact .inr (.inr (.inr h.symm)), fun h => by
    rcases h with h | h | h | h
    · exact .inl h.symm
    · exact .inr (.inr (.inl h.symm))
    · exact .inr (.inl h.symm)
    · exact .inr (.inr (.inr h.symm))⟩
theorem nub_four {a b c d : Str} (h1 : a ≠ b) (h2 : c ≠ d) (h3 : ¬(c = a ∧ d = b)) (h4 : ¬(c = b ∧ d = a)) : (nub [a, b, c, d]).length = 3 ↔ (a = c ∨ a = d ∨ b = c ∨ b = d) := by
  by_cases e1 : a = c
  · subst e1
    have e2 : b ≠ d := fun z => h3 ⟨rfl, z.symm⟩
    simp [nub, nubs, h1, h2, e2]
  · by_cases e2 : a = d
    · subst e2
      have e3 : b ≠ c := fun z => h4 ⟨z.symm, rfl⟩
      simp [nub, nubs, h1, h2, e1, e3]
    · by_cases e3 : b = c
      · subst e3
        simp [nub, nubs, h1, h2, e1, e2]
      · by_cases e4 : b = d
        · subst e4
          simp [nub, nubs, h1, h2, e1, e2, e3]
        · simp [nub, nubs, h1, h2, e1, e2, e3, e4]
theorem set_four {p q : Nm × Nm} (hp : p.1 ≠ p.2) (hq : q.1 ≠ q.2) (h1 : q ≠ p) (h2 : q ≠ p.swap) : ∃ k : Int, lenSetT ([p.1, p.2] ++ [q.1, q.2]) = some k ∧ eqv k 3 = tch p q := by
  obtain ⟨a, b⟩ := p
  obtain ⟨c, d⟩ := q
  refine ⟨_, if_pos (by simp), ?_⟩
  have := nub_four (a := a.1) (b := b.1) (c := c.1) (d := d.1) (fun z => hp (Subtype.ext z)) (fun z => hq (Subtype.ext z)) (fun z => h1 (Prod.ext (Subtype.ext z.1) (Subtype.ext z.2))) (fun z => h2 (Prod.ext (Subtype.ext z.1) (Subtype.ext z.2)))
  unfold eqv tch
  refine decide_eq_decide.mpr ?_
  simp only [Subtype.ext_iff]
  rw [← this]
  show ((nub [a.1, b.1, c.1, d.1]).length : Int) = 3 ↔ _
  omega
def nm0 : Nm := ⟨"a", by decide +kernel⟩
def tie (n : WebT) (k : Nat) : Nm × Nm := (n.2[k]?).getD (nm0, nm0)
theorem tie_at {k : Nat} (hk : k < n.2.length) : atI n.2 (k : Int) = some (tie n k) := by
  rw [TN.atI_nat]
  unfold tie
  rw [List.getElem?_eq_getElem hk]
  rfl
theorem tie_get {k : Nat} (hk : k < n.2.length) : n.2[k] = tie n k := by
  unfold tie
  rw [List.getElem?_eq_getElem hk]
  rfl
theorem tie_ne (W : GW n) {k : Nat} (hk : k < n.2.length) : (tie n k).1 ≠ (tie n k).2 := by
  rw [← tie_get hk]
  exact (W.lk.on _ (List.getElem_mem _)).2.2
theorem tie_dif (W : GW n) {k m : Nat} (hk : k < m) (hm : m < n.2.length) : tie n m ≠ tie n k ∧ tie n m ≠ (tie n k).swap := by
  rw [← tie_get hm, ← tie_get (Nat.lt_trans hk hm)]
  exact List.pairwise_iff_getElem.mp W.lk.dif k m _ hm hk
/-- law: the touching pairs -/
def above (n : WebT) (k : Nat) : List Nat := ((List.range (n.2.length - (k + 1))).map fun i => k + 1 + i).filter fun m => tch (tie n k) (tie n m)
def TL (n : WebT) : List (Nat × Nat) := (List.range n.2.length).flatMap fun k => (above n k).map fun m => (k, m)
theorem mem_TL {p : Nat × Nat} : p ∈ TL n ↔ p.1 < p.2 ∧ p.2 < n.2.length ∧ tch (tie n p.1) (tie n p.2) = true := by
  obtain ⟨k, m⟩ := p
  unfold TL above
  simp only [List.mem_flatMap, List.mem_map, List.mem_filter, List.mem_range, Prod.mk.injEq]
  constructor
  · rintro ⟨k', hk, m', ⟨⟨i, hi, rfl⟩, ht⟩, rfl, rfl⟩
    exact ⟨by omega, by omega, ht⟩
  · rintro ⟨h1, h2, h3⟩
    exact ⟨k, by omega, m, ⟨⟨m - (k + 1), by omega, by omega⟩, h3⟩, rfl, rfl⟩
theorem range2 {k m : Nat} (hm : m < 4611686018427387904) (hk : k < 4611686018427387904) : rngO2 (k : Int) (m : Int) = some (((List.range (m - k)).map fun i => k + i).map ofN) := by
  unfold rngO2
  have a : inW (k : Int) = true := by
    show Nat.ble k 4611686018427387903 = true
    rw [Nat.ble_eq]; omega
  have b : inW (m : Int) = true := by
    show Nat.ble m 4611686018427387903 = true
    rw [Nat.ble_eq]; omega
  rw [a, b]
  show some (rngT _ _) = _
  unfold rngT ofN
  rw [List.map_map, show ((m : Int) - (k : Int)).toNat = m - k by omega]
  refine congrArg some (List.map_congr_left fun i _ => ?_)
  show (k : Int) + (i : Int) = ((k + i : Nat) : Int)
  omega
theorem above_len (k : Nat) : (above n k).length ≤ n.2.length := by
  unfold above
  refine Nat.le_trans (List.length_filter_le _ _) ?_
  rw [List.length_map,
                                                                                                              List.length_range]
  omega
def ofP (p : Nat × Nat) : Int × Int := ((p.1 : Int), (p.2 : Int))
theorem touch_one (W : GW n) {s : List (Int × Int)} {k : Nat} (hk : k < n.2.length) (hs : s.length ≤ 1000000) : tb1__law_touch n s (k : Int) = some (s ++ ((above n k).map fun m => (k, m)).map ofP) := by
  unfold tb1__law_touch
  have hl := W.hl
  have c : (k : Int) + 1 = ((k + 1 : Nat) : Int) := by omega
  rw [c, range2 (by omega) (by omega)]
  simp only [Option.bind_some]
  rw [lcO_eq (fun m => tch (tie n k) (tie n m.toNat)) (fun m => ((k : Int), m)) (by rw [List.length_map, List.length_map, List.length_range]; omega) (fun m hm => ?_) fun _ _ _ => rfl]
  · simp only [Option.bind_some]
    have e : ((((List.range (n.2.length - (k + 1))).map fun i => k + 1 + i).map ofN).filter fun m => tch (tie n k) (tie n m.toNat)).map (fun m => ((k : Int), m)) = ((above n k).map fun m => (k, m)).map ofP := by
      unfold above
      rw [List.filter_map, List.map_map, List.map_map]
      rfl
    rw [e, addL_ok (by
      have := above_len (n := n) k
      rw [List.length_map, List.length_map]
      omega)]
    rfl
  · obtain ⟨m', hm', rfl⟩ := List.mem_map.mp hm
    obtain ⟨i, hi, rfl⟩ := List.mem_map.mp hm'
    rw [List.mem_range] at hi
    have hm2 : k + 1 + i < n.2.length := by omega
    have a1 : atI n.2 (ofN (k + 1 + i)) = some (tie n (k + 1 + i)) := tie_at hm2
    rw [tie_at hk, a1]
    simp only [Option.bind_some]
    rw [addL_ok (by simp)]
    obtain ⟨d1, d2⟩ := tie_dif W (k := k) (m := k + 1 + i) (by omega) hm2
    obtain ⟨v, e1, e2⟩ := set_four (tie_ne W hk) (tie_ne W hm2) d1 d2
    rw [Option.bind_some, e1]
    show some (eqv v 3) = some (tch (tie n k) (tie n (ofN (k + 1 + i)).toNat))
    rw [e2]
    rfl
theorem TL_len (W : GW n) : (TL n).length ≤ 256 := by
  unfold TL
  rw [List.length_flatMap]
  have hl := W.hl
  have : ∀ l : List Nat, (l.map fun k => ((above n k).map fun m => (k, m)).length).sum ≤ l.length * 16 := fun l => by
    induction l with
    | nil => simp
    | cons a l ih =>
      rw [List.map_cons, List.sum_cons, List.length_cons, List.length_map]
      have := above_len (n := n) a
      omega
  have := this (List.range n.2.length)
  rw [List.length_range] at this
  omega
theorem touch_eq (W : GW n) : t__law_touch n = some ((TL n).map ofP) := by
  unfold t__law_touch
  have hl := W.hl
  rw [Option.bind_some, rngO_nat (by omega), Option.bind_some]
  have e : ((List.range n.2.length).map ofN).flatMap (fun k => ((above n k.toNat).map fun m => (k.toNat, m)).map ofP) = (TL n).map ofP := by
    unfold TL
    rw [List.flatMap_map, List.map_flatMap]
    rfl
  rw [fold_flat (f := fun k => ((above n k.toNat).map fun m => (k.toNat, m)).map ofP) (N := 1000) (by
    rw [e, List.length_map]
    have := TL_len W
    rw [List.length_nil]
    omega) fun s a ha hs => by
      obtain ⟨k, hk, rfl⟩ := List.mem_map.mp ha
      exact touch_one W (List.mem_range.mp hk) (by omega), e]
  rfl
/-! times -/
def tv (ts : List Int) (k : Nat) : Int := (ts[k]?).getD 0
theorem tv_at {k : Nat} (hk : k < ts.length) : atI ts (k : Int) = some (tv ts k) := by
  rw [TN.atI_nat]
  unfold tv
  rw [List.getElem?_eq_getElem hk]
  rfl
def sg (a b : Int) : Int := b2i (decide (b < a)) - b2i (decide (a < b))
theorem sg_eq {a b c d : Int} : sg a b = sg c d ↔ ((a < b ↔ c < d) ∧ (b < a ↔ d < c)) := by
  unfold sg
  rw [b2i_decide, b2i_decide, b2i_decide, b2i_decide]
  split <;> split <;> split <;> split <;> omega
theorem stand_eq (W : GW n) (ht : ts.length = n.2.length) : t__law_stand n ts = some ((TL n).map fun p => sg (tv ts p.1) (tv ts p.2)) := by
  unfold t__law_stand
  rw [touch_eq W]
  simp only [Option.bind_some]
  rw [lcO_eq (fun _ => true) (fun p : Int × Int => sg (tv ts p.1.toNat) (tv ts p.2.toNat)) (by
    rw [List.length_map]
    have := TL_len W
    omega) (fun _ _ => rfl) fun p hp _ => ?_, List.filter_eq_self.mpr fun _ _ => rfl, List.map_map]
  · rfl
  · obtain ⟨⟨k, m⟩, hq, rfl⟩ := List.mem_map.mp hp
    obtain ⟨h1, h2, _⟩ := mem_TL.mp hq
    have h1' : k < m := h1
    have h2' : m < n.2.length := h2
    have e1 : atI ts (ofP (k, m)).1 = some (tv ts k) := tv_at (k := k) (by omega)
    have e2 : atI ts (ofP (k, m)).2 = some (tv ts m) := tv_at (k := m) (by omega)
    rw [e1, e2]
    rfl
theorem cut_set {i : Nat} (hi : i < ts.length) (m : Int) : cutL ts none (some (i : Int)) ++ [m] ++ cutL ts (some ((i : Int) + 1)) none = ts.set i m := by
  rw [List.set_eq_take_append_cons_drop, if_pos hi, cut_to, show ((i : Int) + 1) = ((i + 1 : Nat) : Int) by omega, cut_from, List.append_assoc]
  rfl
theorem tv_set {i k : Nat} (hi : i < ts.length) (m : Int) : tv (ts.set i m) k = if k = i then m else tv ts k := by
  unfold tv
  rw [List.getElem?_set]
  by_cases h : k = i
  · subst h
    rw [if_pos rfl, if_pos rfl, if_pos hi]
    rfl
  · rw [if_neg (fun z => h z.symm), if_neg h]
def nearB (n : WebT) (i o : Nat) : Bool := !decide (i = o) && tch (tie n i) (tie n o)
def NR (n : WebT) (ts : List Int) (i : Nat) : List Int := ((List.range n.2.length).filter (nearB n i)).map (tv ts)
theorem mem_NR {i : Nat} {y : Int} : y ∈ NR n ts i ↔ ∃ o, o < n.2.length ∧ i ≠ o ∧ tch (tie n i) (tie n o) = true ∧ tv ts o = y := by
  unfold NR nearB
  simp only [List.mem_map, List.mem_filter, List.mem_range, Bool.and_eq_true, Bool.not_eq_true', decide_eq_false_iff_not]
  constructor
  · rintro ⟨o, ⟨h1, h2, h3⟩, h4⟩
    exact ⟨o, h1, h2, h3, h4⟩
  · rintro ⟨o, h1, h2, h3, h4⟩
    exact ⟨o, ⟨h1, h2, h3⟩, h4⟩
def Keep (n : WebT) (ts : List Int) (i : Nat) (m : Int) : Prop := ∀ y ∈ NR n ts i, (m < y ↔ tv ts i < y) ∧ (y < m ↔ y < tv ts i)
theorem stays_eq (W : GW n) (ht : ts.length = n.2.length) {i : Nat} (hi : i < n.2.length) (m : Int) : ∃ b, t__law_stays n ts (i : Int) m = some b ∧ (b = true ↔ Keep n ts i m) := by
  unfold t__law_stays
  have hl := W.hl
  have hi2 : i < ts.length := by omega
  have e0 := cut_set hi2 m
  have l1 : (cutL ts none (some (i : Int))).length + [m].length ≤ 16777216 := by
    rw [cut_to, List.length_take, List.length_singleton]
    omega
  have l2 : (cutL ts none (some (i : Int)) ++ [m]).length + (cutL ts (some ((i : Int) + 1)) none).length ≤ 16777216 := by
    rw [← List.length_append, e0, List.length_set]
    omega
  rw [addL_ok l1, Option.bind_some, addL_ok l2, e0, Option.bind_some, stand_eq W (by rw [List.length_set, ht]), stand_eq W ht]
  refine ⟨_, rfl, ?_⟩
  rw [eqv_iff, List.map_inj_left]
  constructor
  · intro h y hy
    obtain ⟨o, h1, h2, h3, rfl⟩ := mem_NR.mp hy
    rcases Nat.lt_or_ge i o with hlt | hge
    · have := h (i, o) (mem_TL.mpr ⟨hlt, h1, h3⟩)
      simp only [tv_set hi2, if_pos, if_neg h2.symm] at this
      exact sg_eq.mp this
    · have := h (o, i) (mem_TL.mpr ⟨by show o < i; omega, hi, by rw [tch_comm]; exact h3⟩)
      simp only [tv_set hi2, if_pos, if_neg h2.symm] at this
      have := sg_eq.mp this
      exact ⟨this.2, this.1⟩
  · rintro h ⟨k, o⟩ hp
    obtain ⟨h1, h2, h3⟩ := mem_TL.mp hp
    have h1' : k < o := h1
    have h2' : o < n.2.length := h2
    have h3' : tch (tie n k) (tie n o) = true := h3
    simp only [tv_set hi2]
    by_cases c1 : k = i
    · subst c1
      rw [if_pos rfl, if_neg (by omega)]
      exact sg_eq.mpr (h _ (mem_NR.mpr ⟨o, h2', by omega, h3', rfl⟩))
    · rw [if_neg c1]
      by_cases c2 : o = i
      · subst c2
        rw [if_pos rfl]
        have := h _ (mem_NR.mpr ⟨k, by omega, by omega, by rw [tch_comm]; exact h3', rfl⟩)
        exact sg_eq.mpr ⟨this.2, this.1⟩
      · rw [if_neg c2]
/-! the program's slack -/
theorem touch_t (W : GW n) {i o : Nat} (hi : i < n.2.length) (ho : o < n.2.length) : t_touch n (i : Int) (o : Int) = some (nearB n i o) := by
  unfold t_touch t_Web_ties nearB
  by_cases c : i = o
  · subst c
    rw [eqv_iff.mpr rfl]
    simp
  · rw [eqv_no.mpr (by omega)]
    simp only [Option.bind_some, tie_at hi, tie_at ho, Bool.not_false, if_true, decide_eq_false c, Bool.true_and]
    rw [lcO_eq (fun _ => true) (fun x => memv x [(tie n o).1, (tie n o).2]) (by simp) (fun _ _ => rfl) fun _ _ _ => rfl]
    simp only [Option.bind_some]
    refine congrArg some ?_
    unfold tch memv
    by_cases a : (tie n i).1 = (tie n o).1 <;> by_cases b : (tie n i).1 = (tie n o).2 <;> by_cases d : (tie n i).2 = (tie n o).1 <;> by_cases e : (tie n i).2 = (tie n o).2 <;> simp [a, b, d, e]
theorem touching_t (W : GW n) {i : Nat} (hi : i < n.2.length) : t_touching n (i : Int) = some (((List.range n.2.length).filter (nearB n i)).map ofN) := by
  unfold t_touching t_Web_ties
  have hl := W.hl
  simp only [Option.bind_some]
  rw [rngO_nat (by omega), Option.bind_some, lcO_eq (fun o => nearB n i o.toNat) (fun o => o) (by rw [List.length_map, List.length_range]; omega) (fun a ha => ?_) fun _ _ _ => rfl]
  · rw [List.filter_map, List.map_map]
    rfl
  · obtain ⟨o, ho, rfl⟩ := List.mem_map.mp ha
    rw [show ofN o = (o : Int) from rfl, touch_t W hi (List.mem_range.mp ho)]
    rfl
theorem slack_eq (W : GW n) (T : GT n ts) {i : Nat} (hi : i < n.2.length) : ∃ lo hg : Int, t_slack (n, ts) (i : Int) = some (lo, hg) ∧ 0 ≤ lo ∧ lo ≤ tv ts i ∧ tv ts i ≤ hg ∧ hg ≤ 1000000000000 ∧
    (∀ m, lo ≤ m → m ≤ hg → Keep n ts i m) ∧ (0 < lo → ¬Keep n ts i (lo - 1)) ∧ (hg ≠ 1000000000000 → ¬Keep n ts i (hg + 1)) := by
  have hl := W.hl
  have ht := T.len
  have tl : ∀ k, k < n.2.length → 0 ≤ tv ts k ∧ tv ts k ≤ 1000000000000 := fun k hk => by
    unfold tv
    rw [List.getElem?_eq_getElem (by omega)]
    exact T.ok _ (List.getElem_mem _)
  have nr : lcO (((List.range n.2.length).filter (nearB n i)).map ofN) (fun _ => some true) (fun a => atI ts a) = some (NR n ts i) := by
    rw [lcO_eq (fun _ => true) (fun a : Int => tv ts a.toNat) (by
      rw [List.length_map]
      have := List.length_filter_le (nearB n i) (List.range n.2.length)
      rw [List.length_range] at this
      omega) (fun _ _ => rfl) fun a ha _ => ?_, List.filter_eq_self.mpr fun _ _ => rfl, List.map_map]
    · rfl
    · obtain ⟨o, ho, rfl⟩ := List.mem_map.mp ha
      exact tv_at (k := o) (by
        have := List.mem_range.mp (List.mem_filter.mp ho).1
        omega)
  have nl : (NR n ts i).length ≤ 16 := by
    unfold NR
    rw [List.length_map]
    have := List.length_filter_le (nearB n i) (List.range n.2.length)
    rw [List.length_range] at this
    omega
  have ck : t_check_index n (i : Int) = some () := by
    unfold t_check_index t_is_count t_Web_ties
    simp only [Option.bind_some, Bool.not_false, Bool.true_and, Option.map_some]
    rw [decide_eq_true (by omega : (0 : Int) ≤ (i : Int)), decide_eq_false (by omega : ¬((n.2.length : Int) ≤ (i : Int)))]
    rfl
  have tn : ∀ y ∈ NR n ts i, 0 ≤ y ∧ y ≤ 1000000000000 := fun y hy => by
    obtain ⟨o, h1, _, _, rfl⟩ := mem_NR.mp hy
    exact tl o h1
  obtain ⟨t, et⟩ : ∃ t, tv ts i = t := ⟨_, rfl⟩
  have t0 := tl i hi
  unfold t_slack t_check_clock t_Clock_web t_Clock_times
  simp only [Bool.not_true, Bool.false_eq_true, if_false, Option.bind_some, ck, tv_at (ts := ts) (k := i) (by omega), touching_t W hi, nr]
  unfold Keep
  rw [et] at t0 ⊢
  generalize NR n ts i = N at nl tn ⊢
  by_cases c : t ∈ N
  · rw [memv_iff.mpr c, if_pos rfl]
    refine ⟨t, t, rfl, t0.1, Int.le_refl _, Int.le_refl _, t0.2, fun m h1 h2 y _ => ?_, fun _ h => ?_, fun _ h => ?_⟩
    · obtain rfl : m = t := by omega
      exact ⟨Iff.rfl, Iff.rfl⟩
    · have := (h t c).1.mp (by omega)
      omega
    · have := (h t c).2.mp (by omega)
      omega
  · rw [memv_no.mpr c, if_neg (by simp), lcP_eq (by omega), lcP_eq (by omega)]
    simp only [Option.bind_some]
    have f1 := List.length_filter_le (fun a : Int => decide (a < t)) N
    have f2 := List.length_filter_le (fun a : Int => decide (t < a)) N
    rw [addL_ok (by rw [List.length_map, List.length_singleton]; omega), addL_ok (by rw [List.length_map, List.length_singleton]; omega)]
    simp only [Option.bind_some]
    obtain ⟨lo, e1⟩ := maxI_some (l := [0] ++ (N.filter fun a : Int => decide (a < t)).map (· + 1)) (by simp)
    obtain ⟨hg, e2⟩ := minI_some (l := [1000000000000] ++ (N.filter fun a : Int => decide (t < a)).map (· - 1)) (by simp)
    obtain ⟨a1, a2⟩ := maxI_ok e1
    obtain ⟨b1, b2⟩ := minI_ok e2
    rw [e1, e2]
    have lo0 : 0 ≤ lo := a2 0 (by simp)
    have lo1 : ∀ y ∈ N, y < t → y + 1 ≤ lo := fun y hy h => a2 _ (List.mem_append_right _ (List.mem_map.mpr ⟨y, List.mem_filter.mpr ⟨hy, decide_eq_true h⟩, rfl⟩))
    have hg0 : hg ≤ 1000000000000 := b2 _ (by simp)
    have hg1 : ∀ y ∈ N, t < y → hg ≤ y - 1 := fun y hy h => b2 _ (List.mem_append_right _ (List.mem_map.mpr ⟨y, List.mem_filter.mpr ⟨hy, decide_eq_true h⟩, rfl⟩))
    have lo2 : lo = 0 ∨ ∃ y ∈ N, y < t ∧ lo = y + 1 := by
      rcases List.mem_append.mp a1 with h | h
      · exact .inl (List.mem_singleton.mp h)
      · obtain ⟨y, hy, e⟩ := List.mem_map.mp h
        obtain ⟨h1, h2⟩ := List.mem_filter.mp hy
        exact .inr ⟨y, h1, of_decide_eq_true h2, e.symm⟩
    have hg2 : hg = 1000000000000 ∨ ∃ y ∈ N, t < y ∧ hg = y - 1 := by
      rcases List.mem_append.mp b1 with h | h
      · exact .inl (List.mem_singleton.mp h)
      · obtain ⟨y, hy, e⟩ := List.mem_map.mp h
        obtain ⟨h1, h2⟩ := List.mem_filter.mp hy
        exact .inr ⟨y, h1, of_decide_eq_true h2, e.symm⟩
    refine ⟨lo, hg, rfl, lo0, ?_, ?_, hg0, fun m h1 h2 y hy => ?_, fun h0 h => ?_, fun h0 h => ?_⟩
    · rcases lo2 with h | ⟨y, _, h, h'⟩ <;> omega
    · rcases hg2 with h | ⟨y, _, h, h'⟩ <;> omega
    · have ne : y ≠ t := fun z => c (z ▸ hy)
      have k1 := lo1 y hy
      have k2 := hg1 y hy
      constructor <;> constructor <;> intro h <;> omega
    · rcases lo2 with h' | ⟨y, hy, h1, h2⟩
      · omega
      · have := (h y hy).2.mpr h1
        omega
    · rcases hg2 with h' | ⟨y, hy, h1, h2⟩
      · exact h0 h'
      · have := (h y hy).1.mpr h1
        omega
theorem tie_right_eq (W : GW n) (T : GT n ts) {i : Nat} (hi : i < n.2.length) : ∃ lo hg : Int, t_slack (n, ts) (i : Int) = some (lo, hg) ∧ t__law_tie_right n ts (i : Int) (lo, hg) = some true ∧ 0 ≤ lo ∧ hg ≤ 1000000000000 ∧ lo ≤ hg := by
  obtain ⟨lo, hg, e, h0, h1, h2, h3, k1, k2, k3⟩ := slack_eq W T hi
  refine ⟨lo, hg, e, ?_, h0, h3, Int.le_trans h1 h2⟩
  have ht := T.len
  have st : ∀ m, lo ≤ m → m ≤ hg → t__law_stays n ts (i : Int) m = some true := fun m a b => by
    obtain ⟨x, e1, e2⟩ := stays_eq W ht hi m
    rw [e1, e2.mpr (k1 m a b)]
  have ns : ∀ m, ¬Keep n ts i m → t__law_stays n ts (i : Int) m = some false := fun m a => by
    obtain ⟨x, e1, e2⟩ := stays_eq W ht hi m
    cases x with
    | true => exact absurd (e2.mp rfl) a
    | false => exact e1
  have q1 : lcO [lo, hg] (fun _ => some true) (fun a => t__law_is_int a) = some [true, true] := by
    rw [lcO_eq (h := fun a => t__law_is_int a) (fun _ => true) (fun _ => true) (by simp) (fun _ _ => rfl) fun _ _ _ => rfl]
    rfl
  have q2 : lcO [lo, hg, (lo + hg) / 2, (lo + tv ts i) / 2] (fun _ => some true) (fun a => t__law_stays n ts (i : Int) a) = some [true, true, true, true] := by
    rw [lcO_eq (fun _ => true) (fun _ => true) (by simp) (fun _ _ => rfl) fun a ha _ => st a ?_ ?_]
    · rfl
    all_goals
      simp only [List.mem_cons, List.not_mem_nil, or_false] at ha
      rcases ha with rfl | rfl | rfl | rfl <;> omega
  have f2 : ∀ x : Int, fdivI x 2 = some (x / 2) := fun x => if_pos (by omega)
  unfold t__law_tie_right
  simp only [q1, Option.bind_some, Option.map_some, tv_at (ts := ts) (k := i) (by omega), f2, q2, decide_eq_true h0, decide_eq_true h1, decide_eq_true h2, decide_eq_true h3, if_true, Bool.not_true, Bool.false_eq_true, if_false, List.all_cons, List.all_nil, id, Bool.and_self, List.length_cons, List.length_nil]
  rw [eqv_iff.mpr (show ((0 + 1 + 1 : Nat) : Int) = 2 from rfl)]
  simp only [Bool.not_true, Bool.false_eq_true, if_false, Option.bind_some]
  by_cases c1 : 0 < lo
  · rw [decide_eq_true c1, if_pos rfl, ns _ (k2 c1)]
    simp only [Option.map_some, Option.bind_some, Bool.false_eq_true, if_false]
    by_cases c2 : hg = 1000000000000
    · rw [eqv_iff.mpr c2]
      rfl
    · rw [eqv_no.mpr c2, ns _ (k3 c2)]
      rfl
  · rw [decide_eq_false c1, if_neg (by simp)]
    simp only [Option.bind_some, Bool.false_eq_true, if_false]
    by_cases c2 : hg = 1000000000000
    · rw [eqv_iff.mpr c2]
      rfl
    · rw [eqv_no.mpr c2, ns _ (k3 c2)]
      rfl
end
end K30

namespace K30
open PySem L2 DL PySem.Spec PyProof.Rows
/-! clocks are made -/
variable {ws : List Str} {ls : List (Str × Str)} {ts : List Int}
def timeT (ts : List Int) : D := .tup (ts.map D.int)
def clockD (ws : List Str) (ls : List (Str × Str)) (ts : List Int) : D := .obj "Clock" ["both"] [.tup [webD ws ls, timeT ts]]
def Times (ls : List (Str × Str)) (ts : List Int) : Prop := ts.length = ls.length ∧ ∀ t ∈ ts, 0 ≤ t ∧ t ≤ 1000000000000
theorem i_int {t : Int} : isiTy CS "int" (.int t) = some true := rfl
theorem i_bool {t : Int} : isiTy CS "bool" (.int t) = some false := rfl
theorem i_tup {l : List D} : isiTy CS "tuple" (.tup l) = some true := rfl
theorem o_web : isObjC "Web" (webD ws ls) = true := rfl
theorem c_web : isiC CS "Web" (webD ws ls) = some true := rfl
theorem o_clk : isObjC "Clock" (clockD ws ls ts) = true := rfl
theorem c_clk : isiC CS "Clock" (clockD ws ls ts) = some true := rfl
theorem mk_web {e : DL.Env} : makeO "Web" e (.ok .non [webD ws ls]) = .ok (.val (webD ws ls)) e := rfl
theorem mk_clk {e : DL.Env} : makeO "Clock" e (.ok .non [clockD ws ls ts]) = .ok (.val (clockD ws ls ts)) e := rfl
theorem time_ok {t : Int} (h0 : 0 ≤ t) (h1 : t ≤ 1000000000000) : F_is_time [.dat (.int t)] [] = .ok (.bl true) [] := by
  have n1 : ¬ t < 0 := by omega
  simp -implicitDefEqProofs [F_is_time, g_is_time, F_is_count, g_is_count, h0, h1, n1, i_int, i_bool]
theorem times_ok (hl : ls.length ≤ 16) (ht : Times ls ts) : F_check_times [.dat (webD ws ls), .dat (timeT ts)] [] = .ok .non [] := by
  obtain ⟨e', q1, hI⟩ := forL_ok (g := gN 2) (body := b1_check_times) (ds := rng 0 ts.length) (e := ⟨[.dat (webD ws ls), .dat (timeT ts), .un], []⟩)
    (fun ds e => ∃ (k : Nat) (x : S), k ≤ ts.length ∧ ds = rng k (ts.length - k) ∧ e = ⟨[.dat (webD ws ls), .dat (timeT ts), x], []⟩)
    (fun dd ds e ⟨k, x, hk, hd, he⟩ => by
      have hlt : k < ts.length := by
        rcases Nat.lt_or_ge k ts.length with h | h
        · exact h
        · rw [show ts.length - k = 0 by omega] at hd
          cases hd
      rw [show ts.length - k = (ts.length - (k + 1)) + 1 by omega, rng_cons] at hd
      cases hd
      subst he
      refine ⟨⟨[.dat (webD ws ls), .dat (timeT ts), .dat (.int k)], []⟩, ⟨[.dat (webD ws ls), .dat (timeT ts), .dat (.int k)], []⟩, rfl, .inl ?_, k + 1, .dat (.int k), hlt, by rw [show ((k + 1 : Nat) : Int) = (k : Int) + 1 by omega], rfl⟩
      have hat : atI (ts.map D.int) (k : Int) = some (.int ts[k]) := at_nat (by rw [List.getElem?_map, List.getElem?_eq_getElem hlt]; rfl)
      obtain ⟨b1, b2⟩ := ht.2 _ (List.getElem_mem hlt)
      have t1 := time_ok b1 b2
      have kl : ¬ (k : Int) = ls.length := by have := ht.1; omega
      simp -implicitDefEqProofs [b1_check_times, ties_of, timeT, hat, t1, kl, o_web])
    ⟨0, .un, Nat.zero_le _, by simp, rfl⟩
  have r1 : rngI1 [.val (.int ts.length)] = some (rng 0 ts.length) := v_rng (by have := ht.1; omega) (by have := ht.1; omega)
  have n1 : ¬ (ts.length : Int) < ls.length := by have := ht.1; omega
  obtain ⟨k, x, _, _, rfl⟩ := hI
  simp -implicitDefEqProofs [timeT] at q1
  simp -implicitDefEqProofs [F_check_times, g_check_times, timeT, r1, q1, ties_of, n1, o_web, i_tup]
theorem clock_ok (hn : ws.Nodup) (hp : ∀ w ∈ ws, w ∈ pool) (h2 : 2 ≤ ws.length) (h9 : ws.length ≤ 9) (lk : Lk ws ls) (hl : ls.length ≤ 16) (ht : Times ls ts) :
    F__law_clock [.dat (netD ws ls), .dat (timeT ts)] [] = .ok (clockD ws ls ts) [] := by
  have a1 := made_ok hn hp h2 h9 lk hl
  have a2 := times_ok (ws := ws) hl ht
  have cw : F_check_web [.dat (webD ws ls)] [] = .ok .non [] := by simp -implicitDefEqProofs [F_check_web, g_check_web, c_web]
  have i1 : F_Clock___init__ [.jar 0, .dat (webD ws ls), .dat (timeT ts)] [.obj "Clock" [] []] = .ok .non [clockD ws ls ts] := by
    simp -implicitDefEqProofs [F_Clock___init__, g_Clock___init__, cw, a2, putN, clockD]
  simp -implicitDefEqProofs [F__law_clock, g__law_clock, netD, a1, i1, mk_web, mk_clk]
theorem f_clk : fldD ["Clock"] "both" (clockD ws ls ts) = some (.tup [webD ws ls, timeT ts]) := rfl
theorem web_of : F_Clock_web [.dat (clockD ws ls ts)] [] = .ok (webD ws ls) [] := by
  simp -implicitDefEqProofs [F_Clock_web, g_Clock_web, f_clk]
theorem times_of : F_Clock_times [.dat (clockD ws ls ts)] [] = .ok (timeT ts) [] := by
  simp -implicitDefEqProofs [F_Clock_times, g_Clock_times, f_clk]
theorem check_clk : F_check_clock [.dat (clockD ws ls ts)] [] = .ok .non [] := by
  simp -implicitDefEqProofs [F_check_clock, g_check_clock, c_clk]
end K30

namespace K30
open PySem L2 DL PySem.Spec PyProof.Rows
/-! drawn times -/
variable {ws : List Str} {ls : List (Str × Str)}
abbrev beatF : M DL.R := cCB absD (cCons (cOp subD (cVar 3) (cCallJ F__law_dip (cCons (cVar 0) (cCons (cVar 2) cNil)))) cNil)
theorem beat_one {n : D} {m g : Int} (hm : 0 < m) (h2 : m ≤ 20) (hg : g = 0 ∨ g = 1000000000000) {d : D} (hd : JarD d) (y : D) :
    ∃ (t : Int) (d' : D), beatF ⟨[.jar 0, .dat n, .dat (.int m), .dat (.int g), .dat y], [d]⟩ = .ok (.val (.int t)) ⟨[.jar 0, .dat n, .dat (.int m), .dat (.int g), .dat y], [d']⟩ ∧ JarD d' ∧ 0 ≤ t ∧ t ≤ 1000000000000 := by
  obtain ⟨v, d', h1, h3, h4, h5⟩ := dip_ok hm (by omega) hd
  refine ⟨if g - v < 0 then -(g - v) else g - v, d', ?_, h3, by split <;> omega, by split <;> omega⟩
  simp -implicitDefEqProofs [beatF, h1, putN]
  rfl
theorem beat_all {n : D} {m g : Int} (hm : 0 < m) (h2 : m ≤ 20) (hg : g = 0 ∨ g = 1000000000000) : ∀ {rs acc : List D} {d : D} {x : S}, JarD d → acc.length + rs.length ≤ 1000 →
    ∃ (ts : List Int) (d' : D) (x' : S), lcL [4] (gN 4) tYs beatF rs acc ⟨[.jar 0, .dat n, .dat (.int m), .dat (.int g), x], [d]⟩ = .ok (acc ++ ts.map D.int) ⟨[.jar 0, .dat n, .dat (.int m), .dat (.int g), x'], [d']⟩ ∧ JarD d' ∧ ts.length = rs.length ∧ ∀ t ∈ ts, 0 ≤ t ∧ t ≤ 1000000000000
  | [], acc, d, x, hd, _ => ⟨[], d, x, by simp [lcL], hd, rfl, fun t h => by cases h⟩
  | r :: rs, acc, d, x, hd, hl => by
    obtain ⟨t, d1, e1, e2, e3, e4⟩ := beat_one (n := n) hm h2 hg hd r
    have hl' : acc.length + (rs.length + 1) ≤ 1000 := hl
    obtain ⟨ts, d', x', q1, q2, q3, q4⟩ := beat_all (n := n) hm h2 hg (rs := rs) (acc := acc ++ [.int t]) (d := d1) (x := .dat r) e2 (by simp only [List.length_append, List.length_singleton]; omega)
    refine ⟨t :: ts, d', x', ?_, q2, by simp [q3], fun s hs => ?_⟩
    · have w : (⟨[.jar 0, .dat n, .dat (.int m), .dat (.int g), x], [d]⟩ : DL.Env).wipe [4] = ⟨[.jar 0, .dat n, .dat (.int m), .dat (.int g), .un], [d]⟩ := rfl
      have gg : gN 4 r ⟨[.jar 0, .dat n, .dat (.int m), .dat (.int g), .un], [d]⟩ = some ⟨[.jar 0, .dat n, .dat (.int m), .dat (.int g), .dat r], [d]⟩ := rfl
      have sz : acc.length < sizeLine := Nat.lt_of_lt_of_le (show acc.length < 1000 by omega) (by decide)
      rw [lcL, w, gg]
      simp only [tYs, e1, Env.frz, sz, if_true]
      rw [q1]
      simp
    · rcases List.mem_cons.mp hs with rfl | hs
      · exact ⟨e3, e4⟩
      · exact q4 s hs
theorem beats_ok (hl : ls.length ≤ 16) {d : D} (hd : JarD d) : ∃ (ts : List Int) (d' : D), F__law_beats [.jar 0, .dat (netD ws ls)] [d] = .ok (timeT ts) [d'] ∧ JarD d' ∧ Times ls ts := by
  obtain ⟨mv, d1, a1, a2, a3⟩ := pick_ok (l := [.int 2, .int 3, .int 5, .int 20]) (by simp) (by simp) hd
  obtain ⟨m, rfl, m1, m2⟩ : ∃ m : Int, mv = .int m ∧ 0 < m ∧ m ≤ 20 := by
    simp only [List.mem_cons, List.not_mem_nil, or_false] at a3
    rcases a3 with rfl | rfl | rfl | rfl
    · exact ⟨_, rfl, by decide, by decide⟩
    · exact ⟨_, rfl, by decide, by decide⟩
    · exact ⟨_, rfl, by decide, by decide⟩
    · exact ⟨_, rfl, by decide, by decide⟩
  obtain ⟨v, d2, b1, b2, b3, b4⟩ := dip_ok (m := 6) (by decide) (by decide) a2
  have hpow : powD (.int 10) (.int 12) = some (.int 1000000000000) := by rfl
  obtain ⟨g, hg, hc⟩ : ∃ g : Int, (g = 0 ∨ g = 1000000000000) ∧ (v = 0 ∧ g = 1000000000000 ∨ v ≠ 0 ∧ g = 0) := by
    by_cases hv : v = 0
    · exact ⟨_, .inr rfl, .inl ⟨hv, rfl⟩⟩
    · exact ⟨_, .inl rfl, .inr ⟨hv, rfl⟩⟩
  obtain ⟨ts, d3, x, q1, q2, q3, q4⟩ := beat_all (n := netD ws ls) m1 m2 hg (rs := ls.map tieD) (acc := []) (d := d2) (x := .un) b2 (by simp; omega)
  have lc : cLc [4] (cIter (cOp ixD (cVar 1) (cC (.int 1)))) (gN 4) tYs beatF ⟨[.jar 0, .dat (netD ws ls), .dat (.int m), .dat (.int g), .un], [d2]⟩ = .ok (.val (.lst (ts.map D.int))) ⟨[.jar 0, .dat (netD ws ls), .dat (.int m), .dat (.int g), .un], [d3]⟩ := by
    have hi : cIter (cOp ixD (cVar 1) (cC (.int 1))) ⟨[.jar 0, .dat (netD ws ls), .dat (.int m), .dat (.int g), .un], [d2]⟩ = .ok (ls.map tieD) ⟨[.jar 0, .dat (netD ws ls), .dat (.int m), .dat (.int g), .un], [d2]⟩ := by
      simp -implicitDefEqProofs [netD]
    rw [cLc, hi, v_bnd]
    rw [if_pos (by rfl), q1]
    rfl
  refine ⟨ts, d3, ?_, q2, by simpa using q3, q4⟩
  simp -implicitDefEqProofs only [beatF] at lc
  rcases hc with ⟨hv, rfl⟩ | ⟨hv, rfl⟩ <;> simp -implicitDefEqProofs [F__law_beats, g__law_beats, a1, putN, b1, hv, hpow, lc, timeT, v_lstO]
end K30

namespace K30
open PySem L2 DL PySem.Spec PyProof.Rows
/-! jars -/
theorem jar_ok {ns : List Int} {k : Nat} (hk : k ≤ 63) (hl : ns.length ≤ 63) : ∃ d, F__law_jar [.dat (.scr ns), .dat (.int k)] [] = .ok d [] ∧ JarD d := by
  obtain ⟨mx, hmx⟩ : ∃ mx : Int, mx = 7369 * ((k : Int) + 5) * ((k : Int) + 2) + 29 * (ns.length : Int) := ⟨_, rfl⟩
  obtain ⟨e', q1, m, x3, he⟩ := forL_ok (g := gN 3) (body := b1__law_jar) (ds := (cutL ns none (some 4)).map D.int) (e := ⟨[.dat (.scr ns), .dat (.int k), .dat (.int mx), .un, .un, .un], []⟩)
    (fun ds e => ∃ (m : Int) (x3 : DL.S), (∀ d ∈ ds, ∃ i : Int, d = .int i) ∧ e = ⟨[.dat (.scr ns), .dat (.int k), .dat (.int m), x3, .un, .un], []⟩)
    (fun dd ds e ⟨m, x3, hds, he⟩ => by
      obtain ⟨i, rfl⟩ := hds dd List.mem_cons_self
      subst he
      refine ⟨_, _, rfl, .inl ?_, (m * 733 + i) % 1000000009, .dat (.int i), fun d hd => hds d (List.mem_cons_of_mem _ hd), rfl⟩
      have e1 : (0 : Int) < 1000000009 := by decide
      simp -implicitDefEqProofs [b1__law_jar, v_mulI, v_modI, e1])
    ⟨mx, .un, fun d hd => by obtain ⟨i, _, rfl⟩ := List.mem_map.mp hd; exact ⟨i, rfl⟩, rfl⟩
  obtain ⟨he, rfl⟩ := he
  have m1 : mulD (.int 7369) (.int ((k : Int) + 5)) = some (.int (7369 * ((k : Int) + 5))) := v_mulL (by decide) (by decide)
  have m2 : mulD (.int (7369 * ((k : Int) + 5))) (.int ((k : Int) + 2)) = some (.int (7369 * ((k : Int) + 5) * ((k : Int) + 2))) := v_mulI (by omega) (by omega)
  have m3 : mulD (.int 29) (.int (ns.length : Int)) = some (.int (29 * (ns.length : Int))) := v_mulL (by decide) (by decide)
  have m4 : mulD (.int 105019) (.int ((k : Int) + 1)) = some (.int (105019 * ((k : Int) + 1))) := v_mulL (by decide) (by decide)
  have p1 : powD (.int 10) (.int 18) = some (.int 1000000000000000000) := by rfl
  obtain ⟨own, ho⟩ : ∃ own : Int, cIf (cTest (cOp ltD (cVar 1) (cCB lenD (cCons (cVar 0) cNil)))) (cOp ixD (cVar 0) (cVar 1)) (cC (.int 0)) ⟨[.dat (.scr ns), .dat (.int k), .dat (.int m), x3, .un, .un], []⟩ = .ok (.val (.int own)) ⟨[.dat (.scr ns), .dat (.int k), .dat (.int m), x3, .un, .un], []⟩ := by
    by_cases h : k < ns.length
    · have hat : ixD (.scr ns) (.int k) = some (.int ns[k]) := by
        show (atI ns (k : Int)).map D.int = _
        have : atI ns (k : Int) = some ns[k] := by
          unfold L2.atI L2.ixN
          rw [if_pos (by omega),
                                                                                                              if_pos (by omega)]
          simp [h]
        rw [this]
        rfl
      exact ⟨ns[k], by simp [hat, h]⟩
    · exact ⟨0, by simp [h]⟩
  obtain ⟨dg, hd⟩ : ∃ dg : Int, cIf (cOr (cTest (cOp ltD (cVar 4) (cC (.int 0)))) (cTest (cOp geD (cVar 4) (cOp powD (cC (.int 10)) (cC (.int 18)))))) (cCB absD (cCons (cVar 4) cNil)) (cC (.int 0)) ⟨[.dat (.scr ns), .dat (.int k), .dat (.int m), x3, .dat (.int own), .un], []⟩ = .ok (.val (.int dg)) ⟨[.dat (.scr ns), .dat (.int k), .dat (.int m), x3, .dat (.int own), .un], []⟩ := by
    by_cases h1 : own < 0
    · exact ⟨-own, by simp [h1, absD]⟩
    · by_cases h2 : 1000000000000000000 ≤ own
      · exact ⟨own, by simp [h1, h2, p1, absD]⟩
      · exact ⟨0, by simp [h1, h2, p1]⟩
  refine ⟨.lst [.int dg, .int ((m * 8117 + own * 64013 + 105019 * ((k : Int) + 1)) % 2147483563), .int 0], ?_, ⟨_, _, _, rfl⟩⟩
  have e1 : (0 : Int) < 2147483563 := by decide
  have s3 : 3 ≤ sizeLine := by rw [sizeLine_eq]; omega
  unfold F__law_jar g__law_jar
  simp -implicitDefEqProofs only [v_new, v_nSeq, List.length_cons, List.length_nil, v_env0, List.map_cons, List.map_nil, v_dAt, List.cons_append, List.nil_append, List.replicate, Nat.reduceAdd, Nat.reduceSub, if_true, v_asg, v_op, v_c, v_bnd, v_rdV, v_opt2, DL.v_var, List.getElem?_cons_zero, List.getElem?_cons_succ, v_varD, v_addI, v_opt, m1, m2, m3, v_cb, v_cons, v_nil, v_rds, v_rds0, v_rds2, Option.bind_some, v_lenS, v_frzV, v_asgF, v_set, List.set_cons_succ, List.set_cons_zero]
  rw [← hmx]
  simp -implicitDefEqProofs only [v_for, v_iter, v_sl, DL.v_var, List.getElem?_cons_zero, List.getElem?_cons_succ, v_varD, v_bnd, v_noPart, v_part, v_c, v_partO, v_rdV, Option.bind_some, v_slS, v_opt, v_frzV, v_iterO, v_itL, v_optB, q1]
  simp -implicitDefEqProofs only [ho, hd, v_bnd, v_frzV, v_asgF, v_set, List.set_cons_succ, List.set_cons_zero]
  simp -implicitDefEqProofs [v_mulI, m4, v_modI, e1, s3]
end K30

namespace K30
open PySem PySem.Spec PyProof.Rows L2 DL TN
/-! drawn webs and clocks, typed -/
def eNet : WebT → D := eP (eT eS) (eT (eP eS eS))
theorem lift_s : ∀ {ws : List Str}, (∀ w ∈ ws, w ∈ pool) → ∃ wn : List Nm, wn.map (·.1) = ws
  | [], _ => ⟨[], rfl⟩
  | w :: ws, h => by
    obtain ⟨wn, e⟩ := lift_s (ws := ws) fun x hx => h x (List.mem_cons_of_mem _ hx)
    exact ⟨⟨w, pool_ok w (h w List.mem_cons_self)⟩ :: wn, by rw [List.map_cons, e]⟩
theorem lift_p : ∀ {ls : List (Str × Str)}, (∀ p ∈ ls, p.1 ∈ pool ∧ p.2 ∈ pool) → ∃ ln : List (Nm × Nm), ln.map (fun p => (p.1.1, p.2.1)) = ls
  | [], _ => ⟨[], rfl⟩
  | p :: ls, h => by
    obtain ⟨ln, e⟩ := lift_p (ls := ls) fun x hx => h x (List.mem_cons_of_mem _ hx)
    obtain ⟨h1, h2⟩ := h p List.mem_cons_self
    exact ⟨(⟨p.1, pool_ok _ h1⟩, ⟨p.2, pool_ok _ h2⟩) :: ln, by rw [List.map_cons, e]⟩
theorem pool_N {x : Nm} (h : x.1 ∈ pool) : x ∈ poolN := by
  have h : x.1 ∈ poolN.map (·.1) := h
  obtain ⟨y, hy, e⟩ := List.mem_map.mp h
  have : y = x := Subtype.ext e
  rw [← this]
  exact hy
theorem net_D {ws : List Str} {ls : List (Str × Str)} {wn : List Nm} {ln : List (Nm × Nm)} (e1 : wn.map (·.1) = ws) (e2 : ln.map (fun p => (p.1.1, p.2.1)) = ls) : netD ws ls = eNet (wn, ln) := by
  subst e1 e2
  unfold netD eNet eP eT
  rw [List.map_map,
                                                                                                              List.map_map]
  rfl
theorem netT_ok {lo hi mx : Nat} (h2 : 2 ≤ lo) (hh : lo ≤ hi) (h9 : hi ≤ 9) (h16 : mx ≤ 16) {d : D} (hd : JarD d) :
    ∃ (n : WebT) (d' : D), F__law_net [.jar 0, .dat (.int lo), .dat (.int hi), .dat (.int mx)] [d] = .ok (eNet n) [d'] ∧ JarD d' ∧ GW n ∧ lo ≤ n.1.length ∧ n.1.length ≤ hi ∧ n.2.length ≤ mx := by
  obtain ⟨ws, ls, d', a1, a2, N⟩ := net_ok h2 hh (by omega) hd
  obtain ⟨wn, e1⟩ := lift_s N.pool
  obtain ⟨ln, e2⟩ := lift_p (ls := ls) fun p hp => ⟨N.pool _ (N.lk.on p hp).1, N.pool _ (N.lk.on p hp).2.1⟩
  have l1 : wn.length = ws.length := by rw [← e1, List.length_map]
  have l2 : ln.length = ls.length := by rw [← e2, List.length_map]
  have mw : ∀ x : Nm, x ∈ wn ↔ x.1 ∈ ws := fun x => by
    rw [← e1, List.mem_map]
    exact ⟨fun h => ⟨x, h, rfl⟩, fun ⟨y, hy, e⟩ => by rw [← Subtype.ext e]; exact hy⟩
  refine ⟨(wn, ln), d', by rw [← net_D e1 e2]; exact a1, a2, ⟨?_, fun x hx => pool_N (N.pool _ ((mw x).mp hx)), ⟨fun p hp => ?_, ?_⟩, ?_, ?_, ?_⟩, ?_, ?_, ?_⟩
  · have := N.nd
    rw [← e1] at this
    exact (List.pairwise_map.mp this).imp fun h z => h (congrArg Subtype.val z)
  · obtain ⟨c1, c2, c3⟩ := N.lk.on (p.1.1, p.2.1) (by rw [← e2]; exact List.mem_map.mpr ⟨p, hp, rfl⟩)
    exact ⟨(mw _).mpr c1, (mw _).mpr c2, fun z => c3 (congrArg Subtype.val z)⟩
  · have := N.lk.dif
    rw [← e2] at this
    exact (List.pairwise_map.mp this).imp fun {p q} h => ⟨fun z => h.1 (by rw [z]), fun z => h.2 (by rw [z]; rfl)⟩
  · show 2 ≤ wn.length
    have := N.lo
    omega
  · show wn.length ≤ 9
    have := N.hi
    omega
  · show ln.length ≤ 16
    have := N.mx
    omega
  · show lo ≤ wn.length
    have := N.lo
    omega
  · show wn.length ≤ hi
    have := N.hi
    omega
  · show ln.length ≤ mx
    have := N.mx
    omega
/-- a good web, untyped -/
theorem gw_un {n : WebT} (W : GW n) : ∃ ws ls, netD ws ls = eNet n ∧ ws.Nodup ∧ (∀ w ∈ ws, w ∈ pool) ∧ 2 ≤ ws.length ∧ ws.length ≤ 9 ∧ DL.Lk ws ls ∧ ls.length ≤ 16 ∧ ls.length = n.2.length := by
  have pn : ∀ x ∈ poolN, x.1 ∈ pool := fun x hx => List.mem_map.mpr ⟨x, hx, rfl⟩
  refine ⟨n.1.map (·.1), n.2.map fun p => (p.1.1, p.2.1), net_D rfl rfl, ?_, ?_, ?_, ?_, ⟨?_, ?_⟩, ?_, ?_⟩
  · exact List.pairwise_map.mpr (W.nd.imp fun h z => h (Subtype.ext z))
  · intro w hw
    obtain ⟨x, hx, rfl⟩ := List.mem_map.mp hw
    exact pn x (W.pl x hx)
  · rw [List.length_map]; exact W.h2
  · rw [List.length_map]; exact W.h9
  · intro p hp
    obtain ⟨q, hq, rfl⟩
                                                                                                              := List.mem_map.mp hp
    obtain ⟨c1, c2, c3⟩ := W.lk.on q hq
    exact ⟨List.mem_map.mpr ⟨_, c1, rfl⟩, List.mem_map.mpr ⟨_, c2, rfl⟩, fun z => c3 (Subtype.ext z)⟩
  · refine List.pairwise_map.mpr (W.lk.dif.imp fun {p q} h => ⟨fun z => h.1 ?_, fun z => h.2 ?_⟩)
    · have z1 := congrArg Prod.fst z
      have z2 := congrArg Prod.snd z
      exact Prod.ext (Subtype.ext z1) (Subtype.ext z2)
    · have z1 := congrArg Prod.fst z
      have z2 := congrArg Prod.snd z
      exact Prod.ext (Subtype.ext z1) (Subtype.ext z2)
  · rw [List.length_map]; exact W.hl
  · rw [List.length_map]
theorem beatsT_ok {n : WebT} (W : GW n) {d : D} (hd : JarD d) : ∃ (ts : List Int) (d' : D), F__law_beats [.jar 0, .dat (eNet n)] [d] = .ok (eT eI ts) [d'] ∧ JarD d' ∧ GT n ts := by
  obtain ⟨ws, ls, e, _, _, _, _, _, hl, el⟩ := gw_un W
  obtain ⟨ts, d', a1, a2, a3⟩ := beats_ok (ws := ws) hl hd
  rw [e] at a1
  exact ⟨ts, d', a1, a2, ⟨by rw [a3.1, el], a3.2⟩⟩
theorem clock_D {ws : List Str} {ls : List (Str × Str)} {n : WebT} {ts : List Int} (e : netD ws ls = eNet n) : clockD ws ls ts = eC (n, ts) := by
  unfold clockD webD eC
  rw [e]
  rfl
theorem clockT_ok {n : WebT} {ts : List Int} (W : GW n) (T : GT n ts) : F__law_clock [.dat (eNet n), .dat (eT eI ts)] [] = .ok (eC (n, ts)) [] := by
  obtain ⟨ws, ls, e, h1, h2, h3, h4, h5, hl, el⟩ := gw_un W
  have := clock_ok h1 h2 h3 h4 h5 hl (ts := ts) ⟨by rw [el]; exact T.len, T.ok⟩
  rw [e, clock_D e] at this
  exact this
/-- a walk that changes its own slot, and what J tells -/
theorem forL_all {J : Type} {g : Tg} {body : M Fl} (E : J → S → DL.Env) (P : J → Prop) (hg : ∀ d j x, g d (E j x) = some (E j (.dat d))) : ∀ {ds : List D}, (∀ d ∈ ds, ∀ j, P j → ∃ j', P j' ∧ body (E j (.dat d)) = .ok .nx (E j' (.dat d))) →
    ∀ j x, P j → ∃ j' x', P j' ∧ forL g body ds (E j x) = .ok .nx (E j' x')
  | [], _, j, x, hj => ⟨j, x, hj, rfl⟩
  | d :: ds, h, j, x, hj => by
    obtain ⟨j1, p1, b1⟩ := h d List.mem_cons_self j hj
    obtain ⟨j', x', p2, b2⟩ := forL_all E P hg (ds := ds) (fun d' hd' => h d' (List.mem_cons_of_mem _ hd')) j1 (.dat d) p1
    refine ⟨j', x', p2, ?_⟩
    rw [forL, hg]
    simp only [b1, v_bnd]
    exact b2
end K30

namespace K30
open PySem PySem.Spec PyProof.Rows L2 DL TN
/-- a walk over what is known, with its own targets -/
theorem forL_inv {J : Type} {g : Tg} {body : M Fl} (E : J → DL.Env) (P : J → Prop) : ∀ {ds : List D}, (∀ d ∈ ds, ∀ j, P j → ∃ e' fl j', g d (E j) = some e' ∧ P j' ∧ body e' = .ok fl (E j') ∧ (fl = .nx ∨ fl = .ct)) →
    ∀ j, P j → ∃ j', P j' ∧ forL g body ds (E j) = .ok .nx (E j')
  | [], _, j, hj => ⟨j, hj, rfl⟩
  | d :: ds, h, j, hj => by
    obtain ⟨e', fl, j1, g1, p1, b1, hf⟩ := h d List.mem_cons_self j hj
    obtain ⟨j', p2, b2⟩ := forL_inv E P (ds := ds) (fun d' hd' => h d' (List.mem_cons_of_mem _ hd')) j1 p1
    refine ⟨j', p2, ?_⟩
    rw [forL, g1]
    rcases hf with rfl | rfl
    · simp only [b1]
      exact b2
    · simp only [b1]
      exact b2
/-! k30's right -/
theorem repr_two {lo hg : Int} (h0 : 0 ≤ lo) (h1 : hg ≤ 1000000000000) (h2 : lo ≤ hg) : ∃ s, reprT (eP eI eI) (lo, hg) = some s := by
  refine reprT_ok rfl ((eq_P eq_I eq_I).sh _) (by decide) (m := 100) ((Txt.tup (l := [eI lo, eI hg]) (n := 13) fun d hd => ?_).mono (by simp)) (by decide)
  rcases List.mem_cons.mp
                                                                                                              hd with rfl | hd
  · exact int_txt h0 (by omega)
  · rw [List.mem_singleton.mp hd]
    exact int_txt (by omega) h1
def rgE (n : WebT) (ts : List Int) (x1 : S) (j : S × S × D) : DL.Env := ⟨[.jar 0, x1, .dat (eNet n), .dat (eT eI ts), .dat (eC (n, ts)), j.1, j.2.1], [j.2.2]⟩
theorem each {n : WebT} {ts : List Int} (W : GW n) (T : GT n ts) {i : Nat} (hi : i < n.2.length) {x1 x6 : S} {d : D} : ∃ x6' : S, b1__law_right (rgE n ts x1 (.dat (.int i), x6, d)) = .ok .nx (rgE n ts x1 (.dat (.int i), x6', d)) := by
  obtain ⟨lo, hg, e1, e2, h0, h1, h2⟩ := tie_right_eq W T hi
  have p1 : F_slack [.dat (eC (n, ts)), .dat (.int i)] [] = .ok (eP eI eI (lo, hg)) [] := r_slack (n, ts) (i : Int) (lo, hg) e1
  have p2 : F__law_tie_right [.dat (eNet n), .dat (eT eI ts), .dat (.int i), .dat (eP eI eI (lo, hg))] [] = .ok (.bl true) [] := r__law_tie_right n ts (i : Int) (lo, hg) true e2
  obtain ⟨s, hs⟩ := repr_two h0 h1 h2
  refine ⟨.dat (eP eI eI (lo, hg)), ?_⟩
  have t1 : TB (cTest (cOp neD (cCB repr2D (cCons (cCallK F_slack 0 2 [1, 0] cNil (cCons (cVar 5) (cCons (cVar 4) cNil))) cNil)) (cCB repr2D (cCons (cVar 6) cNil)))) (rgE n ts x1 (.dat (.int i), .dat (eP eI eI (lo, hg)), d)) (some false) := fun b hb => by
    refine tb_test (tv_op (op_ne eq_S) (tv_cb1 (fn_repr (enc := eP eI eI)) (tc_callK02 (t := fun x0 x1 => t_slack x1 x0) (fun x0 x1 r h => r_slack x1 x0 r h) (tv_var (enc := eI) (a := (i : Int)) 5 rfl) (tv_var (enc := eC) (a := (n, ts)) 4 rfl)).r).r (tv_cb1 (fn_repr (enc := eP eI eI)) (tv_var (enc := eP eI eI) (a := (lo, hg)) 6 rfl).r).r) b ?_
    rw [← hb]
    simp only [Option.bind_some, e1, hs]
    rw [show eqv s s = true from eqv_self]
    rfl
  have t2 := t1 false rfl
  unfold rgE at t2 ⊢
  dsimp only at t2
  simp -implicitDefEqProofs only [b1__law_right, v_seq, v_asg, v_call, v_cons, DL.v_var, List.getElem?_cons_zero, List.getElem?_cons_succ, v_varD, v_bnd, v_nil, v_frzs, v_frzV, v_frz2, v_frzs0, v_frzC, v_callF, List.map_cons, List.map_nil, p1, v_callO, v_asgF, v_set, List.set_cons_zero, List.set_cons_succ, v_nx]
  simp -implicitDefEqProofs only [v_sIf, DL.v_or, DL.v_not, v_tru, v_call, v_cons, DL.v_var, List.getElem?_cons_zero, List.getElem?_cons_succ, v_varD, v_bnd, v_nil, v_frzs, v_frzV, v_frz2, v_frzs0, v_frzC, v_callF, List.map_cons, List.map_nil, p2, v_callO, v_rdV, Option.bind_some, v_truB, v_optB, Bool.not_true, Bool.false_eq_true, if_false, t2, v_sNx]
def rgA (z : S × S × S × S × S × S × D) : DL.Env := ⟨[.jar 0, z.1, z.2.1, z.2.2.1, z.2.2.2.1, z.2.2.2.2.1, z.2.2.2.2.2.1], [z.2.2.2.2.2.2]⟩
theorem one {s1 s2 s3 s4 s5 s6 : S} {d : D} (hd : JarD d) : ∃ z, JarD z.2.2.2.2.2.2 ∧ b2__law_right (rgA (s1, s2, s3, s4, s5, s6, d)) = .ok .nx (rgA z) := by
  obtain ⟨n, d1, a1, a2, W, _, hn, _⟩ := netT_ok (lo := 2) (hi := 6) (mx := 9) (by omega) (by omega) (by omega) (by omega) hd
  obtain ⟨ts, d2, b1, b2, T⟩ := beatsT_ok W a2
  have c1 := clockT_ok W T
  have a1' : F__law_net [.jar 0, .dat (.int 2), .dat (.int 6), .dat (.int 9)] [d] = .ok (eNet n) [d1] := a1
  have hl := W.hl
  obtain ⟨⟨y5, y6, d3⟩, hj, q1⟩ := forL_inv (J := S × S × D) (g := gN 5) (body := b1__law_right) (rgE n ts s1) (fun j => j.2.2 = d2) (ds := rng 0 ts.length) (fun dd hdd ⟨y5, y6, d⟩ hd => by
    obtain ⟨i, hi, rfl⟩ : ∃ i : Nat, i < ts.length ∧ dd = .int (i : Int) := by
      unfold rng at hdd
      obtain ⟨i, hi, rfl⟩ := List.mem_map.mp hdd
      rw [List.mem_range] at hi
      exact ⟨i, hi, by rw [Int.zero_add]⟩
    obtain ⟨x6, e1⟩ := each W T (i := i) (by have := T.len; omega) (x1 := s1) (x6 := y6) (d := d)
    exact ⟨_, .nx, (.dat (.int i), x6, d), rfl, hd, e1, .inl rfl⟩) (s5, s6, d2) rfl
  refine ⟨(s1, .dat (eNet n), .dat (eT eI ts), .dat (eC (n, ts)), y5, y6, d3), by rw [show d3 = d2 from hj]; exact b2, ?_⟩
  have r4 : rngI1 [.val (.int (ts.length : Int))] = some (rng 0 ts.length) := v_rng (by omega) (by have := T.len; omega)
  have l4 : lenD [eT eI ts] = some (.int (ts.length : Int)) := by
    show lenD [.tup (ts.map eI)] = _
    rw [v_lenT, List.length_map]
  unfold rgE at q1
  unfold rgA
  simp -implicitDefEqProofs only [b2__law_right, v_seq, v_asg, v_callJ, v_cons, DL.v_var, List.getElem?_cons_zero, List.getElem?_cons_succ, v_varJ, v_varD, v_c, v_bnd, v_nil, v_callX, v_rdW, v_rdOj, v_callY, v_frzs, v_frzV, v_frz2, v_frzs0, v_frzC, v_callW, v_callV, List.map_cons, List.map_nil, a1', v_callJo, v_put, v_putOj, v_outE, List.set_cons_zero, v_asgF, v_set, List.set_cons_succ, v_nx,
    b1, v_call, v_callF, c1, v_callO, v_for, v_range1, v_cb, v_rds, v_rds0, v_rds2, v_rdV, Option.bind_some, l4, v_opt, r4, v_optB, q1]
theorem right_ok {d : D} (hd : JarD d) : ∃ d', F__law_right [.jar 0] [d] = .ok (.bl true) [d'] := by
  obtain ⟨⟨s1, s2, s3, s4, s5, s6, d'⟩, hj, q1⟩ := forL_inv (g := gN 1) (body := b2__law_right) rgA (fun j => JarD j.2.2.2.2.2.2) (ds := rng 0 3) (fun dd hdd ⟨s1, s2, s3, s4, s5, s6, d⟩ hd => by
    obtain ⟨z, h1, h2⟩ := one (s1 := .dat dd) (s2 := s2) (s3 := s3) (s4 := s4) (s5 := s5) (s6 := s6) hd
    exact ⟨_, .nx, z, rfl, h1, h2, .inl rfl⟩) (.un, .un, .un, .un, .un, .un, d) hd
  refine ⟨d', ?_⟩
  unfold rgA at q1
  have r3 : rngI1 [.val (.int 3)] = some (rng 0 3) := rfl
  simp -implicitDefEqProofs only [F__law_right, g__law_right, v_fn, List.length_cons, List.length_nil, v_env0, List.map_cons, List.map_nil, v_cAt, v_dAt, List.cons_append, List.nil_append, List.replicate, Nat.reduceAdd, Nat.reduceSub, if_true, v_seq, v_for, v_range1, r3, v_cons, v_c, v_bnd, v_nil, v_frzs, v_frzV, v_frz2, v_frzs0, v_frzC, v_optB, q1, v_nx, v_ret, v_retF, v_outR]
theorem holds : ∀ ns : List Int, ns.length ≤ 63 → F_law [.dat (.scr ns)] [] = .ok (.bl true) [] := by
  intro ns hl
  obtain ⟨m, hm⟩ : ∃ m : Int, m = if (if (5 : Int) < ns.length then (5 : Int) else ns.length) > 2 then (if (5 : Int) < ns.length then (5 : Int) else ns.length) else 2 := ⟨_, rfl⟩
  have h5 : m ≤ 5 := by rw [hm]; split <;> split <;> omega
  have h0 : 0 ≤ m := by rw [hm]; split <;> split <;> omega
  obtain ⟨n, rfl⟩ : ∃ n : Nat, m = n := ⟨m.toNat, by omega⟩
  obtain ⟨e', q1, k, x, _, _, he⟩ := forL_ok (g := gN 1) (body := b1_law) (ds := rng 0 n) (e := ⟨[.dat (.scr ns), .un], []⟩)
    (fun ds e => ∃ (k : Nat) (x : S), k ≤ n ∧ ds = rng k (n - k) ∧ e = ⟨[.dat (.scr ns), x], []⟩)
    (fun dd ds e ⟨k, x, hk, hd, he⟩ => by
      have hlt : k < n := by
        rcases Nat.lt_or_ge k n with h | h
        · exact h
        · rw [show n - k = 0 by omega] at hd
          cases hd
      rw [show n - k = (n - (k + 1)) + 1 by omega, rng_cons] at hd
      cases hd
      subst he
      obtain ⟨d, j1, j2⟩ := jar_ok (ns := ns) (k := k) (by omega) hl
      obtain ⟨d', r1⟩ := right_ok j2
      refine ⟨⟨[.dat (.scr ns), .dat (.int k)], []⟩, ⟨[.dat (.scr ns), .dat (.int k)], []⟩, rfl, .inl ?_, k + 1, .dat (.int k), hlt, by rw [show ((k + 1 : Nat) : Int) = (k : Int) + 1 by omega], rfl⟩
      simp -implicitDefEqProofs only [b1_law, v_sIf, DL.v_not, v_tru, v_callT, v_nCall, v_cons, DL.v_var, List.getElem?_cons_zero, List.getElem?_cons_succ, v_varD, v_bnd, v_nil, v_frzs, v_frzV, v_frz2, v_frzs0, v_frzC, v_nCallO, List.map_cons, List.map_nil, j1, v_callN, r1, v_callTo, v_rdV, Option.bind_some, v_truB, v_optB, Bool.not_true, Bool.false_eq_true, if_false, v_sNx])
    ⟨0, .un, Nat.zero_le _, by simp, rfl⟩
  subst he
  have r1 : rngI1 [.val (.int (n : Int))] = some (rng 0 n) := v_rng (by omega) (by omega)
  simp -implicitDefEqProofs only [F_law, g_law, v_fn, List.length_cons, List.length_nil, v_env0, List.map_cons, List.map_nil, v_dAt, List.cons_append, List.nil_append, List.replicate, Nat.reduceAdd, Nat.reduceSub, if_true, v_seq, v_for, v_range1, v_cons, v_cb, v_c, v_bnd, DL.v_var, List.getElem?_cons_zero, List.getElem?_cons_succ, v_varD, v_nil, v_rds, v_rds0, v_rds2, v_rdV, Option.bind_some, v_lenS, v_opt, v_min, v_max]
  rw [← hm, r1]
  simp -implicitDefEqProofs only [v_optB, v_bnd, q1, v_nx, v_ret, v_c, v_frzV, v_retF, v_outR]
end K30

open PySem PyProof.Rows PySem.W PySem.Calls
theorem PySem.Challenge.cw_hurryways_k30_whole_slack_of_ties_holds : PySem.Challenge.rw_hurryways_k30_whole_slack_of_ties.Holds := by
  w_on; o_law
  refine HandSHeadRun.head_any (r := OpenLaw.row PySem.Challenge.rw_hurryways_k30_whole_slack_of_ties) (q := view (OpenLaw.row PySem.Challenge.rw_hurryways_k30_whole_slack_of_ties).prog [57]) (H := K30.hk) (ob := K30.ob) (M := 20000) (loose := K30.loose)
    (d := HandSHeadRun.topDef (OpenLaw.row PySem.Challenge.rw_hurryways_k30_whole_slack_of_ties).prog 57) (kwd := []) K30.ob_eq (by kernel_rfl) (fun s => by kernel_rfl) K30.run (by kernel_rfl) (by kernel_rfl) (by kernel_rfl) (by rfl)
    (by first | assumption | decide +kernel) (by decide +kernel) ⟨rfl, rfl, rfl, rfl, rfl, by decide +kernel⟩ ?hw ?hc
  case hw => w_witness2
  case hc =>
    refine DL.walk_D (l := PySem.Challenge.rw_hurryways_k30_whole_slack_of_ties) (n := 63) (k := 8) (x := "_law_script") (Φ := K30.F_law) rfl (by decide) (by kernel_rfl) ⟨rfl, by decide, by decide⟩ ?F K30.holds
    intro w mg fa h Y G hmg0
    obtain ⟨K, KX, c⟩ := Y
    have hmg : mg ("law" : PySem.Str)
                                                                                                              = some (.ref fa) := by
      have e : (HandSHeadRun.topDef (OpenLaw.row PySem.Challenge.rw_hurryways_k30_whole_slack_of_ties).prog 57).name = ("law" : PySem.Str) := by kernel_rfl
      rw [← e]
      exact hmg0
    obtain ⟨T, hT⟩ := K30.facts KX G c
    have ea : fa = T.a_law := by
      have z := hmg.symm.trans T.m_law
      cases z
      rfl
    subst ea
    exact ⟨K, T.d_law, K30.clK K, KX, fun s v => L2.FunD.bindsA (ps := ["_law_script"]) T.F_law (fun _ _ _ _ _ _ us hl => match us, hl with | [_], _ => rfl) s [v] rfl, fun base _ _ => (K30.ok_law T)⟩

