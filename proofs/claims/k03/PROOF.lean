import PyProof.Rows.All
import Wide.All
import OpenK.AllK
import Wide.FinOn
import HandS.ForMost
import HandS.ForExc
import HandS.CallSlots
import HandS.Deep
import HandS.HeadHook2
import HandS.Property
import HandS.Zip
import HandS.Lambda
import HandS.ExcCtx
import HandS.HotCalls
import HandS.ExcInitHot
import HandS.TupAny
import HandS.TupMul
import HandS.IsInst
import HandS.Text
import HandS.Conv
import HandS.Defaults
import KE.SortData
import HandS.DictComp
import HandS.Head0
import HandS.Head1
import HandS.Head2
import HandS.HeadEnd
import KE.SortKeyHeap
import KE.KSortKey
import HandS.SortKw
import HandS.Strs
import HandS.OwnEq
import PyProof.CollectStr
import PyProof.StrBlock2
import HandS.Style
import HandS.SetFor
import KE.KEqDict
import KE.KEqNest
import HandS.NoneIn
import KE.KExcInit
import KE.KExcIs
import HandS.ExcIs
import HandS.ExcField
import KE.KTryMore
import HandS.EndTab
import KE.KNestM
import KE.DataFind
import HandS.MakeKwOnly
import PySem.Challenge.RW_hurryways_k03_whole_webs_refused
set_option Elab.async false
set_option linter.all false
set_option maxRecDepth 100000
set_option maxHeartbeats 0
namespace DL
open PySem L2 PySem.Spec PyProof.Rows

/-! ### data -/
inductive D where
  | non | bl (b : Bool) | int (i : Int) | str (s : Str)
  | tup (l : List D) | lst (l : List D)
  | dct (ks : List Key) (l : List D) | dcT (ks : List (List Key)) (l : List D)
  | obj (c : Str) (ns : List Str) (l : List D)
  | scr (l : List Int)
  | tab (q : Str)
/-- the table of code objects at P: each bears the name q -/
def TabX (H G : Hp) (P : Addr) (q : Str) : Prop := ∃ ps : Array Value, H P = some (.tbl ps) ∧ TriplesOk ps.toList ∧ ∀ (pos : Pos) (cv : Value), codeAmong pos ps.toList = some cv → ∃ c, cv = .ref c ∧ G c = some (LamX.CodeO c q)
theorem TabX.mono {H G H' G' : Hp} {P : Addr} {q : Str} (t : TabX H G P q) (e : ∀ o, H P = some o → H' P = some o) (g : Same G G') : TabX H' G' P q := by
  obtain ⟨ps, h1, h2, h3⟩ := t
  exact ⟨ps, e _ h1, h2, fun pos cv hc => (h3 pos cv hc).imp fun c z => ⟨z.1, g _ _ z.2⟩⟩

section
variable (K : PySem.W.Frag) (cl : Str → Addr) (G : Hp)
mutual
inductive Rep : D → V → Prop
  | non : Rep .non .non
  | bl {b : Bool} : Rep (.bl b) (.bl b)
  | int {i : Int} : Rep (.int i) (.int i)
  | str {s : Str} : Rep (.str s) (.str s)
  | tup {l : List D} {a : Addr} {vs : List V} : SqT K G a vs → RepL l vs → Rep (.tup l) (.ref a)
  | lst {l : List D} {a : Addr} {vs : List V} : G a = some (.lst vs) → RepL l vs → Rep (.lst l) (.ref a)
  | scr {l : List Int} {a : Addr} : SqL K G a (l.map V.int) → Rep (.scr l) (.ref a)
  | dct {ks : List Key} {l : List D} {a : Addr} {vs : List V} : Rd G a (.dK (ks.zip vs)) → ks.length = vs.length → RepL l vs → Rep (.dct ks l) (.ref a)
  | dcT {ks : List (List Key)} {l : List D} {a : Addr} {vs : List V} : Rd G a (.dT (ks.zip vs)) → ks.length = vs.length → RepL l vs → Rep (.dcT ks l) (.ref a)
  | obj {c : Str} {ns : List Str} {l : List D} {a dx : Addr} {vs : List V} : G a = some (.ins (cl c) dx (ns.zip vs)) → ns.length = vs.length → RepL l vs → Rep (.obj c ns l) (.ref a)
  | tab {q : Str} {a : Addr} : TabX G G a q → Rep (.tab q) (.ref a)
inductive RepL : List D → List V → Prop
  | nil : RepL [] []
  | cons {d : D} {v : V} {ds : List D} {vs : List V} : Rep d v → RepL ds vs → RepL (d :: ds) (v :: vs)
end
end

theorem Rd.same {H H' : Hp} {a : Addr} {u : HO} (e : Same H H') (h : Rd H a u) : Rd H' a u := by
  rcases h with h | ⟨o, h⟩
  · exact .inl (e _ _ h)
  · exact .inr ⟨o, e _ _ h⟩
theorem SqT.same {K : PySem.W.Frag} {H H' : Hp} {a : Addr} {xs : List V} (e : Same H H') (h : SqT K H a xs) : SqT K H' a xs := by
  rcases h with (h
                                                                                                              | ⟨o, h⟩) | h
  · exact .inl (.inl (e _ _ h))
  · exact .inl (.inr
                                                                                                              ⟨o, e _ _ h⟩)
  · exact .inr h

section
variable {K : PySem.W.Frag} {cl : Str → Addr} {G G' H : Hp}
mutual
theorem Rep.mono (e : Same G G') : ∀ {d : D} {v : V}, Rep K cl G d v → Rep K cl G' d v
  | _, _, .non => .non
  | _, _, .bl => .bl
  | _, _, .int => .int
  | _, _, .str => .str
  | _, _, .tup h r => .tup (SqT.same e h) (RepL.mono e r)
  | _, _, .lst h r => .lst (e _ _ h) (RepL.mono e r)
  | _, _, .scr h => .scr (Same.seq e h)
  | _, _, .dct h l r => .dct (Rd.same e h) l (RepL.mono e r)
  | _, _, .dcT h l r => .dcT (Rd.same e h) l (RepL.mono e r)
  | _, _, .obj h l r => .obj (e _ _ h) l (RepL.mono e r)
  | _, _, .tab h => .tab (h.mono (e _) e)
theorem RepL.mono (e : Same G G') : ∀ {d : List D} {v : List V}, RepL K cl G d v → RepL K cl G' d v
  | _, _, .nil => .nil
  | _, _, .cons h r => .cons (Rep.mono e h) (RepL.mono e r)
end

theorem RepL.length : ∀ {ds : List D} {vs : List V}, RepL K cl G ds vs → ds.length = vs.length
  | _, _, .nil => rfl
  | _, _, .cons _ r => congrArg (· + 1) (RepL.length r)
theorem RepL.get : ∀ {ds : List D} {vs : List V} {i : Nat} {v : V}, RepL K cl G ds vs → vs[i]? = some v → ∃ d, ds[i]? = some d ∧ Rep K cl G d v
  | _, _, _, _, .nil, e =>
                                                                                                              by simp at e
  | _, _, 0, _, .cons r _, e =>
                                                                                                              by simp at e; subst e; exact ⟨_, rfl, r⟩
  | _, _, i + 1, v, .cons _ t, e => by
    obtain ⟨d, h1, h2⟩ := RepL.get (i := i) (v := v) t (by simpa using e)
    exact ⟨d, by simpa using h1, h2⟩
theorem RepL.getD : ∀ {ds : List D} {vs : List V} {i : Nat} {d : D}, RepL K cl G ds vs → ds[i]? = some d → ∃ v, vs[i]? = some v ∧ Rep K cl G d v
  | _, _, _, _, .nil, e =>
                                                                                                              by simp at e
  | _, _, 0, _, .cons r _, e =>
                                                                                                              by simp at e; subst e; exact ⟨_, rfl, r⟩
  | _, _, i + 1, d, .cons _ t, e => by
    obtain ⟨v, h1, h2⟩ := RepL.getD (i := i) (d := d) t (by simpa using e)
    exact ⟨v, by simpa using h1, h2⟩
theorem RepL.append : ∀ {ds es : List D} {vs us : List V}, RepL K cl G ds vs → RepL K cl G es us → RepL K cl G (ds ++ es) (vs ++ us)
  | _, _, _, _, .nil, s => s
  | _, _, _, _, .cons r t, s => .cons r (RepL.append t s)
theorem RepL.take : ∀ {ds : List D} {vs : List V} (n : Nat), RepL K cl G ds vs → RepL K cl G (ds.take n) (vs.take n)
  | _, _, 0, _ => .nil
  | _, _, _ + 1, .nil => .nil
  | _, _, n + 1, .cons r t => .cons r (RepL.take n t)
theorem RepL.drop : ∀ {ds : List D} {vs : List V} (n : Nat), RepL K cl G ds vs → RepL K cl G (ds.drop n) (vs.drop n)
  | _, _, 0, r => r
  | _, _, _ + 1, .nil => .nil
  | _, _, n + 1, .cons _ t => RepL.drop n t
theorem RepL.reverse {ds : List D} {vs : List V} (h : RepL K cl G ds vs) : RepL K cl G ds.reverse vs.reverse := by
  match ds, vs, h with
  | _, _, .nil => exact .nil
  | _, _, .cons r t => simp only [List.reverse_cons]; exact (RepL.reverse t).append (.cons r .nil)
theorem RepL.set {d : D} {v : V} (r : Rep K cl G d v) : ∀ {ds : List D} {vs : List V} (i : Nat), RepL K cl G ds vs → RepL K cl G (ds.set i d) (vs.set i v)
  | _, _, _, .nil => .nil
  | _, _, 0, .cons _ t =>
                                                                                                              .cons r t
  | _, _, i + 1, .cons q t => .cons q (RepL.set r i t)
theorem RepL.dropLast : ∀ {ds : List D} {vs : List V}, RepL K cl G ds vs → RepL K cl G ds.dropLast vs.dropLast
  | _, _, .nil => .nil
  | _, _, .cons _ .nil => .nil
  | _, _, .cons r (.cons q t) => .cons r (RepL.dropLast (.cons q t))
theorem RepL.ints : ∀ {ns : List Int} {vs : List V}, RepL K cl G (ns.map D.int) vs → vs = ns.map V.int
  | [], _, .nil => rfl
  | _ :: _, _, .cons .int t => by rw [RepL.ints t]; rfl
theorem RepL.strs : ∀ {ns : List Str} {vs : List V}, RepL K cl G (ns.map D.str) vs → vs = ns.map V.str
  | [], _, .nil => rfl
  | _ :: _, _, .cons .str t => by rw [RepL.strs t]; rfl
theorem RepL.bls : ∀ {ns : List Bool} {vs : List V}, RepL K cl G (ns.map D.bl) vs → vs = ns.map V.bl
  | [], _, .nil => rfl
  | _ :: _, _, .cons .bl t => by rw [RepL.bls t]; rfl
theorem RepL.of_ints : ∀ (ns : List Int), RepL K cl G (ns.map D.int) (ns.map V.int)
  | [] => .nil
  | _ :: r => .cons .int (RepL.of_ints r)
theorem RepL.of_strs : ∀ (ns : List Str), RepL K cl G (ns.map D.str) (ns.map V.str)
  | [] => .nil
  | _ :: r => .cons .str (RepL.of_strs r)
theorem RepL.of_bls : ∀ (ns : List Bool), RepL K cl G (ns.map D.bl) (ns.map V.bl)
  | [] => .nil
  | _ :: r => .cons .bl (RepL.of_bls r)
end

/-! ### plain data, for == and repr -/
mutual
def D.py : D → PyData
  | .non => .none
  | .bl b => .bool b
  | .int i => .int i
  | .str s => .str s
  | .tup l => .tuple (D.pyL l)
  | .lst l => .list (D.pyL l)
  | _ => .dict []
def D.pyL : List D → List PyData
  | [] => []
  | d :: r => d.py :: D.pyL r
end
mutual
/-- no objects, no dicts -/
def D.pl : D → Bool
  | .non | .bl _ | .int _ | .str _ => true
  | .tup l | .lst l => D.plL l
  | _ => false
def D.plL : List D → Bool
  | [] => true
  | d :: r => d.pl && D.plL r
end
section
variable {K : PySem.W.Frag} {cl : Str → Addr} {G : Hp}
mutual
theorem Rep.dp : ∀ {d : D} {v : V}, Rep K cl G d v → d.pl = true → Dp K G v d.py
  | _, _, .non, _ => .non
  | _, _, .bl, _ => .bl _
  | _, _, .int, _ => .int _
  | _, _, .str, _ => .str _
  | _, _, .tup h r, p => .tup h (RepL.dp r (by simpa [D.pl] using p))
  | _, _, .lst h r, p => .lst (SqL.of h) (RepL.dp r (by simpa [D.pl] using p))
  | _, _, .scr _, p => by simp [D.pl] at p
  | _, _, .dct _ _ _, p => by simp [D.pl] at p
  | _, _, .dcT _ _ _, p => by simp [D.pl] at p
  | _, _, .obj _ _ _, p => by simp [D.pl] at p
  | _, _, .tab _, p => by simp [D.pl] at p
theorem RepL.dp : ∀ {d : List D} {v : List V}, RepL K cl G d v → D.plL d = true → DpAll K G v (D.pyL d)
  | _, _, .nil, _ => .nil
  | d :: ds, _, .cons h r, p => by
    have p' : d.pl = true ∧ D.plL ds = true := by simpa [D.plL] using p
    exact .cons (Rep.dp h p'.1) (RepL.dp r p'.2)
end
end

/-! ### the state -/
inductive S where
  | un | dat (d : D) | own (d : D) | jar (k : Nat) | ptr
structure Env where
  s : List S
  j : List D
structure Exc where
  c : Str
  ns : List Str
  l : List D
inductive Out (α : Type) where
  | ok (a : α) (e : Env) | exn (x : Exc) (e : Env) | bad
abbrev M (α : Type) := Env → Out α
def Out.bnd {α β : Type} (o : Out α) (k : α → Env → Out β) : Out β := match o with
  | .ok a e => k a e
  | .exn x e => .exn x e
  | .bad => .bad
/-- a value: data, or the whole of what slot i owns (or was lent) -/
inductive R where
  | val (d : D) | whole (i : Nat)
def Env.rd (e : Env) : R → Option D
  | .val d => some d
  | .whole i => match e.s[i]? with
    | some (.own d) => some d
    | some (.jar k) => e.j[k]?
    | _ => none
def Env.setS (e : Env) (i : Nat) (x : S) : Env := ⟨e.s.set i x, e.j⟩

structure Fra where
  H0 : Hp
  G0 : Hp
  js : List Addr
  ex : Addr

section
variable (K : PySem.W.Frag) (cl : Str → Addr) (F : Fra)
/-- what stands at a in H, its items in G -/
def Own (H G : Hp) (a : Addr) : D → Prop
  | .lst l => ∃ vs, H a = some (.lst vs) ∧ RepL K cl G l vs
  | .dct ks l => ∃ vs, H a = some (.dK (ks.zip vs)) ∧ ks.length = vs.length ∧ RepL K cl G l vs
  | .dcT ks l => ∃ vs, H a = some (.dT (ks.zip vs)) ∧ ks.length = vs.length ∧ RepL K cl G l vs
  | .obj c ns l => ∃ dx vs, H a = some (.ins (cl c) dx (ns.zip vs)) ∧ ns.length = vs.length ∧ RepL K cl G l vs
  | .tab q => TabX H G a q
  | _ => False
def SlotOk (H G : Hp) (σ : L2.St) (i : Nat) : S → Prop
  | .un => True
  | .dat d => ∃ v, σ[i]? = some (some v) ∧ Rep K cl G d v
  | .own d => ∃ a, σ[i]? = some (some (.ref a)) ∧ G a = none ∧ F.H0 a = none ∧ Own K cl H G a d
  | .jar k => ∃ a, F.js[k]? = some a ∧ σ[i]? = some (some (.ref a))
  | .ptr => σ[i]? = some (some (.ref F.ex))
structure Jars (js : List Addr) (H G : Hp) (j : List D) : Prop where
  len : j.length = js.length
  nd : js.Nodup
  at_ : ∀ (k : Nat) a d, js[k]? = some a → j[k]? = some d → G a = none ∧ Own K cl H G a d
/-- the frame's part of the state -/
structure Ret (H G : Hp) (j : List D) : Prop where
  gh : Same G H
  g0 : Same F.G0 G
  jars : Jars K cl F.js H G j
  fr : ∀ a o, F.H0 a = some o → a ∉ F.js → H a = some o
  fg : ∀ a o, F.H0 a = some o → F.G0 a = none → G a = none
structure Stt (e : Env) (σ : L2.St) (H G : Hp) : Prop where
  ret : Ret K cl F H G e.j
  jh : ∀ a ∈ F.js, F.H0 a ≠ none
  len : σ.length = e.s.length
  slot : ∀ (i : Nat) (x : S), e.s[i]? = some x → SlotOk K cl F H G σ i x
  inj : ∀ (i j : Nat) (d d' : D) (a : Addr), e.s[i]? = some (.own d) → e.s[j]? = some (.own d') → σ[i]? = some (some (.ref a)) → σ[j]? = some (some (.ref a)) → i = j
/-- what no slot owns -/
def Loose (e : Env) (σ : L2.St) (a : Addr) : Prop := a ∉ F.js ∧ ∀ (i : Nat) (d : D), e.s[i]? = some (.own d) → σ[i]? ≠ some (some (.ref a))
/-- from one state to a later one within an expression -/
structure Kp (σ : L2.St) (e : Env) (H G : Hp) (e' : Env) (H' G' : Hp) : Prop where
  gg : Same G G'
  kp : ∀ a o, H a = some o → Loose F e σ a → H' a = some o ∧ (G a = none → G' a = none)
  ow : ∀ (i : Nat) (d : D), e'.s[i]? = some (.own d) → ∃ d', e.s[i]? = some (.own d')
def RR (σ : L2.St) (G : Hp) : R → V → Prop
  | .val d, v => Rep K cl G d v
  | .whole i, v => σ[i]? = some (some v)
/-- seen from above: the object in H, its items in G -/
def Top (H G : Hp) (d : D) (v : V) : Prop := Rep K cl G d v ∨ ∃ a, v = .ref a ∧ G a = none ∧ Own K cl H G a d
/-- new objects are laid -/
inductive Step : Hp → Hp → Hp → Hp → Prop
  | refl {H G : Hp} : Step H G H G
  | lay {H G H' G' : Hp} {p : Addr} {o : HO} : Step H G H' G' → H' p = none → Step H G (upd H' p o) (upd G' p o)
  | grow {H G H' G' H'' : Hp} : Step H G H' G' → Same H' H'' → Step H G H'' G'
end

section
variable {K : PySem.W.Frag} {cl : Str → Addr} {F : Fra} {e e' : Env} {σ : L2.St} {H G H' G' : Hp}
theorem same_upd {p : Addr} {o : HO} (h : H p = none) : Same H (upd H p o) := fun b u q => by rw [upd_ne (ne_of_none q h)]; exact q
theorem Own.mono {a : Addr} {d : D} (h : Own K cl H G a d) (e : ∀ o, H a = some o → H' a = some o) (g : Same G G') : Own K cl H' G' a d := by
  cases d with
  | lst l => obtain ⟨vs, h1, h2⟩ := h; exact ⟨vs, e _ h1, h2.mono g⟩
  | dct ks l => obtain ⟨vs, h1, h3, h2⟩ := h; exact ⟨vs, e _ h1, h3, h2.mono g⟩
  | dcT ks l => obtain ⟨vs, h1, h3, h2⟩ := h; exact ⟨vs, e _ h1, h3, h2.mono g⟩
  | obj c ns l => obtain ⟨dx, vs, h1, h3, h2⟩ := h; exact ⟨dx, vs, e _ h1, h3, h2.mono g⟩
  | tab q => exact TabX.mono h e g
  | _ => exact h.elim
theorem Own.ex {a : Addr} {d : D} (h : Own K cl H G a d) : ∃ o, H a = some o := by
  cases d with
  | lst l => obtain ⟨vs, h1, h2⟩ := h; exact ⟨_, h1⟩
  | dct ks l => obtain ⟨vs, h1, h3, h2⟩ := h; exact ⟨_, h1⟩
  | dcT ks l => obtain ⟨vs, h1, h3, h2⟩ := h; exact ⟨_, h1⟩
  | obj c ns l => obtain ⟨dx, vs, h1, h3, h2⟩ := h; exact ⟨_, h1⟩
  | tab q => obtain ⟨ps, h1, _⟩ := h; exact ⟨_, h1⟩
  | _ => exact h.elim
theorem Top.rep {d : D} {v : V} (g : Same G H) (h : Top K cl H G d v) : Rep K cl H d v := by
  rcases h with h | ⟨a, rfl, hn, h⟩
  · exact h.mono g
  · cases d with
    | lst l => obtain ⟨vs, h1, h2⟩ := h; exact .lst h1 (h2.mono g)
    | dct ks l => obtain ⟨vs, h1, h3, h2⟩ := h; exact .dct (.inl h1) h3 (h2.mono g)
    | dcT ks l => obtain ⟨vs, h1, h3, h2⟩ := h; exact .dcT (.inl h1) h3 (h2.mono g)
    | obj c ns l => obtain ⟨dx, vs, h1, h3, h2⟩ := h; exact .obj h1 h3 (h2.mono g)
    | tab q => exact .tab (TabX.mono (H := H) h (fun _ z => z) g)
    | _ => exact h.elim
theorem Top.lst {l : List D} {v : V} (g : Same G H) (h : Top K cl H G (.lst l) v) : ∃ a vs, v = .ref a ∧ H a = some (.lst vs) ∧ RepL K cl G l vs := by
  rcases h with h | ⟨a, rfl, hn, vs, h1, h2⟩
  · cases h with
    | lst h r => exact ⟨_, _, rfl, g _ _ h, r⟩
  · exact ⟨_, _, rfl, h1, h2⟩
theorem Top.tup {l : List D} {v : V} (g : Same G H) (h : Top K cl H G (.tup l) v) : ∃ a vs, v = .ref a ∧ SqT K H a vs ∧ RepL K cl G l vs := by
  rcases h with h | ⟨a, rfl, hn, h⟩
  · cases h with
    | tup h r => exact ⟨_, _, rfl, SqT.same g h, r⟩
  · exact h.elim
theorem Step.same (s : Step H G H' G') (gh : Same G H) : Same H H' ∧ Same G G' ∧ Same G' H' := by
  induction s with
  | refl => exact ⟨.refl _, .refl _, gh⟩
  | lay _ hn ih =>
    obtain ⟨a, b, c⟩ := ih
    refine ⟨a.trans (same_upd hn), b.trans (same_upd (c.free hn)), fun q u z => ?_⟩
    unfold upd at z ⊢
    split
    · rename_i h; rw [if_pos h] at z; exact z
    · rename_i h; rw [if_neg h] at z; exact c _ _ z
  | grow _ hs ih =>
    obtain ⟨a, b, c⟩ := ih
    exact ⟨a.trans hs, b, c.trans hs⟩
theorem Step.none (s : Step H G H' G') (gh : Same G H) {a : Addr} {o : HO} (h : H a = some o) (g : G a = none) : G' a = none := by
  induction s with
  | refl => exact g
  | lay s hn ih =>
    have q := (s.same gh).1 _ _ h
    rw [upd_ne (ne_of_none q hn)]; exact ih
  | grow s hs ih => exact ih
theorem Step.trans {H2 G2 : Hp} (a : Step H G H' G') (b : Step H' G' H2 G2) : Step H G H2 G2 := by
  induction b with
  | refl => exact a
  | lay _ hn ih => exact .lay ih hn
  | grow _ hs ih => exact .grow ih hs
/-- the state behind new objects -/
theorem Stt.step (st : Stt K cl F e σ H G) (s : Step H G H' G') : Stt K cl F e σ H' G' := by
  obtain ⟨⟨gh, g0, jr, fr, fg⟩, jh, len, slot, inj⟩ := st
  obtain ⟨a, b, c⟩ := s.same gh
  refine ⟨⟨c, g0.trans b, ⟨jr.len, jr.nd, fun k p d h1 h2 => ?_⟩, fun p o h hn => a _ _ (fr p o h hn), fun p o h hn => ?_⟩, jh, len, fun i x h => ?_, inj⟩
  · obtain ⟨q1, q2⟩ := jr.at_ k p d h1 h2
    obtain ⟨o, q3⟩ := q2.ex
    exact ⟨s.none gh q3 q1, q2.mono (fun o => a _ _) b⟩
  · by_cases hp : p ∈ F.js
    · obtain ⟨k, hk⟩ := List.getElem?_of_mem hp
      have hl : k < e.j.length := by rw [jr.len]; exact (List.getElem?_eq_some_iff.mp hk).1
      obtain ⟨q1, q2⟩ := jr.at_ k p _ hk (List.getElem?_eq_getElem hl)
      obtain ⟨o, q3⟩ := q2.ex
      exact s.none gh q3 q1
    · exact s.none gh (fr p o h hp) (fg p o h hn)
  · have q := slot i x h
    cases x with
    | un => trivial
    | dat d => obtain ⟨v, h1, h2⟩ := q; exact ⟨v, h1, h2.mono b⟩
    | own d =>
      obtain ⟨p, h1, h2, h3, h4⟩ := q
      obtain ⟨o, q3⟩ := h4.ex
      exact ⟨p, h1, s.none gh q3 h2, h3, h4.mono (fun o => a _ _) b⟩
    | jar k => exact q
    | ptr => exact q
theorem Kp.step (st : Stt K cl F e σ H G) (s : Step H G H' G') : Kp F σ e H G e H' G' := by
  obtain ⟨a, b, c⟩ := s.same st.ret.gh
  exact ⟨b, fun p o h _ => ⟨a _ _ h, fun g => s.none st.ret.gh h g⟩, fun i d h => ⟨d, h⟩⟩
theorem Kp.refl : Kp F σ e H G e H G := ⟨.refl _, fun _ _ h _ => ⟨h, fun g => g⟩, fun _ d h => ⟨d, h⟩⟩
theorem Kp.loose (k : Kp F σ e H G e' H' G') {a : Addr} (h : Loose F e σ a) : Loose F e' σ a :=
  ⟨h.1, fun i d q => by obtain ⟨d', q'⟩ := k.ow i d q; exact h.2 i d' q'⟩
theorem Kp.trans {e2 : Env} {H2 G2 : Hp} (a : Kp F σ e H G e' H' G') (b : Kp F σ e' H' G' e2 H2 G2) : Kp F σ e H G e2 H2 G2 := by
  refine ⟨a.gg.trans b.gg, fun p o h l => ?_, fun i d h => ?_⟩
  · obtain ⟨h1, h2⟩ := a.kp p o h l
    obtain ⟨h3, h4⟩ := b.kp p o h1 (a.loose l)
    exact ⟨h3, fun g => h4 (h2 g)⟩
  · obtain ⟨d', h'⟩ := b.ow i d h
    exact a.ow i d' h'
/-- the data of a value, as it is found -/
theorem Stt.top (st : Stt K cl F e σ H G) {r : R} {v : V} {d : D} (hr : RR K cl σ G r v) (hd : e.rd r = some d) : Top K cl H G d v := by
  cases r with
  | val d' => cases hd; exact .inl hr
  | whole i =>
    have hs : σ[i]? = some (some v) := hr
    have hd : (match e.s[i]? with
    | some (.own d) => some d
    | some (.jar k) => e.j[k]?
    | _ => none) = some d := hd
    cases q : e.s[i]? with
    | none => rw [q] at hd; cases hd
    | some x =>
      rw [q] at hd
      have z := st.slot i x q
      cases x with
      | own d' =>
        cases hd
        obtain ⟨a, h1, h2, h3, h4⟩ := z
        rw [hs] at h1; cases h1
        exact .inr ⟨a, rfl, h2, h4⟩
      | jar k =>
        obtain ⟨a, h1, h2⟩ := z
        rw [hs] at h2; cases h2
        obtain ⟨q1, q2⟩ := st.ret.jars.at_ k a d h1 hd
        exact .inr ⟨a, rfl, q1, q2⟩
      | _ => cases hd
/-- a value that stood, later: data stays, a whole is read anew -/
theorem RR.mono {r : R} {v : V} (h : RR K cl σ G r v) (g : Same G G') : RR K cl σ G' r v := by
  cases r with
  | val d => exact Rep.mono g h
  | whole i => exact h
end
end DL

namespace DL
open PySem L2 PySem.Spec PyProof.Rows

/-! ### freezing: what a slot owns becomes data -/
def Env.frz (e : Env) : R → Option (D × Env)
  | .val d => some (d, e)
  | .whole i => match e.s[i]? with
    | some (.own d) => some (d, e.setS i (.dat d))
    | _ => none
def Env.frzs (e : Env) : List R → Option (List D × Env)
  | [] => some ([], e)
  | r :: rs => match e.frz r with
    | some (d, e1) => match e1.frzs rs with
      | some (ds, e2) => some (d :: ds, e2)
      | none => none
    | none => none
inductive RRs (K : PySem.W.Frag) (cl : Str → Addr) (σ : L2.St) (G : Hp) : List R → List V → Prop
  | nil : RRs K cl σ G [] []
  | cons {r : R} {v : V} {rs : List R} {vs : List V} : RR K cl σ G r v → RRs K cl σ G rs vs → RRs K cl σ G (r :: rs) (v :: vs)

section
variable {K : PySem.W.Frag} {cl : Str → Addr} {F : Fra} {e e' : Env} {σ : L2.St} {H G H' G' : Hp}
theorem RRs.mono (g : Same G G') : ∀ {rs : List R} {vs : List V}, RRs K cl σ G rs vs → RRs K cl σ G' rs vs
  | _, _, .nil => .nil
  | _, _, .cons h r => .cons (h.mono g) (RRs.mono g r)
/-- one object of H becomes part of G -/
theorem same_add {a : Addr} {o : HO} (gh : Same G H) (ho : H a = some o) : Same (upd G a o) H := fun b u q => by
  unfold upd at q
  split at q
  · rename_i h; rw [h, ho]; exact q
  · exact gh _ _ q
theorem Own.rep {a : Addr} {d : D} (h : Own K cl H G a d) (hn : G a = none) : ∃ o, H a = some o ∧ Rep K cl (upd G a o) d (.ref a) := by
  have g : ∀ o, Same G (upd G a o) := fun o => same_upd hn
  cases d with
  | lst l => obtain ⟨vs, h1, h2⟩ := h; exact ⟨_, h1, .lst upd_same (h2.mono (g _))⟩
  | dct ks l => obtain ⟨vs, h1, h3, h2⟩ := h; exact ⟨_, h1, .dct (.inl upd_same) h3 (h2.mono (g _))⟩
  | dcT ks l => obtain ⟨vs, h1, h3, h2⟩ := h; exact ⟨_, h1, .dcT (.inl upd_same) h3 (h2.mono (g _))⟩
  | obj c ns l => obtain ⟨dx, vs, h1, h3, h2⟩ := h; exact ⟨_, h1, .obj upd_same h3 (h2.mono (g _))⟩
  | tab q => obtain ⟨ps, h1, h2, h3⟩ := h; exact ⟨_, h1, .tab ⟨ps, upd_same, h2, fun pos cv hc => (h3 pos cv hc).imp fun c z => ⟨z.1, (g _) _ _ z.2⟩⟩⟩
  | _ => exact h.elim
theorem setS_same {i : Nat} {x y : S} (h : e.s[i]? = some y) : (e.setS i x).s[i]? = some x := by
  have hl : i < e.s.length := (List.getElem?_eq_some_iff.mp h).1
  exact List.getElem?_set_self hl
theorem setS_ne {i j : Nat} {x : S} (h : j ≠ i) : (e.setS i x).s[j]? = e.s[j]? := List.getElem?_set_ne (Ne.symm h)
theorem frz_ok (st : Stt K cl F e σ H G) {r : R} {v : V} {d : D} (hr : RR K cl σ G r v) (hf : e.frz r = some (d, e')) : ∃ G', Stt K cl F e' σ H G' ∧ Kp F σ e H G e' H G' ∧ Rep K cl G' d v := by
  cases r with
  | val d' => cases hf; exact ⟨G, st, .refl, hr⟩
  | whole i =>
    have hs : σ[i]? = some (some v) := hr
    have hf : (match e.s[i]? with
      | some (.own d) => some (d, e.setS i (.dat d))
      | _ => none) = some (d, e') := hf
    cases q : e.s[i]? with
    | none => rw [q] at hf; cases hf
    | some x =>
      rw [q] at hf
      have z := st.slot i x q
      cases x with
      | own d' =>
        cases hf
        obtain ⟨a, h1, h2, h3, h4⟩ := z
        rw [hs] at h1; cases h1
        obtain ⟨o, ho, hrep⟩ := h4.rep h2
        obtain ⟨⟨gh, g0, jr, fr, fg⟩, jh, len, slot, inj⟩ := st
        have g1 : Same G (upd G a o) := same_upd h2
        have aj : a ∉ F.js := fun hj => jh a hj h3
        have hset : ∀ {j : Nat} {x : S}, (e.setS i (.dat d)).s[j]? = some x → (j = i ∧ x = .dat d) ∨ (j ≠ i ∧ e.s[j]? = some x) := fun {j x} h => by
          by_cases hj : j = i
          · subst hj; rw [setS_same q] at h; cases h; exact .inl ⟨rfl, rfl⟩
          · rw [setS_ne hj] at h; exact .inr ⟨hj, h⟩
        refine ⟨upd G a o, ⟨⟨same_add gh ho, g0.trans g1, ⟨jr.len, jr.nd, fun k p d' k1 k2 => ?_⟩, fr, fun p u k1 k2 => ?_⟩, jh, by rw [len]; exact (List.length_set).symm, fun j x h => ?_, fun j k d1 d2 p k1 k2 k3 k4 => ?_⟩, ⟨g1, fun p u k1 k2 => ⟨k1, fun k3 => ?_⟩, fun j d1 k1 => ?_⟩, hrep⟩
        · obtain ⟨q1, q2⟩ := jr.at_ k p d' k1 k2
          have ne : p ≠ a := fun z => aj (z ▸ List.mem_of_getElem? k1)
          exact ⟨by rw [upd_ne ne]; exact q1, q2.mono (fun _ z => z) g1⟩
        · have ne : p ≠ a := fun z => by rw [z, h3] at k1; cases k1
          rw [upd_ne ne]; exact fg p u k1 k2
        · rcases hset h with ⟨rfl, rfl⟩ | ⟨hj, h⟩
          · exact ⟨_, hs, hrep⟩
          · have z := slot j x h
            cases x with
            | un => trivial
            | dat d1 => obtain ⟨v1, z1, z2⟩ := z; exact ⟨v1, z1, z2.mono g1⟩
            | own d1 =>
              obtain ⟨p, z1, z2, z3, z4⟩ := z
              have ne : p ≠ a := fun w => hj (inj j i _ _ a h q (w ▸ z1) hs)
              exact ⟨p, z1, by rw [upd_ne ne]; exact z2, z3, z4.mono (fun _ w => w) g1⟩
            | jar k => exact z
            | ptr => exact z
        · rcases hset k1 with ⟨_, z⟩ | ⟨_, k1⟩
          · cases z
          · rcases hset k2 with ⟨_, z⟩ | ⟨_, k2⟩
            · cases z
            · exact inj j k d1 d2 p k1 k2 k3 k4
        · have ne : p ≠ a := fun w => k2.2 i _ q (w ▸ hs)
          rw [upd_ne ne]; exact k3
        · rcases hset k1 with ⟨_, z⟩ | ⟨_, k1⟩
          · cases z
          · exact ⟨_, k1⟩
      | _ => cases hf
theorem frzs_ok : ∀ {rs : List R} {e e' : Env} {vs : List V} {ds : List D} {G : Hp}, Stt K cl F e σ H G → RRs K cl σ G rs vs → e.frzs rs = some (ds, e') → ∃ G', Stt K cl F e' σ H G' ∧ Kp F σ e H G e' H G' ∧ RepL K cl G' ds vs
  | [], e, e', _, _, G, st, .nil, hf => by cases hf; exact ⟨G, st, .refl, .nil⟩
  | r :: rs, e, e', _, _, G, st, .cons h t, hf => by
    unfold Env.frzs at hf
    cases q : e.frz r with
    | none => rw [q] at hf; cases hf
    | some p =>
      obtain ⟨d, e1⟩ := p
      rw [q] at hf
      have hf : (match e1.frzs rs with
        | some (ds, e2) => some (d :: ds, e2)
        | none => none) = some (_, e') := hf
      cases q2 : e1.frzs rs with
      | none => rw [q2] at hf; cases hf
      | some p2 =>
        obtain ⟨ds, e2⟩ := p2
        rw [q2] at hf
        cases hf
        obtain ⟨G1, st1, k1, r1⟩ := frz_ok st h q
        obtain ⟨G2, st2, k2, r2⟩ := frzs_ok st1 (t.mono k1.gg) q2
        exact ⟨G2, st2, k1.trans k2, .cons (r1.mono k2.gg) r2⟩
end

/-! ### what is judged -/
def ExcAt (K : PySem.W.Frag) (cl : Str → Addr) (x : Exc) (cls : Value) (dd : Option Addr) (H G : Hp) : Prop :=
  cls = .ref (cl x.c) ∧ ((x.ns = [] ∧ x.l = [] ∧ dd = none) ∨ ∃ d vs, dd = some d ∧ G d = some (.xd (x.ns.zip vs)) ∧ x.ns.length = vs.length ∧ RepL K cl G x.l vs)
section
variable (K : PySem.W.Frag) (cl : Str → Addr) (F : Fra) (W : WX)
/-- what is wanted of an exception, of an end -/
def Xn (σ : L2.St) (e : Env) (x : Exc) : Prop := ∀ cls dd H' G', Stt K cl F e σ H' G' → ExcAt K cl x cls dd H' G' → W cls dd σ H'
def Post {α : Type} (σ : L2.St) (o : Out α) (k : α → Env → Prop) : Prop := match o with
  | .ok a e => k a e
  | .exn x e => Xn K cl F W σ e x
  | .bad => False
def tD (f : M R) : TE := fun σ H Q => ∃ e G, Stt K cl F e σ H G ∧ Post K cl F W σ (f e) fun r e' => ∀ v H' G', Stt K cl F e' σ H' G' → Kp F σ e H G e' H' G' → RR K cl σ G' r v → Q v H'
def tB' (f : M Bool) : TT := fun σ H Q => ∃ e G, Stt K cl F e σ H G ∧ Post K cl F W σ (f e) fun b e' => ∀ H' G', Stt K cl F e' σ H' G' → Kp F σ e H G e' H' G' → Q b H'
def tA (f : M (List R)) : TA := fun σ H Q => ∃ e G, Stt K cl F e σ H G ∧ Post K cl F W σ (f e) fun r e' => ∀ v H' G', Stt K cl F e' σ H' G' → Kp F σ e H G e' H' G' → RRs K cl σ G' r v → Q v H'
end
structure RE (X : Cx) (cl : Str → Addr) (F : Fra) (W : WX) (x : Expr) (f : M R) : Prop where
  pe : PE X x (tD X.K cl F W f)
structure RT (X : Cx) (cl : Str → Addr) (F : Fra) (W : WX) (x : Expr) (f : M Bool) : Prop where
  pt : PT X x (tB' X.K cl F W f)
structure RA (X : Cx) (cl : Str → Addr) (F : Fra) (W : WX) (xs : List Expr) (f : M (List R)) : Prop where
  pa : PA X xs (tA X.K cl F W f)
theorem PE.imp {X : Cx} {x : Expr} {t t' : TE} (h : PE X x t) (i : ∀ σ H Q, t' σ H Q → t σ H Q) : PE X x t' := ⟨fun pins s σ H Q I q => h.run pins s σ H Q I (i σ H Q q)⟩
theorem PT.imp {X : Cx} {x : Expr} {t t' : TT} (h : PT X x t) (i : ∀ σ H Q, t' σ H Q → t σ H Q) : PT X x t' := ⟨fun pins s σ H Q I q => h.run pins s σ H Q I (i σ H Q q)⟩
theorem PW.imp {X : Cx} {x : Expr} {t t' : TT} (h : PW X x t) (i : ∀ σ H Q, t' σ H Q → t σ H Q) : PW X x t' := ⟨fun wh pins s σ H Q I q => h.run wh pins s σ H Q I (i σ H Q q)⟩
theorem PA.imp {X : Cx} {x : List Expr} {t t' : TA} (h : PA X x t) (i : ∀ σ H Q, t' σ H Q → t σ H Q) : PA X x t' := ⟨fun pos pins s σ H Q I q => h.run pos pins s σ H Q I (i σ H Q q)⟩
theorem PS.imp {X : Cx} {x : Stmt} {t t' : TS} (h : PS X x t) (i : ∀ D σ H, t' D σ H → t D σ H) : PS X x t' := ⟨fun pins s σ H D I q => h.run pins s σ H D I (i D σ H q)⟩
theorem PSs.imp {X : Cx} {x : List Stmt} {t t' : TS} (h : PSs X x t) (i : ∀ D σ H, t' D σ H → t D σ H) : PSs X x t' := ⟨fun pins s σ H D I q => h.run pins s σ H D I (i D σ H q)⟩

section
variable {K : PySem.W.Frag} {cl : Str → Addr} {F : Fra} {W : WX}
theorem post_bnd {α β : Type} {σ : L2.St} {o : Out α} {k : α → Env → Out β} {q : β → Env → Prop} (h : Post K cl F W σ (o.bnd k) q) : Post K cl F W σ o fun a e => Post K cl F W σ (k a e) q := by
  cases o with
  | ok a e => exact h
  | exn x e => exact h
  | bad => exact h
theorem post_imp {α : Type} {σ : L2.St} {o : Out α} {k k' : α → Env → Prop} (h : Post K cl F W σ o k) (i : ∀ a e, k a e → k' a e) : Post K cl F W σ o k' := by
  cases o with
  | ok a e => exact i _ _ h
  | exn x e => exact h
  | bad => exact h
/-- one part, then the rest -/
theorem tD_then {β : Type} {fa : M R} {k : R → Env → Out β} {σ : L2.St} {H G : Hp} {e : Env} {q : β → Env → Prop} {Q : VK} (st : Stt K cl F e σ H G) (h : Post K cl F W σ ((fa e).bnd k) q)
    (c : ∀ r e1 v H1 G1, Stt K cl F e1 σ H1 G1 → Kp F σ e H G e1 H1 G1 → RR K cl σ G1 r v → Post K cl F W σ (k r e1) q → Q v H1) : tD K cl F W fa σ H Q :=
  ⟨e, G, st, post_imp (post_bnd h) fun r e1 z v H1 G1 s1 k1 r1 => c r e1 v H1 G1 s1 k1 r1 z⟩
theorem tB_then {β : Type} {fa : M Bool} {k : Bool → Env → Out β} {σ : L2.St} {H G : Hp} {e : Env} {q : β → Env → Prop} {Q : Bool → Hp → Prop} (st : Stt K cl F e σ H G) (h : Post K cl F W σ ((fa e).bnd k) q)
    (c : ∀ r e1 H1 G1, Stt K cl F e1 σ H1 G1 → Kp F σ e H G e1 H1 G1 → Post K cl F W σ (k r e1) q → Q r H1) : tB' K cl F W fa σ H Q :=
  ⟨e, G, st, post_imp (post_bnd h) fun r e1 z H1 G1 s1 k1 => c r e1 H1 G1 s1 k1 z⟩
theorem tA_then {β : Type} {fa : M (List R)} {k : List R → Env → Out β} {σ : L2.St} {H G : Hp} {e : Env} {q : β → Env → Prop} {Q : List V → Hp → Prop} (st : Stt K cl F e σ H G) (h : Post K cl F W σ ((fa e).bnd k) q)
    (c : ∀ r e1 v H1 G1, Stt K cl F e1 σ H1 G1 → Kp F σ e H G e1 H1 G1 → RRs K cl σ G1 r v → Post K cl F W σ (k r e1) q → Q v H1) : tA K cl F W fa σ H Q :=
  ⟨e, G, st, post_imp (post_bnd h) fun r e1 z v H1 G1 s1 k1 r1 => c r e1 v H1 G1 s1 k1 r1 z⟩
end

/-! ### slots and constants -/
def cVar (i : Nat) : M R := fun e => match e.s[i]? with
  | some (.dat d) => .ok (.val d) e
  | some (.own _) => .ok (.whole i) e
  | some (.jar _) => .ok (.whole i) e
  | _ => .bad
def cC (d : D) : M R := fun e => .ok (.val d) e
section
variable {X : Cx} {cl : Str → Addr} {F : Fra} {W : WX}
theorem re_v (i : Nat) {x : Str} {pos : Pos} (hN : X.N[i]? = some x := by rfl) (hv : Vis X.env.scope x := by first | exact Or.inl rfl | exact Or.inr (Or.inl rfl) | exact Or.inr (Or.inr rfl)) (hd : (x == ("__debug__" : Str)) = false := by decide)
    (hcd : (x == ("__classdict__" : Str)) = false := by decide) : RE X cl F W (.Name x pos) (cVar i) := by
  refine ⟨PE.imp (pe_var hN hv hd hcd) fun σ H Q ⟨e, G, st, h⟩ => ?_⟩
  unfold cVar at h
  cases q : e.s[i]? with
  | none => rw [q] at h; exact h.elim
  | some y =>
    rw [q] at h
    have z := st.slot i y q
    cases y with
    | un => exact h.elim
    | dat d =>
      obtain ⟨v, h1, h2⟩ := z
      exact ⟨v, h1, h v H G st .refl h2⟩
    | own d =>
      obtain ⟨a, h1, _⟩ := z
      exact ⟨_, h1, h _ H G st .refl h1⟩
    | jar k =>
      obtain ⟨a, _, h1⟩ := z
      exact ⟨_, h1, h _ H G st .refl h1⟩
    | ptr => exact h.elim
theorem re_tC {x : Expr} {v : V} {d : D} (h : PE X x (tC v)) (r : ∀ G, Rep X.K cl G d v) : RE X cl F W x (cC d) :=
  ⟨PE.imp h fun σ H Q ⟨e, G, st, q⟩ => q v H G st .refl (r G)⟩
theorem re_int {i j pos} : RE X cl F W (.Constant (.int i) j pos) (cC (.int i)) := re_tC pe_int fun _ => .int
theorem re_bl {b j pos} : RE X cl F W (.Constant (.bool b) j pos) (cC (.bl b)) := re_tC pe_bl fun _ => .bl
theorem re_non {j pos} : RE X cl F W (.Constant .none j pos) (cC .non) := re_tC pe_non fun _ => .non
theorem re_str {x j pos} : RE X cl F W (.Constant (.str x) j pos) (cC (.str x)) := re_tC pe_str fun _ => .str
theorem re_gint {x : Str} {i : Int} {pos : Pos} (hg : Gl X x) (hm : ∃ t, X.mg x = some (.int i t)) (hd : (x == ("__debug__" : Str)) = false := by decide) : RE X cl F W (.Name x pos) (cC (.int i)) := by
  obtain ⟨t, hm⟩ := hm
  exact re_tC (pe_glob (v := .int i) hg hm ⟨t, rfl⟩ hd) fun _ => .int
theorem re_gstr {x : Str} {z : Str} {pos : Pos} (hg : Gl X x) (hm : ∃ t, X.mg x = some (.str z t)) (hd : (x == ("__debug__" : Str)) = false := by decide) : RE X cl F W (.Name x pos) (cC (.str z)) := by
  obtain ⟨t, hm⟩ := hm
  exact re_tC (pe_glob (v := .str z) hg hm ⟨t, rfl⟩ hd) fun _ => .str

/-! ### arguments, displays -/
def cNil : M (List R) := fun e => .ok [] e
def cCons (f : M R) (g : M (List R)) : M (List R) := fun e => (f e).bnd fun r e1 => (g e1).bnd fun rs e2 => .ok (r :: rs) e2
theorem ra_nil : RA X cl F W [] cNil := ⟨PA.imp pa_nil fun σ H Q ⟨e, G, st, q⟩ => q [] H G st .refl .nil⟩
theorem ra_cons {x : Expr} {xs : List Expr} {f : M R} {g : M (List R)} (h : RE X cl F W x f) (t : RA X cl F W xs g) (hs : starEach (x :: xs) X.env = (false, eval x X.env) :: starEach xs X.env := by rfl) : RA X cl F W (x :: xs) (cCons f g) := by
  refine ⟨PA.imp (pa_cons h.pe t.pa hs) fun σ H Q ⟨e, G, st, q⟩ => tD_then st q fun r e1 v H1 G1 s1 k1 r1 z => tA_then s1 z fun rs e2 vs H2 G2 s2 k2 r2 z2 => ?_⟩
  exact z2 _ H2 G2 s2 (k1.trans k2) (.cons (r1.mono k2.gg) r2)
def cTup (f : M (List R)) : M R := fun e => (f e).bnd fun rs e1 => match e1.frzs rs with
  | some (ds, e2) => if ds.length ≤ sizeLine then .ok (.val (.tup ds)) e2 else .bad
  | none => .bad
def cLst (f : M (List R)) : M R := fun e => (f e).bnd fun rs e1 => match e1.frzs rs with
  | some (ds, e2) => if ds.length ≤ sizeLine then .ok (.val (.lst ds)) e2 else .bad
  | none => .bad
theorem re_tup {xs : List Expr} {f : M (List R)} {x1 pos} (h : RA X cl F W xs f) : RE X cl F W (.Tuple xs x1 pos) (cTup f) := by
  refine ⟨PE.imp (pe_tup h.pa) fun σ H Q ⟨e, G, st, q⟩ => tA_then st q fun rs e1 vs H1 G1 s1 k1 r1 z => ?_⟩
  cases y : e1.frzs rs with
  | none => rw [y] at z; exact z.elim
  | some p =>
    obtain ⟨ds, e2⟩ := p
    rw [y] at z
    obtain ⟨G2, s2, k2, r2⟩ := frzs_ok s1 r1 y
    by_cases hz : ds.length ≤ sizeLine
    · simp only [hz, if_true] at z
      refine ⟨by rw [← r2.length]; exact hz, fun p hp => ?_⟩
      have sp : Step H1 G2 (upd H1 p (.tup vs)) (upd G2 p (.tup vs)) := .lay .refl hp
      exact z _ _ _ (s2.step sp) ((k1.trans k2).trans (Kp.step s2 sp)) (.tup (SqT.of upd_same) (r2.mono (sp.same s2.ret.gh).2.1))
    · simp only [hz, if_false] at z; exact z.elim
theorem re_lst {xs : List Expr} {f : M (List R)} {pos} (h : RA X cl F W xs f) : RE X cl F W (.List xs pos) (cLst f) := by
  refine ⟨PE.imp (pe_lst h.pa) fun σ H Q ⟨e, G, st, q⟩ => tA_then st q fun rs e1 vs H1 G1 s1 k1 r1 z => ?_⟩
  cases y : e1.frzs rs with
  | none => rw [y] at z; exact z.elim
  | some p =>
    obtain ⟨ds, e2⟩ := p
    rw [y] at z
    obtain ⟨G2, s2, k2, r2⟩ := frzs_ok s1 r1 y
    by_cases hz : ds.length ≤ sizeLine
    · simp only [hz, if_true] at z
      refine ⟨by rw [← r2.length]; exact hz, fun p hp => ?_⟩
      have sp : Step H1 G2 (upd H1 p (.lst vs)) (upd G2 p (.lst vs)) := .lay .refl hp
      exact z _ _ _ (s2.step sp) ((k1.trans k2).trans (Kp.step s2 sp)) (.lst upd_same (r2.mono (sp.same s2.ret.gh).2.1))
    · simp only [hz, if_false] at z; exact z.elim

/-! ### operations on two values -/
def OpD (X : Cx) (cl : Str → Addr) (f : Value → Value → Sem Value) (g : D → D → Option D) : Prop :=
  ∃ r, OpR X f r ∧ ∀ H G x y dx dy dz Q, Same G H → Top X.K cl H G dx x → Top X.K cl H G dy y → g dx dy = some dz → (∀ v H' G', Step H G H' G' → Rep X.K cl G' dz v → Q v H') → r x y H Q
def opt (o : Option D) (e : Env) : Out R := match o with
  | some z => .ok (.val z) e
  | none => .bad
def opt2 (g : D → D → Option D) (a b : Option D) : Option D := match a, b with
  | some x, some y => g x y
  | _, _ => none
theorem post_opt {K : PySem.W.Frag} {σ : L2.St} {o : Option D} {e : Env} {q : R → Env → Prop} (h : Post K cl F W σ (opt o e) q) : ∃ z, o = some z ∧ q (.val z) e := by
  cases o with
  | some z => exact ⟨z, rfl, h⟩
  | none => exact h.elim
theorem opt2_ok {g : D → D → Option D} {a b : Option D} {z : D} (h : opt2 g a b = some z) : ∃ x y, a = some x ∧ b = some y ∧ g x y = some z := by
  cases a with
  | none => cases h
  | some x =>
    cases b with
    | none => cases h
    | some y => exact ⟨x, y, rfl, rfl, h⟩
def cOp (g : D → D → Option D) (fa fb : M R) : M R := fun e => (fa e).bnd fun x e1 => (fb e1).bnd fun y e2 => opt (opt2 g (e2.rd x) (e2.rd y)) e2
theorem tOp_D {f : Value → Value → Sem Value} {g : D → D → Option D} {fa fb : M R} {r : R2} {σ : L2.St} {H : Hp} {Q : VK}
    (hg : ∀ H G x y dx dy dz Q, Same G H → Top X.K cl H G dx x → Top X.K cl H G dy y → g dx dy = some dz → (∀ v H' G', Step H G H' G' → Rep X.K cl G' dz v → Q v H') → r x y H Q)
    (h : tD X.K cl F W (cOp g fa fb) σ H Q) : tOp r (tD X.K cl F W fa) (tD X.K cl F W fb) σ H Q := by
  obtain ⟨e, G, st, q⟩ := h
  refine tD_then st q fun x e1 v1 H1 G1 s1 k1 r1 z => tD_then s1 z fun y e2 v2 H2 G2 s2 k2 r2 z => ?_
  obtain ⟨dz, z1, z⟩ := post_opt z
  obtain ⟨dx, dy, hx, hy, hg2⟩ := opt2_ok z1
  refine hg H2 G2 v1 v2 dx dy dz Q s2.ret.gh (s2.top (r1.mono k2.gg) hx) (s2.top r2 hy) hg2 fun v H' G' sp rv => ?_
  exact z v H' G' (s2.step sp) ((k1.trans k2).trans (Kp.step s2 sp)) rv
theorem re_op {a b : Expr} {op : Operator} {g : D → D → Option D} {fa fb : M R} {pos : Pos} (ho : OpD X cl (binaryOp op) g) (ha : RE X cl F W a fa) (hb : RE X cl F W b fb) : RE X cl F W (.BinOp a op b pos) (cOp g fa fb) := by
  obtain ⟨r, h1, h2⟩ := ho
  exact ⟨PE.imp (pe_op h1 ha.pe hb.pe) fun σ H Q h => tOp_D (f := binaryOp op) h2 h⟩
theorem re_cmp {a b : Expr} {op : CmpOp} {g : D → D → Option D} {fa fb : M R} {pos : Pos} (ho : OpD X cl (compareOp op) g) (ha : RE X cl F W a fa) (hb : RE X cl F W b fb) (hm : behindInMarks op b = false) : RE X cl F W (.Compare a [op] [b] pos) (cOp g fa fb) := by
  obtain ⟨r, h1, h2⟩ := ho
  exact ⟨PE.imp (pe_cmpR h1 ha.pe hb.pe hm) fun σ H Q h => tOp_D (f := compareOp op) h2 h⟩
/-- a value as a test: bools alone -/
def cTest (f : M R) : M Bool := fun e => (f e).bnd fun r e1 => match r with
  | .val (.bl b) => .ok b e1
  | _ => .bad
theorem tTest_D {f : M R} {σ : L2.St} {H : Hp} {Q : Bool → Hp → Prop} (h : tB' X.K cl F W (cTest f) σ H Q) : tD X.K cl F W f σ H fun x H' => ∃ k, x = .bl k ∧ Q k H' := by
  obtain ⟨e, G, st, q⟩ := h
  refine tD_then st q fun r e1 v H1 G1 s1 k1 r1 z => ?_
  cases r with
  | whole i => exact z.elim
  | val d =>
    cases d with
    | bl b => cases r1; exact ⟨b, rfl, z H1 G1 s1 k1⟩
    | _ => exact z.elim
theorem rt_cmp {a b : Expr} {op : CmpOp} {g : D → D → Option D} {fa fb : M R} {pos : Pos} (ho : OpD X cl (compareOp op) g) (ha : RE X cl F W a fa) (hb : RE X cl F W b fb) (hm : behindInMarks op b = false) : RT X cl F W (.Compare a [op] [b] pos) (cTest (cOp g fa fb)) := by
  obtain ⟨r, h1, h2⟩ := ho
  refine ⟨PT.imp (pt_cmpR h1 ha.pe hb.pe hm) fun σ H Q h => ?_⟩
  exact tOp_D (f := compareOp op) h2 (tTest_D h)
end
end DL

namespace DL
open PySem L2 PySem.Spec PyProof.Rows

section
variable {X : Cx} {cl : Str → Addr} {F : Fra} {W : WX}
theorem OpD.or {f : Value → Value → Sem Value} {g g' : D → D → Option D} (h : OpD X cl f g) (h' : OpD X cl f g') : OpD X cl f (fun a b => match g a b with
    | some z => some z
    | none => g' a b) := by
  obtain ⟨r, h1, h2⟩ := h
  obtain ⟨r', h1', h2'⟩ := h'
  refine ⟨_, h1.or h1', fun H G x y dx dy dz Q gh tx ty e k => ?_⟩
  have e : (match g dx dy with
    | some z => some z
    | none => g' dx dy) = some dz := e
  cases q : g dx dy with
  | some z => rw [q] at e; cases e; exact .inl (h2 H G x y dx dy _ Q gh tx ty q k)
  | none => rw [q] at e; exact .inr (h2' H G x y dx dy dz Q gh tx ty e k)
theorem OpD.of {f : Value → Value → Sem Value} {g g' : D → D → Option D} (h : OpD X cl f g) (e : ∀ a b z, g' a b = some z → g a b = some z) : OpD X cl f g' := by
  obtain ⟨r, h1, h2⟩ := h
  exact ⟨r, h1, fun H G x y dx dy dz Q gh tx ty q k => h2 H G x y dx dy dz Q gh tx ty (e _ _ _ q) k⟩
theorem Top.int {K : PySem.W.Frag} {H G : Hp} {i : Int} {v : V} (h : Top K cl H G (.int i) v) : v = .int i := by
  rcases h with h | ⟨a, _, _, h⟩
  · cases h; rfl
  · exact h.elim
theorem Top.str {K : PySem.W.Frag} {H G : Hp} {i : Str} {v : V} (h : Top K cl H G (.str i) v) : v = .str i := by
  rcases h with h | ⟨a, _, _, h⟩
  · cases h; rfl
  · exact h.elim
theorem Top.bl {K : PySem.W.Frag} {H G : Hp} {i : Bool} {v : V} (h : Top K cl H G (.bl i) v) : v = .bl i := by
  rcases h with h | ⟨a, _, _, h⟩
  · cases h; rfl
  · exact h.elim
theorem Top.non {K : PySem.W.Frag} {H G : Hp} {v : V} (h : Top K cl H G .non v) : v = .non := by
  rcases h with h | ⟨a, _, _, h⟩
  · cases h; rfl
  · exact h.elim
theorem Top.non_iff {K : PySem.W.Frag} {H G : Hp} {d : D} {v : V} (h : Top K cl H G d v) : v = .non ↔ d = .non := by
  rcases h with h | ⟨a, rfl, _, h⟩
  · cases h <;> simp
  · cases d <;> first | exact h.elim | simp
theorem Top.scr {K : PySem.W.Frag} {H G : Hp} {l : List Int} {v : V} (g : Same G H) (h : Top K cl H G (.scr l) v) : ∃ a, v = .ref a ∧ SqL K H a (l.map V.int) := by
  rcases h with h | ⟨a, _, _, h⟩
  · cases h with
    | scr h => exact ⟨_, rfl, Same.seq g h⟩
  · exact h.elim

/-! ### int arithmetic -/
def intOp (c : Int → Int → Bool) (g : Int → Int → D) : D → D → Option D := fun a b => match a, b with
  | .int i, .int j => if c i j then some (g i j) else none
  | _, _ => none
theorem intOp_inv {c : Int → Int → Bool} {g : Int → Int → D} {a b z : D} (h : intOp c g a b = some z) : ∃ i j, a = .int i ∧ b = .int j ∧ c i j = true ∧ z = g i j := by
  unfold intOp at h
  split at h
  · rename_i i j
    split at h
    · rename_i hc; cases h; exact ⟨i, j, rfl, rfl, hc, rfl⟩
    · cases h
  · cases h
/-- from a rule on ints whose value is again an int (or a bool) -/
theorem intD {f : Value → Value → Sem Value} {C : Int → Int → Prop} {gv : Int → Int → V} {c : Int → Int → Bool} {g : Int → Int → D} (h : OpR X f (rI C gv)) (hc : ∀ i j, c i j = true → C i j) (hr : ∀ i j G, Rep X.K cl G (g i j) (gv i j)) : OpD X cl f (intOp c g) := by
  refine ⟨_, h, fun H G x y dx dy dz Q gh tx ty e k => ?_⟩
  obtain ⟨i, j, rfl, rfl, hc', rfl⟩ := intOp_inv e
  exact ⟨i, j, tx.int, ty.int, hc i j hc', k _ H G .refl (hr i j G)⟩
theorem intD0 {f : Value → Value → Sem Value} {gv : Int → Int → V} {g : Int → Int → D} (h : OpR X f (rI0 gv)) (hr : ∀ i j G, Rep X.K cl G (g i j) (gv i j)) : OpD X cl f (intOp (fun _ _ => true) g) := by
  refine ⟨_, h, fun H G x y dx dy dz Q gh tx ty e k => ?_⟩
  obtain ⟨i, j, rfl, rfl, hc', rfl⟩ := intOp_inv e
  exact ⟨i, j, tx.int, ty.int, k _ H G .refl (hr i j G)⟩
def subD : D → D → Option D := intOp (fun _ _ => true) fun i j => .int (i - j)
def mulOk (i j : Int) : Bool := decide (-(2 ^ 64) < i ∧ i < 2 ^ 64) || decide (-(2 ^ 64) < j ∧ j < 2 ^ 64)
def modD : D → D → Option D := intOp (fun _ j => decide (0 < j)) fun i j => .int (i % j)
def fdivD : D → D → Option D := intOp (fun _ j => decide (0 < j ∧ j < 1073741824)) fun i j => .int (i / j)
def powD : D → D → Option D := intOp (fun i j => decide (0 ≤ j ∧ j ≤ 1000000 ∧ i.natAbs < 2 ^ 64)) fun i j => .int (i ^ j.toNat)
theorem od_sub : OpD X cl (binaryOp .Sub) subD := intD0 op_sub fun _ _ _ => .int
theorem od_mod : OpD X cl (binaryOp .Mod) modD := intD op_mod (fun i j h => by simpa using h) fun _ _ _ => .int
theorem od_fdiv : OpD X cl (binaryOp .FloorDiv) fdivD := intD op_fdiv (fun i j h => by simpa [CDiv] using h) fun _ _ _ => .int
theorem od_pow : OpD X cl (binaryOp .Pow) powD := intD op_pow (fun i j h => by simpa [CPow] using h) fun _ _ _ => .int

/-! ### + and * -/
def addD : D → D → Option D
  | .int i, .int j => some (.int (i + j))
  | .str a, .str b => if a.length + b.length ≤ sizeLine then some (.str (a ++ b)) else none
  | .lst a, .lst b => if a.length + b.length ≤ sizeLine then some (.lst (a ++ b)) else none
  | .tup a, .tup b => if a.length + b.length ≤ sizeLine then some (.tup (a ++ b)) else none
  | _, _ => none
theorem od_add : OpD X cl (binaryOp .Add) addD := by
  refine ⟨_, ((op_add.or op_add_str).or op_cat).or op_catA, fun H G x y dx dy dz Q gh tx ty e k => ?_⟩
  unfold addD at e
  split at e
  · cases e
    exact .inl (.inl (.inl ⟨_, _, tx.int, ty.int, k _ H G .refl .int⟩))
  · split at e
    · cases e
      rename_i h
      exact .inl (.inl (.inr ⟨_, _, tx.str, ty.str, h, k _ H G .refl .str⟩))
    · cases e
  · split at e
    · cases e
      rename_i h
      obtain ⟨a1, v1, rfl, h1, r1⟩ := tx.lst gh
      obtain ⟨a2, v2, rfl, h2, r2⟩ := ty.lst gh
      refine .inl (.inr ⟨a1, a2, v1, v2, rfl, rfl, h1, h2, by rw [← r1.length, ← r2.length]; exact h, fun p hp => ?_⟩)
      have sp : Step H G (upd H p (.lst (v1 ++ v2))) (upd G p (.lst (v1 ++ v2))) := .lay .refl hp
      exact k _ _ _ sp (.lst upd_same ((r1.append r2).mono (sp.same gh).2.1))
    · cases e
  · split at e
    · cases e
      rename_i h
      obtain ⟨a1, v1, rfl, h1, r1⟩ := tx.tup gh
      obtain ⟨a2, v2, rfl, h2, r2⟩ := ty.tup gh
      have t1 := tx
      refine .inr ⟨a1, a2, v1, v2, rfl, rfl, h1, h2, by rw [← r1.length, ← r2.length]; exact h, fun e1 => ?_, fun e1 e2 => ?_, fun e1 e2 p hp => ?_⟩
      · subst e1
        cases r1
        rcases ty with ty | ⟨_, _, _, z⟩
        · exact k _ H G .refl ty
        · exact z.elim
      · subst e2
        cases r2
        rw [List.append_nil] at k
        rcases tx with tx | ⟨_, _, _, z⟩
        · exact k _ H G .refl tx
        · exact z.elim
      · have sp : Step H G (upd H p (.tup (v1 ++ v2))) (upd G p (.tup (v1 ++ v2))) := .lay .refl hp
        exact k _ _ _ sp (.tup (SqT.of upd_same) ((r1.append r2).mono (sp.same gh).2.1))
    · cases e
  · cases e
theorem RepL.rep {K : PySem.W.Frag} {G : Hp} {ds : List D} {vs : List V} (h : RepL K cl G ds vs) : ∀ k : Nat, RepL K cl G (List.replicate k ds).flatten (List.replicate k vs).flatten
  | 0 => by simp only [List.replicate_zero, List.flatten_nil]; exact .nil
  | k + 1 => by simp only [List.replicate_succ, List.flatten_cons]; exact h.append (RepL.rep h k)
def mulD : D → D → Option D
  | .int i, .int j => if mulOk i j then some (.int (i * j)) else none
  | .lst a, .int k => if -(2 ^ 63) ≤ k ∧ k < 2 ^ 63 ∧ a.length * k.toNat ≤ sizeLine then some (.lst (List.replicate k.toNat a).flatten) else none
  | .tup a, .int k => if a ≠ [] ∧ 2 ≤ k ∧ k ≤ 1000 ∧ a.length ≤ 1000 then some (.tup (List.replicate k.toNat a).flatten) else none
  | _, _ => none
theorem od_mul : OpD X cl (binaryOp .Mult) mulD := by
  refine ⟨_, (op_mul.or op_rep).or op_repT, fun H G x y dx dy dz Q gh tx ty e k => ?_⟩
  unfold mulD at e
  split at e
  · split at e
    · cases e
      rename_i h
      exact .inl (.inl ⟨_, _, tx.int, ty.int, by simpa [mulOk, CMul] using h, k _ H G .refl .int⟩)
    · cases e
  · split at e
    · cases e
      rename_i h
      obtain ⟨a1, v1, rfl, h1, r1⟩ := tx.lst gh
      refine .inl (.inr ⟨a1, _, v1, rfl, ty.int, h1, h.1, h.2.1, by rw [← r1.length]; exact h.2.2, fun p hp => ?_⟩)
      exact k _ _ _ (.lay .refl hp) (.lst upd_same ((r1.rep _).mono (same_upd (gh.free hp))))
    · cases e
  · split at e
    · cases e
      rename_i h
      obtain ⟨a1, v1, rfl, h1, r1⟩ := tx.tup gh
      refine .inr ⟨a1, _, v1, rfl, ty.int, h1, fun z => h.1 (by subst z; cases r1; rfl), h.2.1, h.2.2.1, by rw [← r1.length]; exact h.2.2.2, fun p hp => ?_⟩
      exact k _ _ _ (.lay .refl hp) (.tup (SqT.of upd_same) ((r1.rep _).mono (same_upd (gh.free hp))))
    · cases e
  · cases e

/-! ### comparisons -/
def shp (d : D) : Bool := d.pl && SeqAt.shaped d.py
/-- == -/
def eqB (a b : D) : Bool := PyData.eqv a.py b.py
def eqD (a b : D) : Option D := if shp a && shp b then some (.bl (eqB a b)) else none
def neD (a b : D) : Option D := if shp a && shp b then some (.bl (!eqB a b)) else none
theorem shp_inv {d : D} (h : shp d = true) : d.pl = true ∧ SeqAt.shaped d.py = true := Bool.and_eq_true_iff.mp h
theorem od_eq (hu : X.A.units + 64 < cLine) : OpD X cl (compareOp .Eq) eqD := by
  refine ⟨_, op_eqD hu, fun H G x y dx dy dz Q gh tx ty e k => ?_⟩
  unfold eqD at e
  split at e
  · rename_i h
    cases e
    obtain ⟨h1, h2⟩ := Bool.and_eq_true_iff.mp h
    obtain ⟨p1, q1⟩ := shp_inv h1
    obtain ⟨p2, q2⟩ := shp_inv h2
    exact ⟨_, _, (tx.rep gh).dp p1, (ty.rep gh).dp p2, q1, q2, k _ H G .refl .bl⟩
  · cases e
theorem od_ne (hu : X.A.units + 64 < cLine) : OpD X cl (compareOp .NotEq) neD := by
  refine ⟨_, op_neD hu, fun H G x y dx dy dz Q gh tx ty e k => ?_⟩
  unfold neD at e
  split at e
  · rename_i h
    cases e
    obtain ⟨h1, h2⟩ := Bool.and_eq_true_iff.mp h
    obtain ⟨p1, q1⟩ := shp_inv h1
    obtain ⟨p2, q2⟩ := shp_inv h2
    exact ⟨_, _, (tx.rep gh).dp p1, (ty.rep gh).dp p2, q1, q2, k _ H G .refl .bl⟩
  · cases e
def strLt (a b : Str) : Bool := decide (a.cps.toList < b.cps.toList)
def ltD : D → D → Option D
  | .int i, .int j => some (.bl (decide (i < j)))
  | .str a, .str b => some (.bl (strLt a b))
  | _, _ => none
def leD : D → D → Option D := intOp (fun _ _ => true) fun i j => .bl (decide (i ≤ j))
def gtD : D → D → Option D := intOp (fun _ _ => true) fun i j => .bl (decide (j < i))
def geD : D → D → Option D := intOp (fun _ _ => true) fun i j => .bl (decide (j ≤ i))
theorem od_lt : OpD X cl (compareOp .Lt) ltD := by
  refine ⟨_, op_lt.or op_lt_str, fun H G x y dx dy dz Q gh tx ty e k => ?_⟩
  unfold ltD at e
  split at e
  · cases e; exact .inl ⟨_, _, tx.int, ty.int, k _ H G .refl .bl⟩
  · cases e; exact .inr ⟨_, _, tx.str, ty.str, k _ H G .refl .bl⟩
  · cases e
theorem od_le : OpD X cl (compareOp .LtE) leD := intD0 op_le fun _ _ _ => .bl
theorem od_gt : OpD X cl (compareOp .Gt) gtD := intD0 op_gt fun _ _ _ => .bl
theorem od_ge : OpD X cl (compareOp .GtE) geD := intD0 op_ge fun _ _ _ => .bl
/-- is None -/
def D.isNon : D → Bool
  | .non => true
  | _ => false
def isD (a b : D) : Option D := match b with
  | .non => some (.bl a.isNon)
  | _ => none
def isNotD (a b : D) : Option D := match b with
  | .non => some (.bl (!a.isNon))
  | _ => none
theorem D.isNon_eq {K : PySem.W.Frag} {H G : Hp} {d : D} {x : V} (h : Top K cl H G d x) : decide (x = V.non) = d.isNon := by
  have h := h.non_iff
  cases d <;> simp [h, D.isNon]
theorem od_is : OpD X cl (compareOp .Is) isD := by
  refine ⟨_, op_isN, fun H G x y dx dy dz Q gh tx ty e k => ?_⟩
  cases dy <;> simp only [isD] at e <;> first | (cases e; done) | skip
  cases e
  refine ⟨ty.non, ?_⟩
  rw [D.isNon_eq tx]
  exact k _ H G .refl .bl
theorem od_isNot : OpD X cl (compareOp .IsNot) isNotD := by
  refine ⟨_, op_notN, fun H G x y dx dy dz Q gh tx ty e k => ?_⟩
  cases dy <;> simp only [isNotD] at e <;> first | (cases e; done) | skip
  cases e
  refine ⟨ty.non, ?_⟩
  rw [D.isNon_eq tx]
  exact k _ H G .refl .bl
/-- x in ys, ys a list or a tuple of plain data -/
def memB (x : D) (ys : List D) : Bool := (D.pyL ys).any fun z => PyData.eqv z x.py
def hasK {α : Type} [DecidableEq α] (ks : List α) (k : α) : Bool := ks.any fun x => decide (x = k)
def keyOf : D → Option Key
  | .int i => some (.inl i)
  | .str s => some (.inr s)
  | _ => none
def inB (a b : D) : Option Bool := match b with
  | .lst l => if shp a && shp (.lst l) then some (memB a l) else none
  | .tup l => if shp a && shp (.tup l) then some (memB a l) else none
  | .str z => (match a with
    | .str x => if x.length = 1 then some (decide (x.cps.getD 0 0 ∈ z.cps.toList)) else none
    | _ => none)
  | .dct ks l => (keyOf a).map fun k => hasK ks k
  | _ => none
def inD (a b : D) : Option D := (inB a b).map D.bl
def notInD (a b : D) : Option D := (inB a b).map fun k => .bl (!k)
def rInDT (K : PySem.W.Frag) (neg : Bool) : R2 := fun x y H Q => ∃ d ds, Dp K H x d ∧ Dp K H y (.tuple ds) ∧ SeqAt.shaped d = true ∧ SeqAt.shaped (.tuple ds) = true ∧ Q (.bl (if neg then !(ds.any fun z => PyData.eqv z d) else ds.any fun z => PyData.eqv z d)) H
theorem op_inDT (hu : X.A.units + 65 < cLine) : OpR X (compareOp .In) (rInDT X.K false) := by
  intro pins s σ H x
                                                                                                              y v u Q I rx ry h
  obtain ⟨d, ds, hd,
                                                                                                              he, sd, se, q⟩ := h
  obtain ⟨as, r1⟩ :=
                                                                                                              Dp.reads I d x v hd rx
  obtain ⟨bs, r2⟩ := Dp.reads I (.tuple ds) y u he ry
  exact SeqAt.in_tuple_reads r2 r1 (SeqAt.canLay_of_shaped se) (SeqAt.canLay_of_shaped sd) (room_in_shaped sd hu) ⟨.bl _, H, I, rfl, q⟩
theorem op_notInDT (hu : X.A.units + 65 < cLine) : OpR X (compareOp .NotIn) (rInDT X.K true) := by
  intro pins s σ H x
                                                                                                              y v u Q I rx ry h
  obtain ⟨d, ds, hd,
                                                                                                              he, sd, se, q⟩ := h
  obtain ⟨as, r1⟩ :=
                                                                                                              Dp.reads I d x v hd rx
  obtain ⟨bs, r2⟩ := Dp.reads I (.tuple ds) y u he ry
  exact SeqAt.notIn_tuple_reads r2 r1 (SeqAt.canLay_of_shaped se) (SeqAt.canLay_of_shaped sd) (room_in_shaped sd hu) ⟨.bl _, H, I, rfl, q⟩
theorem one_sign {x : Str} (h : x.length
                                                                                                              = 1) : x = ⟨#[x.cps.getD 0 0]⟩ := by
  obtain ⟨⟨l⟩⟩ := x
  match l, h with
  | [c], _ => rfl
/-- x in d, d a dict by ints and texts -/
def rInK : R2 := fun x y H Q => ∃ a kvs k, y = .ref a ∧ Rd H a (.dK kvs) ∧ x = kV k ∧ Q (.bl (valV kvs k).isSome) H
def rNotInK : R2 := fun x y H Q => ∃ a kvs k, y = .ref a ∧ Rd H a (.dK kvs) ∧ x = kV k ∧ Q (.bl (!(valV kvs k).isSome)) H
theorem op_inK (hu : X.A.units + 1 < cLine) : OpR X (compareOp .In) rInK := by
  intro pins s σ H x
                                                                                                              y v u Q I rx ry h
  obtain ⟨a, kvs, k, rfl, h1, rfl, q⟩ := h
  cases ry
  exact d_in hu I (.inl ⟨_, _, h1, rfl, rfl⟩) rx fun s3 I3 => ⟨.bl _, H, I3, rfl, q⟩
theorem op_notInK (hu : X.A.units + 1 < cLine) : OpR X (compareOp .NotIn) rNotInK := by
  intro pins s σ H x
                                                                                                              y v u Q I rx ry h
  obtain ⟨a, kvs, k, rfl, h1, rfl, q⟩ := h
  cases ry
  exact d_notIn hu I (.inl ⟨_, _, h1, rfl, rfl⟩) rx fun s3 I3 => ⟨.bl _, H, I3, rfl, q⟩
theorem valV_zip_some {α : Type} [DecidableEq α] {β : Type} (k : α) : ∀ (ks : List α) (vs : List β), ks.length = vs.length → (((ks.zip vs).find? fun kv => decide (kv.1 = k)).map (·.2)).isSome = hasK ks k
  | [], [], _ => by simp [hasK]
  | a :: ks, v :: vs, h => by
    have ih := valV_zip_some k ks vs (by simpa using h)
    by_cases e : a = k
    · simp [e, hasK]
    · simp only [List.zip_cons_cons, List.find?_cons, hasK, List.any_cons, e, decide_false, Bool.false_or]
      exact ih
theorem keyOf_rel {K : PySem.W.Frag} {H G : Hp} {d : D} {k : Key} {v : V} (h : Top K cl H G d v) (e : keyOf d = some k) : v = kV k := by
  cases d <;> simp only [keyOf] at e <;> first | (cases e; done) | skip
  · cases e; exact h.int
  · cases e; exact h.str
theorem Top.dct {K : PySem.W.Frag} {H G : Hp} {ks : List Key} {l : List D} {v : V} (g : Same G H) (h : Top K cl H G (.dct ks l) v) : ∃ a vs, v = .ref a ∧ Rd H a (.dK (ks.zip vs)) ∧ ks.length = vs.length ∧ RepL K cl G l vs := by
  rcases h with h | ⟨a, rfl, hn, vs, h1, h3, h2⟩
  · cases h with
    | dct h l r => exact ⟨_, _, rfl, Rd.same g h, l, r⟩
  · exact ⟨_, _, rfl, .inl h1, h3, h2⟩
theorem od_in (hu : X.A.units + 65 < cLine) : OpD X cl (compareOp .In) inD := by
  refine ⟨_, ((((op_inD hu).or (op_inDT hu)).or op_in_sign).or (op_inK (by omega))), fun H G x y dx dy dz Q gh tx ty e k => ?_⟩
  unfold inD at e
  obtain ⟨b, hb, rfl⟩ := Option.map_eq_some_iff.mp e
  unfold inB at hb
  split at hb
  · split at hb
    · rename_i h
      cases hb
      obtain ⟨h1, h2⟩ := Bool.and_eq_true_iff.mp h
      obtain ⟨p1, q1⟩ := shp_inv h1
      obtain ⟨p2, q2⟩ := shp_inv h2
      exact .inl (.inl (.inl ⟨_, _, (tx.rep gh).dp p1, (ty.rep gh).dp p2, q1, q2, k _ H G .refl .bl⟩))
    · cases hb
  · split at hb
    · rename_i h
      cases hb
      obtain ⟨h1, h2⟩ := Bool.and_eq_true_iff.mp h
      obtain ⟨p1, q1⟩ := shp_inv h1
      obtain ⟨p2, q2⟩ := shp_inv h2
      exact .inl (.inl (.inr ⟨_, _, (tx.rep gh).dp p1, (ty.rep gh).dp p2, q1, q2, k _ H G .refl .bl⟩))
    · cases hb
  · split at hb
    · split at hb
      · rename_i h
        cases hb
        exact .inl (.inr ⟨_, _, by rw [tx.str]; exact congrArg V.str (one_sign h), ty.str, k _ H G .refl .bl⟩)
      · cases hb
    · cases hb
  · obtain ⟨k', hk, rfl⟩ := Option.map_eq_some_iff.mp hb
    obtain ⟨a, vs, rfl, h1, hl, r⟩ := ty.dct gh
    refine .inr ⟨a, _, k', rfl, h1, keyOf_rel tx hk, ?_⟩
    have e1 : (valV (List.zip _ vs) k').isSome = _ := valV_zip_some k' _ vs hl
    rw [e1]
    exact k _ H G .refl .bl
  · cases hb
theorem od_notIn (hu : X.A.units + 65 < cLine) : OpD X cl (compareOp .NotIn) notInD := by
  refine ⟨_, ((((op_notInD hu).or (op_notInDT hu)).or op_notIn_sign).or (op_notInK (by omega))), fun H G x y dx dy dz Q gh tx ty e k => ?_⟩
  unfold notInD at e
  obtain ⟨b, hb, rfl⟩ := Option.map_eq_some_iff.mp e
  unfold inB at hb
  split at hb
  · split at hb
    · rename_i h
      cases hb
      obtain ⟨h1, h2⟩ := Bool.and_eq_true_iff.mp h
      obtain ⟨p1, q1⟩ := shp_inv h1
      obtain ⟨p2, q2⟩ := shp_inv h2
      exact .inl (.inl (.inl ⟨_, _, (tx.rep gh).dp p1, (ty.rep gh).dp p2, q1, q2, k _ H G .refl .bl⟩))
    · cases hb
  · split at hb
    · rename_i h
      cases hb
      obtain ⟨h1, h2⟩ := Bool.and_eq_true_iff.mp h
      obtain ⟨p1, q1⟩ := shp_inv h1
      obtain ⟨p2, q2⟩ := shp_inv h2
      exact .inl (.inl (.inr ⟨_, _, (tx.rep gh).dp p1, (ty.rep gh).dp p2, q1, q2, k _ H G .refl .bl⟩))
    · cases hb
  · split at hb
    · split at hb
      · rename_i h
        cases hb
        exact .inl (.inr ⟨_, _, by rw [tx.str]; exact congrArg V.str (one_sign h), ty.str, k _ H G .refl .bl⟩)
      · cases hb
    · cases hb
  · obtain ⟨k', hk, rfl⟩ := Option.map_eq_some_iff.mp hb
    obtain ⟨a, vs, rfl, h1, hl, r⟩ := ty.dct gh
    refine .inr ⟨a, _, k', rfl, h1, keyOf_rel tx hk, ?_⟩
    have e1 : (valV (List.zip _ vs) k').isSome = _ := valV_zip_some k' _ vs hl
    rw [e1]
    exact k _ H G .refl .bl
  · cases hb
end
end DL

namespace DL
open PySem L2 PySem.Spec PyProof.Rows

/-! ### tests -/
def tru : D → Option Bool
  | .non => some false
  | .bl b => some b
  | .int i => some (i != 0)
  | .str s => if s.length ≤ sizeLine then some ((s.length : Int) != 0) else none
  | .tup l | .lst l => some (!l.isEmpty)
  | .scr l => some (!l.isEmpty)
  | _ => none
def optB {α : Type} (o : Option α) (e : Env) : Out α := match o with
  | some b => .ok b e
  | none => .bad
def cTru (f : M R) : M Bool := fun e => (f e).bnd fun r e1 => optB ((e1.rd r).bind tru) e1
def cNot (f : M Bool) : M Bool := fun e => (f e).bnd fun b e1 => .ok (!b) e1
def cAnd (f g : M Bool) : M Bool := fun e => (f e).bnd fun b e1 => if b then g e1 else .ok false e1
def cOr (f g : M Bool) : M Bool := fun e => (f e).bnd fun b e1 => if b then .ok true e1 else g e1
/-- .. as values -/
def cAndV (f g : M R) : M R := fun e => (f e).bnd fun r e1 => match r with
  | .val (.bl b) => if b then g e1 else .ok (.val (.bl false)) e1
  | _ => .bad
def cOrV (f g : M R) : M R := fun e => (f e).bnd fun r e1 => match r with
  | .val (.bl b) => if b then .ok (.val (.bl true)) e1 else g e1
  | _ => .bad
def cNotV (f : M R) : M R := fun e => (f e).bnd fun r e1 => match r with
  | .val (.bl b) => .ok (.val (.bl (!b))) e1
  | _ => .bad
def cIf (c : M Bool) (f g : M R) : M R := fun e => (c e).bnd fun b e1 => if b then f e1 else g e1
structure RW (X : Cx) (cl : Str → Addr) (F : Fra) (W : WX) (x : Expr) (f : M Bool) : Prop where
  pw : PW X x (tB' X.K cl F W f)
section
variable {X : Cx} {cl : Str → Addr} {F : Fra} {W : WX}
theorem post_some {α : Type} {K : PySem.W.Frag} {σ : L2.St} {o : Option α} {e : Env} {q : α → Env → Prop} (h : Post K cl F W σ (optB o e) q) : ∃ b, o = some b ∧ q b e := by
  cases o with
  | some b => exact ⟨b, rfl, h⟩
  | none => exact h.elim
theorem Top.tru {H G : Hp} {d : D} {v : V} {b : Bool} (g : Same G H) (h : Top X.K cl H G d v) (e : tru d = some b) : TruV X.K v H b := by
  cases d with
  | non => cases h.non; cases e; rfl
  | bl b => cases h.bl; cases e; rfl
  | int i => cases h.int; cases e; rfl
  | str s =>
    cases h.str
    simp only [DL.tru] at e
    split at e
    · rename_i hl; cases e; exact ⟨hl, rfl⟩
    · cases e
  | tup l =>
    obtain ⟨a, vs, rfl, h1, r⟩ := h.tup g
    cases e
    exact .inr (.inl ⟨vs, h1, by cases r <;> rfl⟩)
  | lst l =>
    obtain ⟨a, vs, rfl, h1, r⟩ := h.lst g
    cases e
    exact .inl ⟨vs, SqL.of h1, by cases r <;> rfl⟩
  | scr l =>
    obtain ⟨a, rfl, h1⟩ := h.scr g
    cases e
    exact .inl ⟨_, h1, by cases l <;> rfl⟩
  | _ => cases e
theorem rt_tru {a : Expr} {f : M R} (h : RE X cl F W a f) (he : ∀ whole, isTrue a X.env whole = (do let v ← whole; standAt a.pos; holding [v] (truthy v)) := by intro _; rfl) : RT X cl F W a (cTru f) := by
  refine ⟨PT.imp (pt_truth h.pe he) fun σ H Q ⟨e, G, st, q⟩ => tD_then st q fun r e1 v H1 G1 s1 k1 r1 z => ?_⟩
  obtain ⟨b, hb, z⟩ := post_some z
  obtain ⟨d, hd, hb⟩ := Option.bind_eq_some_iff.mp hb
  exact ⟨b, (s1.top r1 hd).tru s1.ret.gh hb, z H1 G1 s1 k1⟩
theorem rt_not {a : Expr} {f : M Bool} {pos : Pos} (h : RT X cl F W a f) : RT X cl F W (.UnaryOp .Not a pos) (cNot f) :=
  ⟨PT.imp (pt_not h.pt) fun σ H Q ⟨e, G, st, q⟩ => tB_then st q fun r e1 H1 G1 s1 k1 z => z H1 G1 s1 k1⟩
theorem and_D {fa fb : M Bool} {σ : L2.St} {H : Hp} {Q : Bool → Hp → Prop} (h : tB' X.K cl F W (cAnd fa fb) σ H Q) : tAnd (tB' X.K cl F W fa) (tB' X.K cl F W fb) σ H Q := by
  obtain ⟨e, G, st, q⟩ := h
  refine tB_then st q fun r e1 H1 G1 s1 k1 z => ?_
  cases r with
  | false => exact z H1 G1 s1 k1
  | true => exact ⟨e1, G1, s1, post_imp z fun b e2 z2 H2 G2 s2 k2 => z2 H2 G2 s2 (k1.trans k2)⟩
theorem or_D {fa fb : M Bool} {σ : L2.St} {H : Hp} {Q : Bool → Hp → Prop} (h : tB' X.K cl F W (cOr fa fb) σ H Q) : tOr (tB' X.K cl F W fa) (tB' X.K cl F W fb) σ H Q := by
  obtain ⟨e, G, st, q⟩ := h
  refine tB_then st q fun r e1 H1 G1 s1 k1 z => ?_
  cases r with
  | true => exact z H1 G1 s1 k1
  | false => exact ⟨e1, G1, s1, post_imp z fun b e2 z2 H2 G2 s2 k2 => z2 H2 G2 s2 (k1.trans k2)⟩
theorem rw_and1 {a : Expr} {f : M Bool} {pos : Pos} (h : RT X cl F W a f) : RW X cl F W (.BoolOp .And [a] pos) f := ⟨pw_and1 h.pt⟩
theorem rw_or1 {a : Expr} {f : M Bool} {pos : Pos} (h : RT X cl F W a f) : RW X cl F W (.BoolOp .Or [a] pos) f := ⟨pw_or1 h.pt⟩
theorem rw_and {a b : Expr} {rest : List Expr} {f g : M Bool} {pos : Pos} (h : RT X cl F W a f) (h2 : RW X cl F W (.BoolOp .And (b :: rest) pos) g) : RW X cl F W (.BoolOp .And (a :: b :: rest) pos) (cAnd f g) :=
  ⟨PW.imp (pw_and h.pt h2.pw) fun σ H Q q => and_D q⟩
theorem rw_or {a b : Expr} {rest : List Expr} {f g : M Bool} {pos : Pos} (h : RT X cl F W a f) (h2 : RW X cl F W (.BoolOp .Or (b :: rest) pos) g) : RW X cl F W (.BoolOp .Or (a :: b :: rest) pos) (cOr f g) :=
  ⟨PW.imp (pw_or h.pt h2.pw) fun σ H Q q => or_D q⟩
theorem rt_w {a : Expr} {f : M Bool} (h : RW X cl F W a f) : RT X cl F W a f := ⟨h.pw.pt⟩
theorem re_one {a : Expr} {op : BoolOp} {f : M R} {pos : Pos} (h : RE X cl F W a f) : RE X cl F W (.BoolOp op [a] pos) f := ⟨pe_one h.pe⟩
theorem blR {K : PySem.W.Frag} {σ : L2.St} {G : Hp} {b : Bool} {v : V} (h : RR K cl σ G (.val (.bl b)) v) : v = .bl b := by cases h; rfl
theorem re_and {a b : Expr} {rest : List Expr} {f g : M R} {pos : Pos} (h : RE X cl F W a f) (h2 : RE X cl F W (.BoolOp .And (b :: rest) pos) g) : RE X cl F W (.BoolOp .And (a :: b :: rest) pos) (cAndV f g) := by
  refine ⟨PE.imp (pe_and h.pe h2.pe) fun σ H Q ⟨e, G, st, q⟩ => tD_then st q fun r e1 v H1 G1 s1 k1 r1 z => ?_⟩
  cases r with
  | whole i => exact z.elim
  | val d =>
    cases d with
    | bl b =>
      cases blR r1
      refine ⟨b, rfl, ?_⟩
      cases b with
      | false => exact z _ H1 G1 s1 k1 .bl
      | true => exact ⟨e1, G1, s1, post_imp z fun b e2 z2 v H2 G2 s2 k2 r2 => z2 v H2 G2 s2 (k1.trans k2) r2⟩
    | _ => exact z.elim
theorem re_or {a b : Expr} {rest : List Expr} {f g : M R} {pos : Pos} (h : RE X cl F W a f) (h2 : RE X cl F W (.BoolOp .Or (b :: rest) pos) g) : RE X cl F W (.BoolOp .Or (a :: b :: rest) pos) (cOrV f g) := by
  refine ⟨PE.imp (pe_or h.pe h2.pe) fun σ H Q ⟨e, G, st, q⟩ => tD_then st q fun r e1 v H1 G1 s1 k1 r1 z => ?_⟩
  cases r with
  | whole i => exact z.elim
  | val d =>
    cases d with
    | bl b =>
      cases blR r1
      refine ⟨b, rfl, ?_⟩
      cases b with
      | true => exact z _ H1 G1 s1 k1 .bl
      | false => exact ⟨e1, G1, s1, post_imp z fun b e2 z2 v H2 G2 s2 k2 r2 => z2 v H2 G2 s2 (k1.trans k2) r2⟩
    | _ => exact z.elim
theorem re_not {a : Expr} {f : M R} {pos : Pos} (h : RE X cl F W a f) : RE X cl F W (.UnaryOp .Not a pos) (cNotV f) := by
  refine ⟨PE.imp (pe_not h.pe) fun σ H Q ⟨e, G, st, q⟩ => tD_then st q fun r e1 v H1 G1 s1 k1 r1 z => ?_⟩
  cases r with
  | whole i => exact z.elim
  | val d =>
    cases d with
    | bl b =>
      cases blR r1
      exact ⟨b, rfl, z _ H1 G1 s1 k1 .bl⟩
    | _ => exact z.elim
theorem re_if {c a b : Expr} {fc : M Bool} {f g : M R} {pos : Pos} (hc : RT X cl F W c fc) (h : RE X cl F W a f) (h2 : RE X cl F W b g) : RE X cl F W (.IfExp c a b pos) (cIf fc f g) := by
  refine ⟨PE.imp (pe_ifExp hc.pt h.pe h2.pe) fun σ H Q ⟨e, G, st, q⟩ => tB_then st q fun r e1 H1 G1 s1 k1 z => ?_⟩
  cases r with
  | true => exact ⟨e1, G1, s1, post_imp z fun b e2 z2 v H2 G2 s2 k2 r2 => z2 v H2 G2 s2 (k1.trans k2) r2⟩
  | false => exact ⟨e1, G1, s1, post_imp z fun b e2 z2 v H2 G2 s2 k2 r2 => z2 v H2 G2 s2 (k1.trans k2) r2⟩
/-- a op b op' c -/
def cChain (g g' : D → D → Option D) (fa fb fc : M R) : M R := fun e => (fa e).bnd fun x e1 => (fb e1).bnd fun y e2 => match opt2 g (e2.rd x) (e2.rd y) with
  | some (.bl true) => (fc e2).bnd fun z e3 => opt (opt2 g' (e3.rd y) (e3.rd z)) e3
  | some (.bl false) => .ok (.val (.bl false)) e2
  | _ => .bad
theorem chain_D {f f' : Value → Value → Sem Value} {g g' : D → D → Option D} {fa fb fc : M R} {r r' : R2} {σ : L2.St} {H : Hp} {Q : VK}
    (hg : ∀ H G x y dx dy dz Q, Same G H → Top X.K cl H G dx x → Top X.K cl H G dy y → g dx dy = some dz → (∀ v H' G', Step H G H' G' → Rep X.K cl G' dz v → Q v H') → r x y H Q)
    (hg' : ∀ H G x y dx dy dz Q, Same G H → Top X.K cl H G dx x → Top X.K cl H G dy y → g' dx dy = some dz → (∀ v H' G', Step H G H' G' → Rep X.K cl G' dz v → Q v H') → r' x y H Q)
    (h : tD X.K cl F W (cChain g g' fa fb fc) σ H Q) : tChain r r' (tD X.K cl F W fa) (tD X.K cl F W fb) (tD X.K cl F W fc) σ H Q := by
  obtain ⟨e, G, st, q⟩ := h
  refine tD_then st q fun x e1 v1 H1 G1 s1 k1 r1 z => tD_then s1 z fun y e2 v2 H2 G2 s2 k2 r2 z => ?_
  cases hz : opt2 g (e2.rd x) (e2.rd y) with
  | none => rw [hz] at z; exact z.elim
  | some d =>
    rw [hz] at z
    obtain ⟨dx, dy, hx, hy, hg2⟩ := opt2_ok hz
    refine hg H2 G2 v1 v2 dx dy d _ s2.ret.gh (s2.top (r1.mono k2.gg) hx) (s2.top r2 hy) hg2 fun v H3 G3 sp rv => ?_
    have s3 := s2.step sp
    have k3 := (k1.trans k2).trans (Kp.step s2 sp)
    cases d with
    | bl b =>
      cases rv
      refine ⟨b, rfl, ?_⟩
      cases b with
      | false => exact z _ H3 G3 s3 k3 .bl
      | true =>
        refine tD_then s3 z fun w e4 v4 H4 G4 s4 k4 r4 z => ?_
        obtain ⟨dz, z1, z⟩ := post_opt z
        obtain ⟨dy', dw, hy', hw, hg3⟩ := opt2_ok z1
        refine hg' H4 G4 v2 v4 dy' dw dz Q s4.ret.gh (s4.top ((r2.mono (Kp.step s2 sp).gg).mono k4.gg) hy') (s4.top r4 hw) hg3 fun v H' G' sp2 rv2 => ?_
        exact z v H' G' (s4.step sp2) ((k3.trans k4).trans (Kp.step s4 sp2)) rv2
    | _ => exact z.elim
theorem re_chain {a b c : Expr} {op op' : CmpOp} {g g' : D → D → Option D} {fa fb fc : M R} {pos : Pos} (ho : OpD X cl (compareOp op) g) (ho' : OpD X cl (compareOp op') g') (ha : RE X cl F W a fa) (hb : RE X cl F W b fb) (hc : RE X cl F W c fc)
    (hm : lastMarks [op, op'] [b, c] = false := by with_unfolding_all rfl) : RE X cl F W (.Compare a [op, op'] [b, c] pos) (cChain g g' fa fb fc) := by
  obtain ⟨r, h1, h2⟩ := ho
  obtain ⟨r', h1', h2'⟩ := ho'
  exact ⟨PE.imp (pe_chain h1 h1' ha.pe hb.pe hc.pe hm) fun σ H Q h => chain_D (f := compareOp op) (f' := compareOp op') h2 h2' h⟩
theorem rt_chain {a b c : Expr} {op op' : CmpOp} {g g' : D → D → Option D} {fa fb fc : M R} {pos : Pos} (ho : OpD X cl (compareOp op) g) (ho' : OpD X cl (compareOp op') g') (ha : RE X cl F W a fa) (hb : RE X cl F W b fb) (hc : RE X cl F W c fc)
    (hm : lastMarks [op, op'] [b, c] = false := by with_unfolding_all rfl) : RT X cl F W (.Compare a [op, op'] [b, c] pos) (cTest (cChain g g' fa fb fc)) := by
  obtain ⟨r, h1, h2⟩ := ho
  obtain ⟨r', h1', h2'⟩ := ho'
  refine ⟨PT.imp (pt_chain h1 h1' ha.pe hb.pe hc.pe hm) fun σ H Q h => ?_⟩
  exact chain_D (f := compareOp op) (f' := compareOp op') h2 h2' (tTest_D h)

/-! ### subscripts -/
def rIxS2 : R2 := rIxS
def ixD : D → D → Option D
  | .lst l, .int i => atI l i
  | .tup l, .int i => atI l i
  | .scr l, .int i => (atI l i).map D.int
  | .str s, .int i => if s.length ≤ sizeLine then (atI s.cps.toList i).map fun c => .str ⟨#[c]⟩ else none
  | .dct ks l, k => (keyOf k).bind fun k => ((ks.zip l).find? fun kv => decide (kv.1 = k)).map (·.2)
  | _, _ => none
theorem ixN_lt {n : Nat} {i : Int} {j : Nat} (h : ixN n i = some j) : j < n := (ixN_seq h).2.1
theorem RepL.atI {K : PySem.W.Frag} {G : Hp} {ds : List D} {vs : List V} {i : Int} {d : D} (r : RepL K cl G ds vs) (h : L2.atI ds i = some d) : ∃ v, L2.atI vs i = some v ∧ Rep K cl G d v := by
  unfold L2.atI at h ⊢
  rw [← r.length]
  obtain ⟨j, hj, hd⟩ := Option.bind_eq_some_iff.mp h
  rw [hj]
  exact r.getD hd
/-- d[k], by values -/
def rIxD : R2 := fun x y H Q => ∃ a kvs k v, x = .ref a ∧ Rd H a (.dK kvs) ∧ y = kV k ∧ valV kvs k = some v ∧ Q v H
theorem ix_dict (hu : X.A.units + 1 < cLine) : IxR X rIxD := by
  intro value slice pins s σ
                                                                                                              H x y v u Q I rx ry h hs
  obtain ⟨a, kvs, k, w, rfl, h1, rfl, h2, q⟩ := h
  cases rx
  have g : DGet H a (kV k) (some w) := by
    have z : DGet H a (kV k) (valV kvs k) := .inl ⟨kvs, k, h1, rfl, rfl⟩
    rw [h2] at z
    exact z
  exact tail_any (ops := [.ref a, u]) (dict_typeIs I g) PySem.F.slot_dict_getitem.lookup (d_getItem hu I g ry fun w' s3 I3 rw' => ⟨w, H, I3, rw', q⟩) hs
theorem RepL.zipFind {α : Type} [DecidableEq α] {K : PySem.W.Frag} {G : Hp} {k : α} {d : D} : ∀ {ks : List α} {ds : List D} {vs : List V}, RepL K cl G ds vs → ((ks.zip ds).find? fun kv => decide (kv.1 = k)).map (·.2) = some d → ∃ v, ((ks.zip vs).find? fun kv => decide (kv.1 = k)).map (·.2) = some v ∧ Rep K cl G d v
  | [], _, _, _, h =>
                                                                                                              by simp at h
  | _ :: _, _, _, .nil, h => by simp at h
  | a :: ks, _, _, .cons r t, h => by
    by_cases e : a = k
    · simp [e] at h ⊢; subst h; exact r
    · simp only [List.zip_cons_cons, List.find?_cons, e, decide_false] at h ⊢
      exact RepL.zipFind t h
theorem atI_map {α β : Type} (f : α → β) (l : List α) (i : Int) : L2.atI (l.map f) i = (L2.atI l i).map f := by
  unfold L2.atI
  rw [List.length_map]
  cases ixN l.length i with
  | none => rfl
  | some j => simp
theorem re_ix {a b : Expr} {fa fb : M R} {pos : Pos} (hu : X.A.units + 1 < cLine) (ha : RE X cl F W a fa) (hb : RE X cl F W b fb) (hs : PlainIx b := by intro _ _; rfl) : RE X cl F W (.Subscript a b pos) (cOp ixD fa fb) := by
  refine ⟨PE.imp (pe_ix (ix_seq.or (ix_dict hu)) ha.pe hb.pe hs) fun σ H Q h => tOp_D (f := fun _ _ => getItem .none .none) (fun H G x y dx dy dz Q gh tx ty e k => ?_) h⟩
  unfold ixD at e
  split at e
  · obtain ⟨a1, v1, rfl, h1, r1⟩ := tx.lst gh
    obtain ⟨v, hv, rv⟩ := r1.atI e
    exact .inl (.inl ⟨a1, v1, _, v, rfl, ty.int, SqL.of h1, hv, k _ H G .refl rv⟩)
  · obtain ⟨a1, v1, rfl, h1, r1⟩ := tx.tup gh
    obtain ⟨v, hv, rv⟩ := r1.atI e
    exact .inl (.inr (.inl ⟨a1, v1, _, v, rfl, ty.int, h1, hv, k _ H G .refl rv⟩))
  · obtain ⟨a1, rfl, h1⟩ := tx.scr gh
    obtain ⟨n, hn, rfl⟩ := Option.map_eq_some_iff.mp e
    exact .inl (.inl ⟨a1, _, _, .int n, rfl, ty.int, h1, by rw [atI_map, hn]; rfl, k _ H G .refl .int⟩)
  · split at e
    · rename_i hl
      obtain ⟨c, hc, rfl⟩ := Option.map_eq_some_iff.mp e
      exact .inl (.inr (.inr ⟨_, _, c, tx.str, ty.int, hl, hc, k _ H G .refl .str⟩))
    · cases e
  · obtain ⟨k', hk, hv⟩ := Option.bind_eq_some_iff.mp e
    obtain ⟨a1, vs, rfl, h1, hl, r⟩ := tx.dct gh
    obtain ⟨v, hv2, rv⟩ := r.zipFind hv
    exact .inr ⟨a1, _, k', v, rfl, h1, keyOf_rel ty hk, hv2, k _ H G .refl rv⟩
  · cases e

/-! ### slices -/
def cPart (f : M R) : M (Option Int) := fun e => (f e).bnd fun r e1 => match r with
  | .val (.int i) => .ok (some i) e1
  | _ => .bad
def cNoPart : M (Option Int) := fun e => .ok none e
structure RO (X : Cx) (cl : Str → Addr) (F : Fra) (W : WX) (x : Option Expr) (f : M (Option Int)) : Prop where
  po : PO X x fun σ H Q => ∃ e G, Stt X.K cl F e σ H G ∧ Post X.K cl F W σ (f e) fun o e' => ∀ H' G', Stt X.K cl F e' σ H' G' → Kp F σ e H G e' H' G' → Q o H'
theorem ro_none : RO X cl F W none cNoPart := ⟨⟨fun pins s σ H Q I ⟨e, G, st, q⟩ => po_none.run pins s σ H Q I (q H G st .refl)⟩⟩
theorem ro_some {x : Expr} {f : M R} (h : RE X cl F W x f) : RO X cl F W (some x) (cPart f) := by
  refine ⟨⟨fun pins s σ H Q I ⟨e, G, st, q⟩ => (po_some h.pe).run pins s σ H Q I (tD_then st q fun r e1 v H1 G1 s1 k1 r1 z => ?_)⟩⟩
  cases r with
  | whole i => exact z.elim
  | val d =>
    cases d with
    | int i => cases r1; exact ⟨i, rfl, z H1 G1 s1 k1⟩
    | _ => exact z.elim
def cutL {α : Type} (xs : List α) (lo hi : Option Int) : List α := (xs.drop (HT.sIx xs.length 0 lo)).take (HT.sIx xs.length xs.length hi - HT.sIx xs.length 0 lo)
def slD : D → Option Int → Option Int → Option D
  | .lst l, lo, hi => some (.lst (cutL l lo hi))
  | .tup l, lo, hi => some (.tup (cutL l lo hi))
  | .scr l, lo, hi => some (.lst ((cutL l lo hi).map D.int))
  | _, _, _ => none
theorem RepL.cut {K : PySem.W.Frag} {G : Hp} {ds : List D} {vs : List V} (r : RepL K cl G ds vs) (lo hi : Option Int) : RepL K cl G (cutL ds lo hi) (cutV vs lo hi) := by
  unfold cutL cutV
  rw [r.length]
  exact (r.drop _).take _
theorem cutV_map {α : Type} (f : α → V) (l : List α) (lo hi : Option Int) : cutV (l.map f) lo hi = (cutL l lo hi).map f := by
  unfold cutL cutV
  rw [List.length_map, List.map_take, List.map_drop]
theorem cutL_whole {α : Type} {l : List α} {lo hi : Option Int} (h : HT.sIx l.length 0 lo = 0 ∧ HT.sIx l.length l.length hi = l.length) : cutL l lo hi = l := by
  unfold cutL
  rw [h.1, h.2]
  simp
def cSl (f : M R) (lo hi : M (Option Int)) : M R := fun e => (f e).bnd fun r e1 => (lo e1).bnd fun l e2 => (hi e2).bnd fun h e3 => opt ((e3.rd r).bind fun d => slD d l h) e3
theorem re_sl {x : Expr} {lo hi : Option Expr} {f : M R} {fl fh : M (Option Int)} {p2 pos : Pos} (h : RE X cl F W x f) (hl : RO X cl F W lo fl) (hh : RO X cl F W hi fh) : RE X cl F W (.Subscript x (.Slice lo hi none p2) pos) (cSl f fl fh) := by
  refine ⟨PE.imp (pe_slice (sl_list.or sl_tupA) h.pe hl.po hh.po) fun σ H Q ⟨e, G, st, q⟩ => tD_then st q fun r e1 v H1 G1 s1 k1 r1 z => ?_⟩
  refine ⟨e1, G1, s1, post_imp (post_bnd z) fun l e2 z H2 G2 s2 k2 => ⟨e2, G2, s2, post_imp (post_bnd z) fun u e3 z H3 G3 s3 k3 => ?_⟩⟩
  obtain ⟨dz, z1, z⟩ := post_opt z
  obtain ⟨d, hd, hz⟩ := Option.bind_eq_some_iff.mp z1
  have t := s3.top ((r1.mono k2.gg).mono k3.gg) hd
  have k := (k1.trans k2).trans k3
  cases d with
  | lst ds =>
    cases hz
    obtain ⟨a, vs, rfl, h1, r⟩ := t.lst s3.ret.gh
    refine .inl ⟨a, vs, rfl, SqL.of h1, fun p hp => ?_⟩
    have sp : Step H3 G3 (upd H3 p (.lst (cutV vs l u))) (upd G3 p (.lst (cutV vs l u))) := .lay .refl hp
    exact z _ _ _ (s3.step sp) (k.trans (Kp.step s3 sp)) (Rep.lst upd_same ((r.cut l u).mono (sp.same s3.ret.gh).2.1))
  | scr ds =>
    cases hz
    obtain ⟨a, rfl, h1⟩ := t.scr s3.ret.gh
    refine .inl ⟨a, _, rfl, h1, fun p hp => ?_⟩
    have sp : Step H3 G3 (upd H3 p (.lst (cutV (ds.map V.int) l u))) (upd G3 p (.lst (cutV (ds.map V.int) l u))) := .lay .refl hp
    refine z _ _ _ (s3.step sp) (k.trans (Kp.step s3 sp)) (Rep.lst upd_same ?_)
    rw [cutV_map]
    exact RepL.of_ints _
  | tup ds =>
    cases hz
    obtain ⟨a, vs, rfl, h1, r⟩ := t.tup s3.ret.gh
    refine .inr ⟨a, vs, rfl, h1, fun hw => ?_, fun hw p hp => ?_⟩
    · rw [← r.length] at hw
      rw [cutL_whole hw] at z
      rcases t with t | ⟨_, _, _, t⟩
      · exact z _ H3 G3 s3 k t
      · exact t.elim
    · have sp : Step H3 G3 (upd H3 p (.tup (cutV vs l u))) (upd G3 p (.tup (cutV vs l u))) := .lay .refl hp
      exact z _ _ _ (s3.step sp) (k.trans (Kp.step s3 sp)) (Rep.tup (SqT.of upd_same) ((r.cut l u).mono (sp.same s3.ret.gh).2.1))
  | _ => cases hz

/-! ### calls of builtins -/
inductive TopL (K : PySem.W.Frag) (cl : Str → Addr) (H G : Hp) : List D → List V → Prop
  | nil : TopL K cl H G [] []
  | cons {d : D} {v : V} {ds : List D} {vs : List V} : Top K cl H G d v → TopL K cl H G ds vs → TopL K cl H G (d :: ds) (v :: vs)
def Env.rds (e : Env) : List R → Option (List D)
  | [] => some []
  | r :: rs => match e.rd r, e.rds rs with
    | some d, some ds =>
                                                                                                              some (d :: ds)
    | _, _ => none
theorem Stt.tops {K : PySem.W.Frag} {e : Env} {σ : L2.St} {H G : Hp} (st : Stt K cl F e σ H G) : ∀ {rs : List R} {vs : List V} {ds : List D}, RRs K cl σ G rs vs → e.rds rs = some ds → TopL K cl H G ds vs
  | [], _, _, .nil, h => by cases h; exact .nil
  | r :: rs, _, _, .cons h t, hd => by
    have hd : (match e.rd r, e.rds rs with
      | some d, some ds =>
                                                                                                              some (d :: ds)
      | _, _ => none) = some _ := hd
    cases q : e.rd r with
    | none => rw [q] at hd; cases hd
    | some d =>
      cases q2 : e.rds rs with
      | none => rw [q, q2] at hd; cases hd
      | some ds => rw [q, q2] at hd; cases hd; exact .cons (st.top h q) (st.tops t q2)
def CallD (X : Cx) (cl : Str → Addr) (f : Value) (g : List D → Option D) : Prop :=
  ∃ r, CallR X f r ∧ ∀ H G xs ds dz Q, Same G H → TopL X.K cl H G ds xs → g ds = some dz → (∀ v H' G', Step H G H' G' → Rep X.K cl G' dz v → Q v H') → r xs H Q
def cCB (g : List D → Option D) (fs : M (List R)) : M R := fun e => (fs e).bnd fun rs e1 => opt ((e1.rds rs).bind g) e1
theorem tCB_D {f : Value} {g : List D → Option D} {fs : M (List R)} {r : List V → Hp → VK → Prop} {σ : L2.St} {H : Hp} {Q : VK}
    (hg : ∀ H G xs ds dz Q, Same G H → TopL X.K cl H G ds xs → g ds = some dz → (∀ v H' G', Step H G H' G' → Rep X.K cl G' dz v → Q v H') → r xs H Q)
    (h : tD X.K cl F W (cCB g fs) σ H Q) : tCB r (tA X.K cl F W fs) σ H Q := by
  obtain ⟨e, G, st, q⟩ := h
  refine tA_then st q fun rs e1 vs H1 G1 s1 k1 r1 z => ?_
  obtain ⟨dz, z1, z⟩ := post_opt z
  obtain ⟨ds, hd, hz⟩ := Option.bind_eq_some_iff.mp z1
  exact hg H1 G1 vs ds dz Q s1.ret.gh (s1.tops r1 hd) hz fun v H' G' sp rv => z v H' G' (s1.step sp) (k1.trans (Kp.step s1 sp)) rv
theorem re_callB {x : Str} {p pos : Pos} {a : Expr} {es : List Expr} {id : String} {g : List D → Option D} {fs : M (List R)} (hc : CallD X cl (.builtin id) g) (hg : Gl X x) (hm : X.mg x = none) (hv : bootBuiltins x = some (.builtin id)) (ha : RA X cl F W (a :: es) fs)
    (hn : x ≠ "__name__" := by decide) (hdb : (x == ("__debug__" : Str)) = false := by decide) (he : starEach (a :: es) X.env = (false, eval a X.env) :: starEach es X.env := by rfl) (hpl : (backTo pos (starEach es X.env)).any (·.1) = false := by rfl) :
    RE X cl F W (.Call (.Name x p) (a :: es) [] pos) (cCB g fs) := by
  obtain ⟨r, h1, h2⟩ := hc
  exact ⟨PE.imp (pe_callB h1 hg hm hv ha.pa hn hdb he hpl) fun σ H Q h => tCB_D (f := .none) h2 h⟩
theorem re_callTy {x : Str} {p pos : Pos} {a : Expr} {es : List Expr} {T : String} {g : List D → Option D} {fs : M (List R)} (hc : CallD X cl (.type T) g) (hg : Gl X x) (hm : X.mg x = none) (hv : bootBuiltins x = some (.type T)) (ha : RA X cl F W (a :: es) fs)
    (hn : x ≠ "__name__" := by decide) (hdb : (x == ("__debug__" : Str)) = false := by decide) (he : starEach (a :: es) X.env = (false, eval a X.env) :: starEach es X.env := by rfl) (hpl : (backTo pos (starEach es X.env)).any (·.1) = false := by rfl) :
    RE X cl F W (.Call (.Name x p) (a :: es) [] pos) (cCB g fs) := by
  obtain ⟨r, h1, h2⟩ := hc
  exact ⟨PE.imp (pe_callTy h1 hg hm hv ha.pa hn hdb he hpl) fun σ H Q h => tCB_D (f := .none) h2 h⟩
end
end DL

namespace DL
open PySem L2 PySem.Spec PyProof.Rows

/-! ### statements -/
inductive Fl where
  | nx | rt (d : D) | bk | ct
section
variable (K : PySem.W.Frag) (cl : Str → Addr) (F : Fra) (W : WX)
def PostF (D : Ends) (G : Hp) (o : Out Fl) : Prop := match o with
  | .ok .nx e => ∀ σ' H' G', Stt K cl F e σ' H' G' → Same G G' → D.nx σ' H'
  | .ok .bk e => ∀ σ' H' G', Stt K cl F e σ' H' G' → Same G G' → D.bk σ' H'
  | .ok .ct e => ∀ σ' H' G', Stt K cl F e σ' H' G' → Same G G' → D.ct σ' H'
  | .ok (.rt d) e => ∀ v H' G', Ret K cl F H' G' e.j → Rep K cl G' d v → D.rt v H'
  | .exn x e => ∀ cls dd σ' H' G', Stt K cl F e σ' H' G' → ExcAt K cl x cls dd H' G' → W cls dd σ' H'
  | .bad => False
def tSt (f : M Fl) : TS := fun D σ H => ∃ e G, Stt K cl F e σ H G ∧ PostF K cl F W D G (f e)
end
structure RS (X : Cx) (cl : Str → Addr) (F : Fra) (W : WX) (x : Stmt) (f : M Fl) : Prop where
  ps : PS X x (tSt X.K cl F W f)
structure RSs (X : Cx) (cl : Str → Addr) (F : Fra) (W : WX) (xs : List Stmt) (f : M Fl) : Prop where
  pss : PSs X xs (tSt X.K cl F W f)
def Out.bndF (o : Out Fl) (k : Env → Out Fl) : Out Fl := o.bnd fun fl e => match fl with
  | .nx => k e
  | fl => .ok fl e
section
variable {K : PySem.W.Frag} {cl : Str → Addr} {F : Fra} {W : WX}
theorem PostF.mono {D : Ends} {G G' : Hp} {o : Out Fl} (h : PostF K cl F W D G o) (g : Same G G') : PostF K cl F W D G' o := by
  cases o with
  | ok fl e =>
    cases fl with
    | nx => exact fun σ' H' G2 s k => h σ' H' G2 s (g.trans k)
    | bk => exact fun σ' H' G2 s k => h σ' H' G2 s (g.trans k)
    | ct => exact fun σ' H' G2 s k => h σ' H' G2 s (g.trans k)
    | rt d => exact h
  | exn x e => exact h
  | bad => exact h
theorem postF_bnd {D : Ends} {G : Hp} {o : Out Fl} {k : Env → Out Fl} (h : PostF K cl F W D G (o.bndF k)) :
    PostF K cl F W { D with nx := fun σ H => ∃ e G', Stt K cl F e σ H G' ∧ PostF K cl F W D G' (k e) } G o := by
  cases o with
  | ok fl e =>
    cases fl with
    | nx => exact fun σ' H' G' s g => ⟨e, G', s, PostF.mono h g⟩
    | bk => exact h
    | ct => exact h
    | rt d => exact h
  | exn x e => exact h
  | bad => exact h
theorem Xn.of {σ : L2.St} {e : Env} {x : Exc} (h : ∀ cls dd σ' H' G', Stt K cl F e σ' H' G' → ExcAt K cl x cls dd H' G' → W cls dd σ' H') : Xn K cl F W σ e x := fun cls dd H' G' s z => h cls dd σ H' G' s z
/-- an expression in a statement -/
theorem tD_st {fa : M R} {k : R → Env → Out Fl} {σ : L2.St} {H G : Hp} {e : Env} {D : Ends} {Q : VK} (st : Stt K cl F e σ H G) (h : PostF K cl F W D G ((fa e).bnd k))
    (c : ∀ r e1 v H1 G1, Stt K cl F e1 σ H1 G1 → Kp F σ e H G e1 H1 G1 → RR K cl σ G1 r v → PostF K cl F W D G1 (k r e1) → Q v H1) : tD K cl F W fa σ H Q := by
  refine ⟨e, G, st, ?_⟩
  cases q : fa e with
  | ok r e1 =>
    rw [q] at h
    exact fun v H1 G1 s1 k1 r1 => c r e1 v H1 G1 s1 k1 r1 (PostF.mono (o := k r e1) h k1.gg)
  | exn x e1 => rw [q] at h; exact Xn.of h
  | bad => rw [q] at h; exact h
theorem tB_st {fa : M Bool} {k : Bool → Env → Out Fl} {σ : L2.St} {H G : Hp} {e : Env} {D : Ends} {Q : Bool → Hp → Prop} (st : Stt K cl F e σ H G) (h : PostF K cl F W D G ((fa e).bnd k))
    (c : ∀ r e1 H1 G1, Stt K cl F e1 σ H1 G1 → Kp F σ e H G e1 H1 G1 → PostF K cl F W D G1 (k r e1) → Q r H1) : tB' K cl F W fa σ H Q := by
  refine ⟨e, G, st, ?_⟩
  cases q : fa e with
  | ok r e1 =>
    rw [q] at h
    exact fun H1 G1 s1 k1 => c r e1 H1 G1 s1 k1 (PostF.mono (o := k r e1) h k1.gg)
  | exn x e1 => rw [q] at h; exact Xn.of h
  | bad => rw [q] at h; exact h
theorem tA_st {fa : M (List R)} {k : List R → Env → Out Fl} {σ : L2.St} {H G : Hp} {e : Env} {D : Ends} {Q : List V → Hp → Prop} (st : Stt K cl F e σ H G) (h : PostF K cl F W D G ((fa e).bnd k))
    (c : ∀ r e1 v H1 G1, Stt K cl F e1 σ H1 G1 → Kp F σ e H G e1 H1 G1 → RRs K cl σ G1 r v → PostF K cl F W D G1 (k r e1) → Q v H1) : tA K cl F W fa σ H Q := by
  refine ⟨e, G, st, ?_⟩
  cases q : fa e with
  | ok r e1 =>
    rw [q] at h
    exact fun v H1 G1 s1 k1 r1 => c r e1 v H1 G1 s1 k1 r1 (PostF.mono (o := k r e1) h k1.gg)
  | exn x e1 => rw [q] at h; exact Xn.of h
  | bad => rw [q] at h; exact h
end

def sNx : M Fl := fun e => .ok .nx e
def sBk : M Fl := fun e => .ok .bk e
def sCt : M Fl := fun e => .ok .ct e
def sBad : M Fl := fun _ => .bad
def sSeq (f g : M Fl) : M Fl := fun e => (f e).bndF g
def sExpr (f : M R) : M Fl := fun e => (f e).bnd fun _ e1 => .ok .nx e1
def sIf (c : M Bool) (f g : M Fl) : M Fl := fun e => (c e).bnd fun b e1 => if b then f e1 else g e1
def retF (o : Option (D × Env)) : Out Fl := match o with
  | some (d, e) => .ok (.rt d) e
  | none => .bad
def sRet (f : M R) : M Fl := fun e => (f e).bnd fun r e1 => retF (e1.frz r)
def sRetN : M Fl := fun e => .ok (.rt .non) e
def asgF (i : Nat) (o : Option (D × Env)) : Out Fl := match o with
  | some (d, e) => .ok .nx (e.setS i (.dat d))
  | none => .bad
def sAsg (i : Nat) (f : M R) : M Fl := fun e => (f e).bnd fun r e1 => asgF i (e1.frz r)

section
variable {X : Cx} {cl : Str → Addr} {F : Fra} {W : WX}
theorem rs_nil : RSs X cl F W [] sNx := ⟨PSs.imp pss_nil fun D σ H ⟨e, G, st, q⟩ => q σ H G st (.refl _)⟩
theorem rs_cons {s : Stmt} {ss : List Stmt} {f g : M Fl} (h : RS X cl F W s f) (t : RSs X cl F W ss g) : RSs X cl F W (s :: ss) (sSeq f g) :=
  ⟨PSs.imp (pss_cons h.ps t.pss) fun D σ H ⟨e, G, st, q⟩ => ⟨e, G, st, postF_bnd q⟩⟩
theorem rs_one {s : Stmt} {f : M Fl} (h : RS X cl F W s f) : RSs X cl F W [s] f := ⟨pss_one h.ps⟩
theorem rs_pass {pos} : RS X cl F W (.Pass pos) sNx := ⟨PS.imp ps_pass fun D σ H ⟨e, G, st, q⟩ => q σ H G st (.refl _)⟩
theorem rs_break {pos} : RS X cl F W (.Break pos) sBk := ⟨PS.imp ps_break fun D σ H ⟨e, G, st, q⟩ => q σ H G st (.refl _)⟩
theorem rs_continue {pos} : RS X cl F W (.Continue pos) sCt := ⟨PS.imp ps_continue fun D σ H ⟨e, G, st, q⟩ => q σ H G st (.refl _)⟩
/-- what the proof never comes to -/
theorem rs_never {s : Stmt} : RS X cl F W s sBad := ⟨PS.imp ps_never fun D σ H ⟨e, G, st, q⟩ => q⟩
theorem rss_never {s : List Stmt} : RSs X cl F W s sBad := ⟨PSs.imp pss_never fun D σ H ⟨e, G, st, q⟩ => q⟩
theorem rs_expr {x : Expr} {f : M R} {pos : Pos} (h : RE X cl F W x f) (hs : swapsWith x none pos.line X.env = pure false := by rfl) : RS X cl F W (.Expr x pos) (sExpr f) :=
  ⟨PS.imp (ps_expr h.pe hs) fun D σ H ⟨e, G, st, q⟩ => tD_st st q fun r e1 v H1 G1 s1 k1 r1 z => z σ H1 G1 s1 (.refl _)⟩
theorem rs_if {c : Expr} {a b : List Stmt} {fc : M Bool} {f g : M Fl} {pos : Pos} (hc : RT X cl F W c fc) (ha : RSs X cl F W a f) (hb : RSs X cl F W b g) : RS X cl F W (.If c a b pos) (sIf fc f g) := by
  refine ⟨PS.imp (ps_if hc.pt ha.pss hb.pss) fun D σ H ⟨e, G, st, q⟩ => tB_st st q fun r e1 H1 G1 s1 k1 z => ?_⟩
  cases r with
  | true => exact ⟨e1, G1, s1, z⟩
  | false => exact ⟨e1, G1, s1, z⟩
theorem rs_ret {x : Expr} {f : M R} {pos : Pos} (h : RE X cl F W x f) : RS X cl F W (.Return (some x) pos) (sRet f) := by
  refine ⟨PS.imp (ps_ret h.pe) fun D σ H ⟨e, G, st, q⟩ => tD_st st q fun r e1 v H1 G1 s1 k1 r1 z => ?_⟩
  cases y : e1.frz r with
  | none => rw [y] at z; exact z.elim
  | some p =>
    obtain ⟨d, e2⟩ := p
    rw [y] at z
    obtain ⟨G2, s2, k2, r2⟩ := frz_ok s1 r1 y
    exact z v H1 G2 s2.ret r2
theorem rs_retN {pos : Pos} : RS X cl F W (.Return none pos) sRetN := ⟨PS.imp ps_retN fun D σ H ⟨e, G, st, q⟩ => q .non H G st.ret .non⟩
/-- a slot is set -/
theorem Stt.set {K : PySem.W.Frag} {e : Env} {σ : L2.St} {H G : Hp} {i : Nat} {d : D} {v : V} (st : Stt K cl F e σ H G) (r : Rep K cl G d v) : Stt K cl F (e.setS i (.dat d)) (σ.set i (some v)) H G := by
  obtain ⟨ret, jh, len, slot, inj⟩ := st
  have hset : ∀ {j : Nat} {x : S}, (e.setS i (.dat d)).s[j]? = some x → (j = i ∧ i < e.s.length ∧ x = .dat d) ∨ (j ≠ i ∧ e.s[j]? = some x) := fun {j x} h => by
    by_cases hj : j = i
    · subst hj
      have hl : j < (e.setS j (.dat d)).s.length := (List.getElem?_eq_some_iff.mp h).1
      have hl' : j < e.s.length := by simpa [Env.setS] using hl
      have z : (e.setS j (.dat d)).s[j]? = some (.dat d) := List.getElem?_set_self hl'
      rw [z] at h; cases h; exact .inl ⟨rfl, hl', rfl⟩
    · rw [setS_ne hj] at h; exact .inr ⟨hj, h⟩
  have hσ : ∀ {j : Nat}, j ≠ i → (σ.set i (some v))[j]? = σ[j]? := fun hj => List.getElem?_set_ne (Ne.symm hj)
  refine ⟨ret, jh, by simp [Env.setS, len], fun j x h => ?_, fun j k d1 d2 p k1 k2 k3 k4 => ?_⟩
  · rcases hset h with ⟨rfl, hl, rfl⟩ | ⟨hj, h⟩
    · exact ⟨v, List.getElem?_set_self (by rw [len]; exact hl), r⟩
    · have z := slot j x h
      cases x with
      | un => trivial
      | dat d1 => obtain ⟨v1, z1, z2⟩ := z; exact ⟨v1, by rw [hσ hj]; exact z1, z2⟩
      | own d1 => obtain ⟨p, z1, z2, z3, z4⟩ := z; exact ⟨p, by rw [hσ hj]; exact z1, z2, z3, z4⟩
      | jar k => obtain ⟨p, z1, z2⟩ := z; exact ⟨p, z1, by rw [hσ hj]; exact z2⟩
      | ptr => exact (hσ hj).trans z
  · rcases hset k1 with ⟨_, _, z⟩ | ⟨h1, k1⟩
    · cases z
    · rcases hset k2 with ⟨_, _, z⟩ | ⟨h2, k2⟩
      · cases z
      · rw [hσ h1] at k3; rw [hσ h2] at k4; exact inj j k d1 d2 p k1 k2 k3 k4
theorem asg_D {fa : M R} {i : Nat} {D : Ends} {σ : L2.St} {H : Hp} (h : tSt X.K cl F W (sAsg i fa) D σ H) : tAsg (tD X.K cl F W fa) (gName i) D σ H := by
  obtain ⟨e, G, st, q⟩ := h
  refine tD_st st q fun r e1 v H1 G1 s1 k1 r1 z => ?_
  cases y : e1.frz r with
  | none => rw [y] at z; exact z.elim
  | some p =>
    obtain ⟨d, e2⟩ := p
    rw [y] at z
    obtain ⟨G2, s2, k2, r2⟩ := frz_ok s1 r1 y
    exact z _ H1 G2 (s2.set r2) k2.gg
theorem rs_asg {i : Nat} {x : Str} {a : Expr} {f : M R} {pos pos' : Pos} (hN : X.N.Nodup) (h : RE X cl F W a f) (hi : X.N[i]? = some x := by rfl) (hx : Loc X.env.scope x := by first | exact Or.inl rfl | exact Or.inr rfl)
    (hs : swapsWith a (some (.Name x pos')) pos.line X.env = pure false := by rfl) (hf : X.fn x = true ∨ X.env.scope.names.lookup x = some .local := by first | exact .inl rfl | exact .inr rfl) : RS X cl F W (.Assign [.Name x pos'] a pos) (sAsg i f) :=
  ⟨PS.imp (ps_set hN hi hx h.pe hs hf) fun D σ H h => asg_D h⟩

/-! ### targets -/
abbrev Tg := D → Env → Option Env
def gN (i : Nat) : Tg := fun d e => some (e.setS i (.dat d))
def gTs : List Tg → List D → Env → Option Env
  | [], [], e => some e
  | g :: gs, d :: ds, e => (g d e).bind (gTs gs ds)
  | _, _, _ => none
def gT (gs : List Tg) : Tg := fun d e => match d with
  | .tup ds => gTs gs ds e
  | _ => none
/-- σ' is σ but at the slots ws -/
def Agr (ws : List Nat) (σ σ' : L2.St) : Prop := σ'.length = σ.length ∧ ∀ j, j ∉ ws → σ'[j]? = σ[j]?
theorem Agr.trans {ws vs : List Nat} {a b c : L2.St} (h : Agr ws a b) (k : Agr vs b c) : Agr (ws ++ vs) a c :=
  ⟨k.1.trans h.1, fun j hj => (k.2 j fun z => hj (List.mem_append_right _ z)).trans (h.2 j fun z => hj (List.mem_append_left _ z))⟩
def tG (K : PySem.W.Frag) (cl : Str → Addr) (F : Fra) (ws : List Nat) (g : Tg) : TG := fun v σ H Q => ∃ e e' G d, Stt K cl F e σ H G ∧ Rep K cl G d v ∧ g d e = some e' ∧ ∀ σ', Agr ws σ σ' → Stt K cl F e' σ' H G → Q σ' H
def tGs (K : PySem.W.Frag) (cl : Str → Addr) (F : Fra) (ws : List Nat) (gs : List Tg) : TGs := fun vs σ H Q => ∃ e e' G ds, Stt K cl F e σ H G ∧ RepL K cl G ds vs ∧ gTs gs ds e = some e' ∧ ∀ σ', Agr ws σ σ' → Stt K cl F e' σ' H G → Q σ' H
def S.plain : S → Bool
  | .un => true
  | .dat _ => true
  | _ => false
/-- e' is e but at the slots ws, where plain data stand -/
structure EAgr (ws : List Nat) (e e' : Env) : Prop where
  len : e'.s.length = e.s.length
  out : ∀ i, i ∉ ws → e'.s[i]? = e.s[i]?
  pl : ∀ i, i ∈ ws → ∀ x, e'.s[i]? = some x → x.plain = true
  j : e'.j = e.j
theorem EAgr.trans {ws vs : List Nat} {a b c : Env} (h : EAgr ws a b) (k : EAgr vs b c) : EAgr (ws ++ vs) a c := by
  refine ⟨k.len.trans h.len, fun i hi => (k.out i fun z => hi (List.mem_append_right _ z)).trans (h.out i fun z => hi (List.mem_append_left _ z)), fun i hi x hx => ?_, k.j.trans h.j⟩
  by_cases hv : i ∈ vs
  · exact k.pl i hv x hx
  · have hw : i ∈ ws := (List.mem_append.mp hi).resolve_right hv
    exact h.pl i hw x ((k.out i hv).symm.trans hx)
structure RG (X : Cx) (cl : Str → Addr) (F : Fra) (ws : List Nat) (x : Expr) (g : Tg) : Prop where
  pg : PG X x (tG X.K cl F ws g)
  fr : ∀ d e e', g d e = some e' → EAgr ws e e'
structure RGs (X : Cx) (cl : Str → Addr) (F : Fra) (ws : List Nat) (x : List Expr) (g : List Tg) : Prop where
  pgs : PGs X x (tGs X.K cl F ws g)
  fr : ∀ d e e', gTs g d e = some e' → EAgr ws e e'
theorem PG.imp {X : Cx} {x : Expr} {t t' : TG} (h : PG X x t) (i : ∀ v σ H Q, t' v σ H Q → t v σ H Q) : PG X x t' := ⟨fun pins s σ H v u Q I r q => h.run pins s σ H v u Q I r (i v σ H Q q)⟩
theorem PGs.imp {X : Cx} {x : List Expr} {t t' : TGs} (h : PGs X x t) (i : ∀ v σ H Q, t' v σ H Q → t v σ H Q) : PGs X x t' := ⟨fun pins s σ H v u Q I r q => h.run pins s σ H v u Q I r (i v σ H Q q)⟩
theorem rg_n (i : Nat) {x : Str} {pos : Pos} (hN : X.N.Nodup) (hi : X.N[i]? = some x := by rfl) (hx : Loc X.env.scope x := by first | exact Or.inl rfl | exact Or.inr rfl) (hf : X.fn x = true ∨ X.env.scope.names.lookup x = some .local := by first | exact .inl rfl | exact .inr rfl) : RG X cl F [i] (.Name x pos) (gN i) := by
  refine ⟨PG.imp (pg_name hN hi hx hf) fun v σ H Q ⟨e, e', G, d, st, r, h, q⟩ => ?_, fun d e e' h => ?_⟩
  · cases h
    exact q _ ⟨by simp, fun j hj => List.getElem?_set_ne (fun z => hj (by simp [z]))⟩ (st.set r)
  · cases h
    refine ⟨by simp [Env.setS], fun j hj => setS_ne (fun z => hj (by simp [z])), fun j hj x hx => ?_, rfl⟩
    have e1 : j = i := by simpa using hj
    subst e1
    have hl : j < (e.setS j (.dat d)).s.length := (List.getElem?_eq_some_iff.mp hx).1
    have hl' : j < e.s.length := by simpa [Env.setS] using hl
    have z : (e.setS j (.dat d)).s[j]? = some (.dat d) := List.getElem?_set_self hl'
    rw [z] at hx; cases hx; rfl
theorem rgs_nil : RGs X cl F [] [] [] := by
  refine ⟨PGs.imp pgs_nil fun vs σ H Q ⟨e, e', G, ds, st, r, h, q⟩ => ?_, fun ds e e' h => ?_⟩
  · cases r with
    | nil => cases h; exact ⟨rfl, q σ ⟨rfl, fun _ _ => rfl⟩ st⟩
    | cons => cases h
  · cases ds with
    | nil => cases h; exact ⟨rfl, fun _ _ => rfl, fun _ h => by simp at h, rfl⟩
    | cons => cases h
theorem rgs_cons {x : Expr} {xs : List Expr} {g : Tg} {gs : List Tg} {ws vs : List Nat} (h1 : RG X cl F ws x g) (h2 : RGs X cl F vs xs gs) (hs : (assignEach (x :: xs) X.env).map (·.2) = assign x X.env :: (assignEach xs X.env).map (·.2) := by rfl) : RGs X cl F (ws ++ vs) (x :: xs) (g :: gs) := by
  refine ⟨PGs.imp (pgs_cons h1.pg h2.pgs hs) fun us σ H Q ⟨e, e', G, ds, st, r, h, q⟩ => ?_, fun ds e e' h => ?_⟩
  · cases r with
    | nil => cases h
    | cons r1 rr =>
      obtain ⟨e1, h1, h2⟩ := Option.bind_eq_some_iff.mp h
      exact ⟨_, _, rfl, e, e1, G, _, st, r1, h1, fun σ1 a1 s1 => ⟨e1, e', G, _, s1, rr, h2, fun σ' a2 s => q σ' (a1.trans a2) s⟩⟩
  · cases ds with
    | nil => cases h
    | cons d ds =>
      obtain ⟨e1, q1, q2⟩ := Option.bind_eq_some_iff.mp h
      exact (h1.fr _ _ _ q1).trans (h2.fr _ _ _ q2)
theorem gTs_len : ∀ {gs : List Tg} {ds : List D} {e e' : Env}, gTs gs ds e = some e' → ds.length = gs.length
  | [], [], _, _, _ => rfl
  | g :: gs, d :: ds, e, e', h => by
    obtain ⟨e1, _, h2⟩ := Option.bind_eq_some_iff.mp h
    simp [gTs_len h2]
  | [], _ :: _, _, _, h => by cases h
  | _ :: _, [], _, _, h => by cases h
theorem rg_t {xs : List Expr} {gs : List Tg} {ws : List Nat} {k : Nat} {pos : Pos} (hc : X.calm = true) (h : RGs X cl F ws xs gs) (hn : (assignEach xs X.env).length = gs.length := by rfl) (hst : (assignEach xs X.env).findIdx? (·.1) = none := by rfl) : RG X cl F ws (.Tuple xs k pos) (gT gs) := by
  refine ⟨PG.imp (pg_tup hc h.pgs hn hst) fun v σ H Q ⟨e, e', G, d, st, r, h, q⟩ => ?_, fun d e e' q => ?_⟩
  · cases d with
    | tup ds =>
      cases r with
      | tup h1 r => exact ⟨_, _, rfl, SqT.same st.ret.gh h1, by rw [← r.length]; exact gTs_len h, e, e', G, ds, st, r, h, q⟩
    | _ => cases h
  · cases d with
    | tup ds => exact h.fr _ _ _ q
    | _ => cases q
def sAsgT (g : Tg) (f : M R) : M Fl := fun e => (f e).bnd fun r e1 => match e1.frz r with
  | some (d, e2) => (match g d e2 with
    | some e3 => .ok .nx e3
    | none => .bad)
  | none => .bad
theorem rs_asgT {tg a : Expr} {g : Tg} {ws : List Nat} {f : M R} {pos : Pos} (h : RE X cl F W a f) (hg : RG X cl F ws tg g) (hs : swapsWithSole [tg] a pos.line X.env = pure false := by rfl) (hw : swappedStores [tg] a X.env = pure none := by rfl)
    (h1 : (assignEach [tg] X.env).map (·.2) = [assign tg X.env] := by rfl) : RS X cl F W (.Assign [tg] a pos) (sAsgT g f) := by
  refine ⟨PS.imp (ps_asg h.pe hg.pg hs hw h1) fun D σ H ⟨e, G, st, q⟩ => tD_st st q fun r e1 v H1 G1 s1 k1 r1 z => ?_⟩
  cases y : e1.frz r with
  | none => rw [y] at z; exact z.elim
  | some p =>
    obtain ⟨d, e2⟩ := p
    rw [y] at z
    obtain ⟨G2, s2, k2, r2⟩ := frz_ok s1 r1 y
    cases y2 : g d e2 with
    | none => simp only [y2] at z; exact z.elim
    | some e3 =>
      simp only [y2] at z
      exact ⟨e2, e3, G2, d, s2, r2, y2, fun σ' a s => z σ' H1 G2 s k2.gg⟩

/-! ### walks -/
/-- what the iterator J yields: ds, as long as G stands -/
def ItOk (K : PySem.W.Frag) (cl : Str → Addr) (G : Hp) (J : It) (ds : List D) : Prop := ∀ H' G', Same G G' → Same G' H' →
  (∀ (i : Nat) d, ds[i]? = some d → J.go i H' ∧ ∀ x H2, J.yld i H' x H2 → ∃ G2, Step H' G' H2 G2 ∧ Rep K cl G2 d x) ∧ J.stop ds.length H'
structure RI (X : Cx) (cl : Str → Addr) (F : Fra) (W : WX) (tg : Expr) (x : Expr) (f : M (List D)) : Prop where
  pi : PI X tg x fun σ H Q => ∃ e G, Stt X.K cl F e σ H G ∧ Post X.K cl F W σ (f e) fun ds e' => ∀ J H' G', Stt X.K cl F e' σ H' G' → Kp F σ e H G e' H' G' → ItOk X.K cl G' J ds → Q J H'
theorem PI.imp {X : Cx} {tg x : Expr} {t t' : TI} (h : PI X tg x t) (i : ∀ σ H Q, t' σ H Q → t σ H Q) : PI X tg x t' := ⟨fun pins s σ H R I q => h.run pins s σ H R I (i σ H R q)⟩
/-- over a list, a tuple, the script, a text -/
theorem pi_seq {tg l : Expr} {tl : TE} (hl : PE X l tl) : PI X tg l fun σ H R => tl σ H fun x Ha => (∃ a, x = .ref a ∧ (∃ xs, SqL X.K Ha a xs) ∧ R (Itl X.K a) Ha) ∨ (∃ a, x = .ref a ∧ (∃ xs, SqT X.K Ha a xs) ∧ R (Itt X.K a) Ha) ∨ ∃ z, x = .str z ∧ R (Its z) Ha := by
  refine ⟨fun pinned s σ H R I h => ?_⟩
  refine thn (hl.run pinned s σ H _ I h) fun v sa ⟨x, Ha, J1, ra1, wa⟩ => ?_
  rcases wa with ⟨a, rfl, ⟨xs, hold⟩, q⟩ | ⟨a, rfl, ⟨xs, hold⟩, q⟩ | ⟨z, rfl, q⟩
  · cases ra1
    obtain ⟨elts, rvals, p, hroom⟩ := J1.list hold
    refine wpAny_pyIter_list
                                                                                                              p.isList ?_
    refine ⟨sa.heap.objs.size, [sa.heap.objs.size], _, _, Ha, rfl, J1.kept (t' := sa.toks) fun b o e => Heap.get?_push_of_some _ e, turn_list a _, ⟨_, Heap.get?_push_size _ rfl, rfl, rfl⟩, fun b hadr => ?_, q⟩
    have e : b = sa.heap.objs.size := by simpa using hadr
    subst e
    exact J1.fpOk (Nat.le_refl _) (J1.hok.fresh (Nat.le_refl _))
  · cases ra1
    obtain ⟨elts, rvals, p, hroom⟩ := J1.tuple hold
    refine wpAny_pyIter_tuple (show sa.heap.IsTuple a elts.toArray from p) ?_
    refine ⟨sa.heap.objs.size, [sa.heap.objs.size], _, _, Ha, rfl, J1.kept (t' := sa.toks) fun b o e => Heap.get?_push_of_some _ e, turn_tuple a _, ⟨_, Heap.get?_push_size _ rfl, rfl, rfl⟩, fun b hadr => ?_, q⟩
    have e : b = sa.heap.objs.size := by simpa using hadr
    subst e
    exact J1.fpOk (Nat.le_refl _) (J1.hok.fresh (Nat.le_refl _))
  · obtain ⟨t, rfl⟩ := ra1
    cases ha : z.cps.all (· < 128)
    · exact wpAny_pyIter_wide ha (pi_one (tk := sa.toks) J1 _ (turn_str _ z t "str_iterator" (.inr rfl)) ⟨_, Heap.get?_push_size _ rfl, rfl, rfl⟩ q)
    · exact wpAny_pyIter_ascii ha (pi_one (tk := sa.toks) J1 _ (turn_str _ z t "str_ascii_iterator" (.inl rfl)) ⟨_, Heap.get?_push_size _ rfl, rfl, rfl⟩ q)
end
end DL

namespace DL
open PySem L2 PySem.Spec PyProof.Rows

def seqItems : D → Option (List D)
  | .lst l => some l
  | .tup l => some l
  | .scr l => some (l.map D.int)
  | .str s => some (s.cps.toList.map fun c => .str ⟨#[c]⟩)
  | _ => none
def cIter (f : M R) : M (List D) := fun e => (f e).bnd fun r e1 => match e1.frz r with
  | some (d, e2) => optB (seqItems d) e2
  | none => .bad
def rng (lo : Int) (n : Nat) : List D := (List.range n).map fun i => .int (lo + (i : Nat))
def rngI1 : List R → Option (List D)
  | [.val (.int j)] => if -(2 ^ 62) ≤ j ∧ j < 2 ^ 62 then some (rng 0 j.toNat) else none
  | _ => none
def rngI2 : List R → Option (List D)
  | [.val (.int i), .val (.int j)] => if -(2 ^ 62) ≤ i ∧ i < 2 ^ 62 ∧ -(2 ^ 62) ≤ j ∧ j < 2 ^ 62 then some (rng i (j - i).toNat) else none
  | _ => none
def cRange1 (fs : M (List R)) : M (List D) := fun e => (fs e).bnd fun rs e1 => optB (rngI1 rs) e1
def cRange2 (fs : M (List R)) : M (List D) := fun e => (fs e).bnd fun rs e1 => optB (rngI2 rs) e1
section
variable {X : Cx} {cl : Str → Addr} {F : Fra} {W : WX}
theorem itOk_list {K : PySem.W.Frag} {G : Hp} {a : Addr} {ds : List D} {vs : List V} (h : G a = some (.lst vs)) (r : RepL K cl G ds vs) : ItOk K cl G (Itl K a) ds := fun H' G' gg gh => by
  have h1 : SqL K H' a vs := SqL.of (gh _ _ (gg _ _ h))
  refine ⟨fun i d hd => ?_, ⟨vs, h1, by rw [r.length]; exact Nat.le_refl _⟩⟩
  obtain ⟨v, hv, rv⟩ := r.getD hd
  exact ⟨⟨vs, v, h1, hv⟩, fun x H2 ⟨e1, e2⟩ => by
    subst e1
    have e3 := e2 vs h1
    rw [hv] at e3; cases e3
    exact ⟨G', .refl, rv.mono gg⟩⟩
theorem itOk_scr {K : PySem.W.Frag} {G : Hp} {a : Addr} {ns : List Int} (h : SqL K G a (ns.map V.int)) : ItOk K cl G (Itl K a) (ns.map D.int) := fun H' G' gg gh => by
  have h1 : SqL K H' a (ns.map V.int) := Same.seq gh (Same.seq gg h)
  refine ⟨fun i d hd => ?_, ⟨_, h1, by simp⟩⟩
  obtain ⟨v, hv, rv⟩ := (RepL.of_ints (K := K) (cl := cl) (G := G) ns).getD hd
  exact ⟨⟨_, v, h1, hv⟩, fun x H2 ⟨e1, e2⟩ => by
    subst e1
    have e3 := e2 _ h1
    rw [hv] at e3; cases e3
    exact ⟨G', .refl, rv.mono gg⟩⟩
theorem itOk_tup {K : PySem.W.Frag} {G : Hp} {a : Addr} {ds : List D} {vs : List V} (h : SqT K G a vs) (r : RepL K cl G ds vs) : ItOk K cl G (Itt K a) ds := fun H' G' gg gh => by
  have h1 : SqT K H' a vs := SqT.same gh (SqT.same gg h)
  refine ⟨fun i d hd => ?_, ⟨vs, h1, by rw [r.length]; exact Nat.le_refl _⟩⟩
  obtain ⟨v, hv, rv⟩ := r.getD hd
  exact ⟨⟨vs, v, h1, hv⟩, fun x H2 ⟨e1, e2⟩ => by
    subst e1
    have e3 := e2 vs h1
    rw [hv] at e3; cases e3
    exact ⟨G', .refl, rv.mono gg⟩⟩
theorem itOk_str {K : PySem.W.Frag} {G : Hp} {s : Str} : ItOk K cl G (Its s) (s.cps.toList.map fun c => .str ⟨#[c]⟩) := fun H' G' gg gh => by
  refine ⟨fun i d hd => ?_, by show s.cps.size ≤ _; simp⟩
  rw [List.getElem?_map] at hd
  obtain ⟨c, hc, rfl⟩ := Option.map_eq_some_iff.mp hd
  have hc' : s.cps[i]? = some c := by simpa using hc
  exact ⟨(Array.getElem?_eq_some_iff.mp hc').1, fun x H2 ⟨e1, c', e2, e3⟩ => by
    subst e1 e3
    rw [hc'] at e2; cases e2
    exact ⟨G', .refl, .str⟩⟩
theorem itOk_rng {K : PySem.W.Frag} {G : Hp} {lo : Int} {n : Nat} : ItOk K cl G (Itr lo n) (rng lo n) := fun H' G' gg gh => by
  refine ⟨fun i d hd => ?_, by show n ≤ _; simp [rng]⟩
  unfold rng at hd
  rw [List.getElem?_map] at hd
  obtain ⟨c, hc, rfl⟩ := Option.map_eq_some_iff.mp hd
  have hi : i < n := by
    have := (List.getElem?_eq_some_iff.mp hc).1
    simpa using this
  have hci : c = i := by rw [List.getElem?_range hi] at hc; exact (Option.some.inj hc).symm
  subst hci
  exact ⟨hi, fun x H2 ⟨e1, e2⟩ => by subst e1 e2; exact ⟨G', .refl, .int⟩⟩
theorem ri_seq {tg x : Expr} {f : M R} (h : RE X cl F W x f) : RI X cl F W tg x (cIter f) := by
  refine ⟨PI.imp (pi_seq h.pe) fun σ H Q ⟨e, G, st, q⟩ => tD_then st q fun r e1 v H1 G1 s1 k1 r1 z => ?_⟩
  cases y : e1.frz r with
  | none => rw [y] at z; exact z.elim
  | some p =>
    obtain ⟨d, e2⟩ := p
    rw [y] at z
    obtain ⟨G2, s2, k2, r2⟩ := frz_ok s1 r1 y
    obtain ⟨ds, hds, z⟩ := post_some z
    cases d with
    | lst l =>
      cases hds
      cases r2 with
      | lst h1 rl => exact .inl ⟨_, rfl, ⟨_, SqL.of (s2.ret.gh _ _ h1)⟩, z _ H1 G2 s2 (k1.trans k2) (itOk_list h1 rl)⟩
    | scr l =>
      cases hds
      cases r2 with
      | scr h1 => exact .inl ⟨_, rfl, ⟨_, Same.seq s2.ret.gh h1⟩, z _ H1 G2 s2 (k1.trans k2) (itOk_scr h1)⟩
    | tup l =>
      cases hds
      cases r2 with
      | tup h1 rl => exact .inr (.inl ⟨_, rfl, ⟨_, SqT.same s2.ret.gh h1⟩, z _ H1 G2 s2 (k1.trans k2) (itOk_tup h1 rl)⟩)
    | str s =>
      cases hds
      cases r2
      exact .inr (.inr ⟨s, rfl, z _ H1 G2 s2 (k1.trans k2) itOk_str⟩)
    | _ => cases hds
theorem rrs1 {K : PySem.W.Frag} {σ : L2.St} {G : Hp} {i : Int} {vs : List V} (h : RRs K cl σ G [.val (.int i)] vs) : vs = [.int i] := by
  cases h with
  | cons a t => cases t; cases a; rfl
theorem rrs2 {K : PySem.W.Frag} {σ : L2.St} {G : Hp} {i j : Int} {vs : List V} (h : RRs K cl σ G [.val (.int i), .val (.int j)] vs) : vs = [.int i, .int j] := by
  cases h with
  | cons a t => cases t with
    | cons b t => cases t; cases a; cases b; rfl
theorem ri_range1 {tg a : Expr} {p pos : Pos} {fs : M (List R)} (hg : Gl X "range") (hm : X.mg "range" = none) (h : RA X cl F W [a] fs) (hs : starEach [a] X.env = [(false, eval a X.env)] := by rfl) : RI X cl F W tg (.Call (.Name "range" p) [a] [] pos) (cRange1 fs) := by
  refine ⟨PI.imp (pi_range1 hg hm h.pa hs) fun σ H Q ⟨e, G, st, q⟩ => tA_then st q fun rs e1 vs H1 G1 s1 k1 r1 z => ?_⟩
  obtain ⟨ds, hds, z⟩ := post_some z
  unfold rngI1 at hds
  split at hds
  · split at hds
    · rename_i h1
      cases hds
      exact ⟨_, rrs1 r1, h1.1, h1.2, z _ H1 G1 s1 k1 itOk_rng⟩
    · cases hds
  · cases hds
theorem ri_range2 {tg a b : Expr} {p pos : Pos} {fs : M (List R)} (hg : Gl X "range") (hm : X.mg "range" = none) (h : RA X cl F W [a, b] fs) (hs : starEach [a, b] X.env = [(false, eval a X.env), (false, eval b X.env)] := by rfl)
    (hs2 : starEach [b] X.env = [(false, eval b X.env)] := by rfl) : RI X cl F W tg (.Call (.Name "range" p) [a, b] [] pos) (cRange2 fs) := by
  refine ⟨PI.imp (pi_range2 hg hm h.pa hs hs2) fun σ H Q ⟨e, G, st, q⟩ => tA_then st q fun rs e1 vs H1 G1 s1 k1 r1 z => ?_⟩
  obtain ⟨ds, hds, z⟩ := post_some z
  unfold rngI2 at hds
  split at hds
  · split at hds
    · rename_i h1
      cases hds
      exact ⟨_, _, rrs2 r1, h1, z _ H1 G1 s1 k1 itOk_rng⟩
    · cases hds
  · cases hds
end

/-! ### for -/
def forL (g : Tg) (body : M Fl) : List D → M Fl
  | [], e => .ok .nx e
  | d :: ds, e => match g d e with
    | none => .bad
    | some e1 => (body e1).bnd fun fl e2 => match fl with
      | .nx => forL g body ds e2
      | .ct => forL g body ds e2
      | .bk => .ok .nx e2
      | .rt d => .ok (.rt d) e2
def sFor (fi : M (List D)) (g : Tg) (body : M Fl) : M Fl := fun e => (fi e).bnd fun ds e1 => forL g body ds e1
def whL (c : M Bool) (body : M Fl) : Nat → M Fl
  | 0, _ => .bad
  | n + 1, e => (c e).bnd fun b e1 => if b then (body e1).bnd fun fl e2 => match fl with
      | .nx => whL c body n e2
      | .ct => whL c body n e2
      | .bk => .ok .nx e2
      | .rt d => .ok (.rt d) e2
    else .ok .nx e1
section
variable {X : Cx} {cl : Str → Addr} {F : Fra} {W : WX}
theorem tI_st {fi : M (List D)} {k : List D → Env → Out Fl} {σ : L2.St} {H G : Hp} {e : Env} {D : Ends} {Q : It → Hp → Prop} (st : Stt X.K cl F e σ H G) (h : PostF X.K cl F W D G ((fi e).bnd k))
    (c : ∀ ds e1 J H1 G1, Stt X.K cl F e1 σ H1 G1 → Kp F σ e H G e1 H1 G1 → ItOk X.K cl G1 J ds → PostF X.K cl F W D G1 (k ds e1) → Q J H1) :
    ∃ e G, Stt X.K cl F e σ H G ∧ Post X.K cl F W σ (fi e) fun ds e' => ∀ J H' G', Stt X.K cl F e' σ H' G' → Kp F σ e H G e' H' G' → ItOk X.K cl G' J ds → Q J H' := by
  refine ⟨e, G, st, ?_⟩
  cases q : fi e with
  | ok r e1 =>
    rw [q] at h
    exact fun J H1 G1 s1 k1 r1 => c r e1 J H1 G1 s1 k1 r1 (PostF.mono (o := k r e1) h k1.gg)
  | exn x e1 => rw [q] at h; exact Xn.of h
  | bad => rw [q] at h; exact h
theorem rs_for {tg iter : Expr} {body : List Stmt} {fi : M (List D)} {g : Tg} {fb : M Fl} {ws : List Nat} {pos : Pos} (hp : PassesOwn (model X.prog X.w) X.A X.env X.xe) (hc : X.calm = true) (hi : RI X cl F W tg iter fi) (hg : RG X cl F ws tg g) (hb : RSs X cl F W body fb)
    (hs : ∀ x, foldedSetIterable iter X.env x = pure x := by intro _; rfl) : RS X cl F W (.For tg iter body [] pos) (sFor fi g fb) := by
  refine ⟨PS.imp (ps_for hp hc hi.pi hg.pg hb.pss hs) fun D σ H ⟨e, G, st, q⟩ => tI_st st q fun ds e1 J H1 G1 s1 k1 it z => ?_⟩
  refine ⟨fun i m σ' H' => ∃ e' G', Stt X.K cl F e' σ' H' G' ∧ Same G1 G' ∧ m = ds.length - i ∧ i ≤ ds.length ∧ PostF X.K cl F W D G' (forL g fb (ds.drop i) e'), ⟨ds.length, e1, G1, s1, .refl _, by omega, Nat.zero_le _, by simpa using z⟩, ?_⟩
  rintro i m σ' H' ⟨e', G', s', gg, rfl, hi, z⟩
  obtain ⟨it1, it2⟩ := it H' G' gg s'.ret.gh
  by_cases hl : i < ds.length
  · have hd : ds[i]? = some ds[i] := List.getElem?_eq_getElem hl
    obtain ⟨hgo, hy⟩ := it1 i _ hd
    refine .inr ⟨hgo, fun σ2 H2 => ∃ e2 G2, Stt X.K cl F e2 σ2 H2 G2 ∧ Same G1 G2 ∧ PostF X.K cl F W D G2 (forL g fb (ds.drop (i + 1)) e2), fun σ2 H2 ⟨e2, G2, s2, g2, z2⟩ => ⟨ds.length - (i + 1), by omega, e2, G2, s2, g2, rfl, hl, z2⟩, fun x H2 y => ?_⟩
    obtain ⟨G2, sp, rx⟩ := hy x H2 y
    have s2 := s'.step sp
    have g2 := (sp.same s'.ret.gh).2.1
    rw [List.drop_eq_getElem_cons hl] at z
    have z : PostF X.K cl F W D G' (match g ds[i] e' with
      | none => .bad
      | some e1 => (fb e1).bnd fun fl e2 => match fl with
        | .nx => forL g fb (ds.drop (i + 1)) e2
        | .ct => forL g fb (ds.drop (i + 1)) e2
        | .bk => .ok .nx e2
        | .rt d => .ok (.rt d) e2) := z
    cases hgd : g ds[i] e' with
    | none => rw [hgd] at z; exact z.elim
    | some e3 =>
      rw [hgd] at z
      refine ⟨e', e3, G2, _, s2, rx, hgd, fun σ3 _ s3 => ⟨e3, G2, s3, ?_⟩⟩
      have gg3 : Same G' G2 := g2
      cases hb3 : fb e3 with
      | bad => simp only [hb3] at z; exact z.elim
      | exn x e4 => simp only [hb3] at z; exact z
      | ok fl e4 =>
        simp only [hb3] at z
        cases fl with
        | nx => exact fun σ4 H4 G4 s4 k4 => ⟨e4, G4, s4, gg.trans (gg3.trans k4), PostF.mono (o := forL g fb (ds.drop (i + 1)) e4) z (gg3.trans k4)⟩
        | ct => exact fun σ4 H4 G4 s4 k4 => ⟨e4, G4, s4, gg.trans (gg3.trans k4), PostF.mono (o := forL g fb (ds.drop (i + 1)) e4) z (gg3.trans k4)⟩
        | bk => exact fun σ4 H4 G4 s4 k4 => z σ4 H4 G4 s4 (gg3.trans k4)
        | rt d => exact z
  · have e2 : i = ds.length := by omega
    subst e2
    rw [List.drop_length] at z
    exact .inl ⟨it2, z σ' H' G' s' (.refl _)⟩
theorem rs_while {c : Expr} {body : List Stmt} {fc : M Bool} {fb : M Fl} {pos : Pos} (n : Nat) (hp : PassesOwn (model X.prog X.w) X.A X.env X.xe) (hc : RT X cl F W c fc) (hb : RSs X cl F W body fb) : RS X cl F W (.While c body [] pos) (whL fc fb n) := by
  refine ⟨PS.imp (ps_while hp hc.pt hb.pss) fun D σ H ⟨e, G, st, q⟩ => ?_⟩
  refine ⟨fun m σ' H' => ∃ e' G', Stt X.K cl F e' σ' H' G' ∧ PostF X.K cl F W D G' (whL fc fb m e'), ⟨n, e, G, st, q⟩, ?_⟩
  rintro m σ' H' ⟨e', G', s', z⟩
  cases m with
  | zero => exact z.elim
  | succ m =>
    refine tB_st s' z fun r e1 H1 G1 s1 k1 z => ?_
    cases r with
    | false => exact z σ' H1 G1 s1 (.refl _)
    | true =>
      refine ⟨fun σ2 H2 => ∃ e2 G2, Stt X.K cl F e2 σ2 H2 G2 ∧ PostF X.K cl F W D G2 (whL fc fb m e2), fun σ2 H2 ⟨e2, G2, s2, z2⟩ => ⟨m, by omega, e2, G2, s2, z2⟩, e1, G1, s1, ?_⟩
      simp only [if_true] at z
      cases hb3 : fb e1 with
      | bad => rw [hb3] at z; exact z.elim
      | exn x e4 => rw [hb3] at z; exact z
      | ok fl e4 =>
        rw [hb3] at z
        cases fl with
        | nx => exact fun σ4 H4 G4 s4 k4 => ⟨e4, G4, s4, PostF.mono (o := whL fc fb m e4) z k4⟩
        | ct => exact fun σ4 H4 G4 s4 k4 => ⟨e4, G4, s4, PostF.mono (o := whL fc fb m e4) z k4⟩
        | bk => exact fun σ4 H4 G4 s4 k4 => z σ4 H4 G4 s4 k4
        | rt d => exact z
end

/-! ### list comprehensions -/
def Env.wipe (e : Env) : List Nat → Env
  | [] => e
  | v :: vs => (e.wipe vs).setS v .un
/-- the slots vs of e' as they were in e -/
def Env.back (e e' : Env) : List Nat → Env
  | [] => e'
  | v :: vs => match e.s[v]? with
    | some x => (Env.back e e' vs).setS v x
    | none => Env.back e e' vs
def plainAt (e : Env) (vs : List Nat) : Bool := vs.all fun v => match e.s[v]? with
  | some x => x.plain
  | none => true
def lcL (vs : List Nat) (g : Tg) (t : M Bool) (f : M R) : List D → List D → M (List D)
  | [], acc, e => .ok acc e
  | d :: ds, acc, e => match g d (e.wipe vs) with
    | none => .bad
    | some e1 => match t e1 with
      | .ok true e2 => (match f e2 with
        | .ok r e3 => (match e3.frz r with
          | some (y, e4) => if acc.length < sizeLine then lcL vs g t f ds (acc ++ [y]) e4 else .bad
          | none => .bad)
        | _ => .bad)
      | .ok false e2 => lcL vs g t f ds acc e2
      | _ => .bad
def tYs : M Bool := fun e => .ok true e
def cLc (vs : List Nat) (fi : M (List D)) (g : Tg) (t : M Bool) (f : M R) : M R := fun e => (fi e).bnd fun ds e1 => if plainAt e1 vs then (match lcL vs g t f ds [] e1 with
  | .ok out e2 => .ok (.val (.lst out)) (e1.back e2 vs)
  | _ => .bad) else .bad
end DL

namespace DL
open PySem L2 PySem.Spec PyProof.Rows

section
variable {K : PySem.W.Frag} {cl : Str → Addr} {F : Fra} {e e' : Env} {σ σ' : L2.St} {H G H' G' : Hp}
/-- an object that no slot owns is changed -/
theorem Stt.updL {p : Addr} {o o' : HO} (st : Stt K cl F e σ H G) (h : H p = some o) (g : G p = none) (h0 : F.H0 p = none) (l : Loose F e σ p) : Stt K cl F e σ (upd H p o') G := by
  obtain ⟨⟨gh, g0, jr, fr, fg⟩, jh, len, slot, inj⟩ := st
  have ne : ∀ {a : Addr} {u : HO}, G a = some u → a ≠ p := fun q z => by rw [z, g] at q; cases q
  refine ⟨⟨fun b u q => by rw [upd_ne (ne q)]; exact gh b u q, g0, ⟨jr.len, jr.nd, fun k a d k1 k2 => ?_⟩, fun a u q hn => ?_, fg⟩, jh, len, fun i x hx => ?_, inj⟩
  · obtain ⟨q1, q2⟩ := jr.at_ k a d k1 k2
    have na : a ≠ p := fun z => l.1 (z ▸ List.mem_of_getElem? k1)
    exact ⟨q1, q2.mono (fun u q => by rw [upd_ne na]; exact q) (.refl _)⟩
  · have na : a ≠ p := fun z => by rw [z, h0] at q; cases q
    rw [upd_ne na]; exact fr a u q hn
  · have z := slot i x hx
    cases x with
    | un => trivial
    | dat d => exact z
    | own d =>
      obtain ⟨a, z1, z2, z3, z4⟩ := z
      have na : a ≠ p := fun w => l.2 i d hx (w ▸ z1)
      exact ⟨a, z1, z2, z3, z4.mono (fun u q => by rw [upd_ne na]; exact q) (.refl _)⟩
    | jar k => exact z
    | ptr => exact z
/-- such an object becomes part of G -/
theorem Stt.addG {p : Addr} {o : HO} (st : Stt K cl F e σ H G) (h : H p = some o) (g : G p = none) (h0 : F.H0 p = none) (l : Loose F e σ p) : Stt K cl F e σ H (upd G p o) := by
  obtain ⟨⟨gh, g0, jr, fr, fg⟩, jh, len, slot, inj⟩ := st
  have g1 : Same G (upd G p o) := same_upd g
  refine ⟨⟨same_add gh h, g0.trans g1, ⟨jr.len, jr.nd, fun k a d k1 k2 => ?_⟩, fr, fun a u q hn => ?_⟩, jh, len, fun i x hx => ?_, inj⟩
  · obtain ⟨q1, q2⟩ := jr.at_ k a d k1 k2
    have na : a ≠ p := fun z => l.1 (z ▸ List.mem_of_getElem? k1)
    exact ⟨by rw [upd_ne na]; exact q1, q2.mono (fun u q => q) g1⟩
  · have na : a ≠ p := fun z => by rw [z, h0] at q; cases q
    rw [upd_ne na]; exact fg a u q hn
  · have z := slot i x hx
    cases x with
    | un => trivial
    | dat d => obtain ⟨v, z1, z2⟩ := z; exact ⟨v, z1, z2.mono g1⟩
    | own d =>
      obtain ⟨a, z1, z2, z3, z4⟩ := z
      have na : a ≠ p := fun w => l.2 i d hx (w ▸ z1)
      exact ⟨a, z1, by rw [upd_ne na]; exact z2, z3, z4.mono (fun u q => q) g1⟩
    | jar k => exact z
    | ptr => exact z
theorem wipe_len : ∀ (vs : List Nat) (e : Env), (e.wipe vs).s.length = e.s.length
  | [], _ => rfl
  | v :: vs, e => by unfold Env.wipe Env.setS; simp [wipe_len vs e]
theorem wipe_out : ∀ (vs : List Nat) (e : Env) {i : Nat}, i ∉ vs → (e.wipe vs).s[i]? = e.s[i]?
  | [], _, _, _ => rfl
  | v :: vs, e, i, h => by
    unfold Env.wipe
    rw [setS_ne (fun z => h (by simp [z]))]
    exact wipe_out vs e fun z => h (List.mem_cons_of_mem _ z)
theorem wipe_in : ∀ (vs : List Nat) (e : Env) {i : Nat} {x : S}, i ∈ vs → (e.wipe vs).s[i]? = some x → x = .un
  | [], _, _, _, h, _ =>
                                                                                                              by simp at h
  | v :: vs, e, i, x, h, q => by
    unfold Env.wipe at q
    by_cases hv : i = v
    · subst hv
      have hl : i < ((e.wipe vs).setS i .un).s.length := (List.getElem?_eq_some_iff.mp q).1
      have hl' : i < (e.wipe vs).s.length := by simpa [Env.setS] using hl
      have z : ((e.wipe vs).setS i .un).s[i]? = some .un := List.getElem?_set_self hl'
      rw [z] at q; cases q; rfl
    · rw [setS_ne hv] at q
      exact wipe_in vs e ((List.mem_cons.mp h).resolve_left hv) q
theorem wipe_j : ∀ (vs : List Nat) (e : Env), (e.wipe vs).j = e.j
  | [], _ => rfl
  | v :: vs, e => wipe_j vs e
theorem wipeσ_out : ∀ (vs : List Nat) (σ : L2.St) {i : Nat}, i ∉ vs → (L2.wipe σ vs)[i]? = σ[i]?
  | [], _, _, _ => rfl
  | v :: vs, σ, i, h => by
    unfold L2.wipe
    rw [List.getElem?_set_ne (fun z => h (by simp [z]))]
    exact wipeσ_out vs σ fun z => h (List.mem_cons_of_mem _ z)
theorem wipeσ_in : ∀ (vs : List Nat) (σ : L2.St) {i : Nat}, i ∈ vs → (L2.wipe σ vs)[i]? = σ[i]?.map fun _ => none
  | [], _, _, h => by simp at h
  | v :: vs, σ, i, h => by
    unfold L2.wipe
    by_cases hv : i = v
    · subst hv
      by_cases hl : i < σ.length
      · rw [List.getElem?_set_self (by rw [wipe_length]; exact hl), List.getElem?_eq_getElem hl]; rfl
      · have h1 : σ[i]? = none := List.getElem?_eq_none_iff.mpr (by omega)
        rw [h1]
        exact List.getElem?_eq_none_iff.mpr (by rw [List.length_set, wipe_length]; omega)
    · rw [List.getElem?_set_ne (Ne.symm hv)]
      exact wipeσ_in vs σ ((List.mem_cons.mp h).resolve_left hv)
theorem wipe_agr {vs ws : List Nat} (h : Agr ws (L2.wipe σ vs) σ') (hw : ∀ i ∈ ws, i ∈ vs) : L2.wipe σ' vs = L2.wipe σ vs := by
  refine List.ext_getElem? fun i => ?_
  by_cases hi : i ∈ vs
  · rw [wipeσ_in vs σ' hi, wipeσ_in vs σ hi]
    have hl : σ'.length = σ.length := by rw [h.1, wipe_length]
    by_cases h2 : i < σ.length
    · rw [List.getElem?_eq_getElem h2, List.getElem?_eq_getElem (by omega)]; rfl
    · rw [List.getElem?_eq_none_iff.mpr (by omega), List.getElem?_eq_none_iff.mpr (by omega)]
  · rw [wipeσ_out vs σ' hi, h.2 i (fun z => hi (hw i z))]
theorem Stt.wipe (st : Stt K cl F e σ H G) (vs : List Nat) : Stt K cl F (e.wipe vs) (L2.wipe σ vs) H G := by
  obtain ⟨ret, jh, len, slot, inj⟩ := st
  refine ⟨by rw [wipe_j]; exact ret, jh, by rw [wipe_length, wipe_len]; exact len, fun i x h => ?_, fun i j d d' a h1 h2 h3 h4 => ?_⟩
  · by_cases hi : i ∈ vs
    · rw [wipe_in vs e hi h]; trivial
    · rw [wipe_out vs e hi] at h
      have z := slot i x h
      cases x with
      | un => trivial
      | dat d => obtain ⟨v, z1, z2⟩ := z; exact ⟨v, by rw [wipeσ_out vs σ hi]; exact z1, z2⟩
      | own d => obtain ⟨a, z1, z2⟩ := z; exact ⟨a, by rw [wipeσ_out vs σ hi]; exact z1, z2⟩
      | jar k => obtain ⟨a, z1, z2⟩ := z; exact ⟨a, z1, by rw [wipeσ_out vs σ hi]; exact z2⟩
      | ptr => exact (wipeσ_out vs σ hi).trans z
  · by_cases hi : i ∈ vs
    · cases wipe_in vs e hi h1
    · by_cases hj : j ∈ vs
      · cases wipe_in vs e hj h2
      · rw [wipe_out vs e hi] at h1
        rw [wipe_out vs e hj] at h2
        rw [wipeσ_out vs σ hi] at h3
        rw [wipeσ_out vs σ hj] at h4
        exact inj i j d d' a h1 h2 h3 h4
theorem back_out : ∀ (vs : List Nat) (e e' : Env) {i : Nat}, i ∉ vs → (e.back e' vs).s[i]? = e'.s[i]?
  | [], _, _, _, _ => rfl
  | v :: vs, e, e', i, h => by
    unfold Env.back
    cases e.s[v]? with
    | none => exact back_out vs e e' fun z => h (List.mem_cons_of_mem _ z)
    | some x =>
      show ((e.back e' vs).setS v x).s[i]? = _
      rw [setS_ne (fun z => h (by simp [z]))]
      exact back_out vs e e' fun z => h (List.mem_cons_of_mem _ z)
theorem back_len : ∀ (vs : List Nat) (e e' : Env), (e.back e' vs).s.length = e'.s.length
  | [], _, _ => rfl
  | v :: vs, e, e' => by
    unfold Env.back
    cases e.s[v]? with
    | none => exact back_len vs e e'
    | some x => show ((e.back e' vs).setS v x).s.length = _; simp [Env.setS, back_len vs e e']
theorem back_j : ∀ (vs : List Nat) (e e' : Env), (e.back e' vs).j = e'.j
  | [], _, _ => rfl
  | v :: vs, e, e' => by
    unfold Env.back
    cases e.s[v]? with
    | none => exact back_j vs e e'
    | some x => exact back_j vs e e'
theorem back_in : ∀ (vs : List Nat) (e e' : Env) {i : Nat}, e.s.length = e'.s.length → i ∈ vs → (e.back e' vs).s[i]? = e.s[i]?
  | [], _, _, _, _, h =>
                                                                                                              by simp at h
  | v :: vs, e, e', i, hl, h => by
    unfold Env.back
    by_cases hv : i = v
    · subst hv
      cases q : e.s[i]? with
      | none =>
        have h1 : e.s.length ≤ i := List.getElem?_eq_none_iff.mp q
        exact List.getElem?_eq_none_iff.mpr (by show (e.back e' vs).s.length ≤ i; rw [back_len]; omega)
      | some x =>
        have h1 : i < e.s.length := (List.getElem?_eq_some_iff.mp q).1
        exact List.getElem?_set_self (by rw [back_len]; omega)
    · have hi := (List.mem_cons.mp h).resolve_left hv
      cases e.s[v]? with
      | none => exact back_in vs e e' hl hi
      | some x =>
        show ((e.back e' vs).setS v x).s[i]? = _
        rw [setS_ne hv]
        exact back_in vs e e' hl hi
theorem plainAt_ok {vs : List Nat} (h : plainAt e vs = true) {i : Nat} {x : S} (hi : i ∈ vs) (hx : e.s[i]? = some x) : x.plain = true := by
  have q := List.all_eq_true.mp h i hi
  rw [hx] at q
  exact q
/-- out of the block: the slots vs as they were -/
theorem Stt.back {e1 e2 : Env} {H1 G1 : Hp} {vs : List Nat} (s1 : Stt K cl F e1 σ H1 G1) (p : plainAt e1 vs = true) (gg : Same G1 G) (st : Stt K cl F (e2.wipe vs) (L2.wipe σ vs) H G) : Stt K cl F (e1.back e2 vs) σ H G := by
  have hl : e1.s.length = e2.s.length := by rw [← s1.len, ← wipe_len vs e2, ← st.len, wipe_length]
  have hr := st.ret
  rw [wipe_j] at hr
  refine ⟨by rw [back_j]; exact hr, st.jh, by rw [back_len, ← hl]; exact s1.len, fun i x h => ?_, fun i j d d' a h1 h2 h3 h4 => ?_⟩
  · by_cases hi : i ∈ vs
    · rw [back_in vs e1 e2 hl hi] at h
      have z := s1.slot i x h
      have pl := plainAt_ok p hi h
      cases x with
      | un => trivial
      | dat d => obtain ⟨v, z1, z2⟩ := z; exact ⟨v, z1, z2.mono gg⟩
      | _ => cases pl
    · rw [back_out vs e1 e2 hi] at h
      have z := st.slot i x (by rw [wipe_out vs e2 hi]; exact h)
      cases x with
      | un => trivial
      | dat d => obtain ⟨v, z1, z2⟩ := z; exact ⟨v, by rw [← wipeσ_out vs σ hi]; exact z1, z2⟩
      | own d => obtain ⟨a, z1, z2⟩ := z; exact ⟨a, by rw [← wipeσ_out vs σ hi]; exact z1, z2⟩
      | jar k => obtain ⟨a, z1, z2⟩ := z; exact ⟨a, z1, by rw [← wipeσ_out vs σ hi]; exact z2⟩
      | ptr => exact (wipeσ_out vs σ hi).symm.trans z
  · have no : ∀ {i : Nat} {d : D}, (e1.back e2 vs).s[i]? = some (.own d) → i ∉ vs := fun {i d} h hi => by
      rw [back_in vs e1 e2 hl hi] at h
      have pl := plainAt_ok p hi h
      cases pl
    have hi := no h1
    have hj := no h2
    rw [back_out vs e1 e2 hi] at h1
    rw [back_out vs e1 e2 hj] at h2
    exact st.inj i j d d' a (by rw [wipe_out vs e2 hi]; exact h1) (by rw [wipe_out vs e2 hj]; exact h2) (by rw [wipeσ_out vs σ hi]; exact h3) (by rw [wipeσ_out vs σ hj]; exact h4)
end

section
variable {X : Cx} {cl : Str → Addr} {F : Fra} {W : WX}
structure RTs (X : Cx) (cl : Str → Addr) (F : Fra) (W : WX) (xs : List Expr) (f : M Bool) : Prop where
  pts : PTs X xs (tB' X.K cl F W f)
theorem rts_nil : RTs X cl F W [] tYs := ⟨⟨fun pins s σ H Q I ⟨e, G, st, q⟩ => pts_nil.run pins s σ H Q I (q H G st .refl)⟩⟩
theorem rts_one {x : Expr} {f : M Bool} (h : RT X cl F W x f) : RTs X cl F W [x] f := ⟨pts_one h.pt⟩
abbrev W0 : WX := fun _ _ _ _ => False
end
end DL

namespace DL
open PySem L2 PySem.Spec PyProof.Rows

section
variable {K : PySem.W.Frag} {cl : Str → Addr} {F : Fra} {e e' : Env} {σ σ' : L2.St} {H G H' G' : Hp}
theorem Stt.layL {p : Addr} {o : HO} (st : Stt K cl F e σ H G) (h : H p = none) : Stt K cl F e σ (upd H p o) G := by
  obtain ⟨⟨gh, g0, jr, fr, fg⟩, jh, len, slot, inj⟩ := st
  have sm : Same H (upd H p o) := same_upd h
  refine ⟨⟨gh.trans sm, g0, ⟨jr.len, jr.nd, fun k a d k1 k2 => ?_⟩, fun a u q hn => sm _ _ (fr a u q hn), fg⟩, jh, len, fun i x hx => ?_, inj⟩
  · obtain ⟨q1, q2⟩ := jr.at_ k a d k1 k2
    exact ⟨q1, q2.mono (fun u q => sm _ _ q) (.refl _)⟩
  · have z := slot i x hx
    cases x with
    | un => trivial
    | dat d => exact z
    | own d => obtain ⟨a, z1, z2, z3, z4⟩ := z; exact ⟨a, z1, z2, z3, z4.mono (fun u q => sm _ _ q) (.refl _)⟩
    | jar k => exact z
    | ptr => exact z
/-- what is free in H is loose, and was free at the entry -/
theorem Stt.fresh (st : Stt K cl F e σ H G) {p : Addr} (h : H p = none) : Loose F e σ p ∧ F.H0 p = none := by
  have hj : p ∉ F.js := fun hp => by
    obtain ⟨k, hk⟩ := List.getElem?_of_mem hp
    have hl : k < e.j.length := by rw [st.ret.jars.len]; exact (List.getElem?_eq_some_iff.mp hk).1
    obtain ⟨q1, q2⟩ := st.ret.jars.at_ k p _ hk (List.getElem?_eq_getElem hl)
    obtain ⟨o, q3⟩ := q2.ex
    rw [h] at q3; cases q3
  refine ⟨⟨hj, fun i d hi hs => ?_⟩, ?_⟩
  · obtain ⟨a, h1, h2, h3, h4⟩ := st.slot i _ hi
    rw [hs] at h1; cases h1
    obtain ⟨o, q3⟩ := h4.ex
    rw [h] at q3; cases q3
  · cases q : F.H0 p with
    | none => rfl
    | some o => have := st.ret.fr p o q hj; rw [h] at this; cases this
/-- e'', σ'' own no more than e1, σ do, outside vs -/
structure Sub (vs : List Nat) (e1 : Env) (σ : L2.St) (e'' : Env) (σ'' : L2.St) : Prop where
  ow : ∀ (i : Nat) (d : D), e''.s[i]? = some (.own d) → i ∉ vs ∧ ∃ d', e1.s[i]? = some (.own d')
  eq : ∀ i, i ∉ vs → σ''[i]? = σ[i]?
theorem Loose.sub {vs : List Nat} {e1 e'' : Env} {σ'' : L2.St} {a : Addr} (l : Loose F e1 σ a) (s : Sub vs e1 σ e'' σ'') : Loose F e'' σ'' a :=
  ⟨l.1, fun i d h => by
    obtain ⟨hi, d', h'⟩ := s.ow i d h
    rw [s.eq i hi]
    exact l.2 i d' h'⟩
/-- through the turns of a comprehension: e1 at the beginning, e now -/
structure LcI (K : PySem.W.Frag) (cl : Str → Addr) (F : Fra) (σ : L2.St) (vs : List Nat) (p : Addr) (e1 : Env) (H1 G1 : Hp) (e : Env) (acc : List D) (H G : Hp) : Prop where
  st : Stt K cl F (e.wipe vs) (L2.wipe σ vs) H G
  gg : Same G1 G
  hd : ∃ us, H p = some (.lst us) ∧ RepL K cl G acc us
  gd : G p = none
  kp : ∀ a o, H1 a = some o → Loose F e1 σ a → H a = some o ∧ (G1 a = none → G a = none)
  ow : ∀ (i : Nat) (d : D), i ∉ vs → e.s[i]? = some (.own d) → ∃ d', e1.s[i]? = some (.own d')
theorem tI_then {α : Type} {W : WX} {fi : M (List D)} {k : List D → Env → Out α} {q : α → Env → Prop} {Q : It → Hp → Prop} (st : Stt K cl F e σ H G) (h : Post K cl F W σ ((fi e).bnd k) q)
    (c : ∀ ds e1 J H1 G1, Stt K cl F e1 σ H1 G1 → Kp F σ e H G e1 H1 G1 → ItOk K cl G1 J ds → Post K cl F W σ (k ds e1) q → Q J H1) :
    ∃ e G, Stt K cl F e σ H G ∧ Post K cl F W σ (fi e) fun ds e' => ∀ J H' G', Stt K cl F e' σ H' G' → Kp F σ e H G e' H' G' → ItOk K cl G' J ds → Q J H' :=
  ⟨e, G, st, post_imp (post_bnd h) fun r e1 z J H1 G1 s1 k1 r1 => c r e1 J H1 G1 s1 k1 r1 z⟩
/-- one turn's target: the state within the turn -/
theorem LcI.turn {vs ws : List Nat} {p : Addr} {e1 e3 : Env} {H1 G1 H2 G2 : Hp} {acc : List D} {σ2 : L2.St} (L : LcI K cl F σ vs p e1 H1 G1 e acc H G) (hp : Loose F e1 σ p) (sp : Step H G H2 G2) (hw : ∀ i ∈ ws, i ∈ vs)
    (ag : Agr ws (L2.wipe σ vs) σ2) (ea : EAgr ws (e.wipe vs) e3) :
    Sub vs e1 σ e3 σ2 ∧ Same G1 G2 ∧ (∃ us, H2 p = some (.lst us) ∧ RepL K cl G2 acc us) ∧ G2 p = none ∧ (∀ a o, H1 a = some o → Loose F e1 σ a → H2 a = some o ∧ (G1 a = none → G2 a = none)) := by
  obtain ⟨a1, a2, a3⟩ := sp.same L.st.ret.gh
  obtain ⟨us, h1, h2⟩ := L.hd
  refine ⟨⟨fun i d h => ?_, fun i hi => ?_⟩, L.gg.trans a2, ⟨us, a1 _ _ h1, h2.mono a2⟩, sp.none L.st.ret.gh h1 L.gd, fun a o q l => ?_⟩
  · by_cases hiw : i ∈ ws
    · have := ea.pl i hiw _ h; cases this
    · rw [ea.out i hiw] at h
      by_cases hiv : i ∈ vs
      · cases wipe_in vs e hiv h
      · rw [wipe_out vs e hiv] at h
        exact ⟨hiv, L.ow i d hiv h⟩
  · rw [ag.2 i (fun z => hi (hw i z)), wipeσ_out vs σ hi]
  · obtain ⟨q1, q2⟩ := L.kp a o q l
    exact ⟨a1 _ _ q1, fun g => sp.none L.st.ret.gh q1 (q2 g)⟩
theorem lc_D {W : WX} {vs ws : List Nat} {fi : M (List D)} {g : Tg} {ft : M Bool} {fe : M R} {Q : VK} (hw : ∀ i ∈ ws, i ∈ vs) (hfr : ∀ d e e', g d e = some e' → EAgr ws e e') (h : tD K cl F W (cLc vs fi g ft fe) σ H Q) :
    tLc (fun σ H Q => ∃ e G, Stt K cl F e σ H G ∧ Post K cl F W σ (fi e) fun ds e' => ∀ J H' G', Stt K cl F e' σ H' G' → Kp F σ e H G e' H' G' → ItOk K cl G' J ds → Q J H') (tG K cl F ws g) (tB' K cl F W0 ft) (tD K cl F W0 fe) vs σ H Q := by
  obtain ⟨e0, G0, st, q⟩ := h
  refine tI_then st q fun ds e1 J H1 G1 s1 k1 it z p hp => ?_
  by_cases pl : plainAt e1 vs = true
  · rw [if_pos pl] at z
    cases hl : lcL vs g ft fe ds [] e1 with
    | bad => rw [hl] at z; exact z.elim
    | exn x e2 => rw [hl] at z; exact z.elim
    | ok out e2 =>
      rw [hl] at z
      obtain ⟨lp, hp0⟩ := s1.fresh hp
      refine ⟨fun i m H => ∃ e acc G, LcI K cl F σ vs p e1 H1 G1 e acc H G ∧ m = ds.length - i ∧ i ≤ ds.length ∧ lcL vs g ft fe (ds.drop i) acc e = .ok out e2, ⟨ds.length, e1, [], G1, ?_, by omega, Nat.zero_le _, by simpa using hl⟩, ?_⟩
      · have g1p : G1 p = none := s1.ret.gh.free hp
        exact ⟨(s1.layL hp).wipe vs, .refl _, ⟨[], upd_same, .nil⟩, g1p, fun a o h1 _ => ⟨by rw [upd_ne (ne_of_none h1 hp)]; exact h1, fun g => g⟩, fun i d _ h => ⟨d, h⟩⟩
      · rintro i m H ⟨e, acc, G, L, rfl, hi, hl⟩
        obtain ⟨it1, it2⟩ := it H G L.gg L.st.ret.gh
        by_cases hlt : i < ds.length
        · have hd : ds[i]? = some ds[i] := List.getElem?_eq_getElem hlt
          obtain ⟨hgo, hy⟩ := it1 i _ hd
          refine .inr ⟨hgo, fun H' => ∃ e acc G, LcI K cl F σ vs p e1 H1 G1 e acc H' G ∧ lcL vs g ft fe (ds.drop (i + 1)) acc e = .ok out e2, fun H' ⟨e', acc', G', L', hl'⟩ => ⟨ds.length - (i + 1), by omega, e', acc', G', L', rfl, hlt, hl'⟩, fun x H2 y => ?_⟩
          obtain ⟨G2, sp, rx⟩ := hy x H2 y
          rw [List.drop_eq_getElem_cons hlt] at hl
          have hl : (match g ds[i] (e.wipe vs) with
            | none => Out.bad
            | some e1 => match ft e1 with
              | .ok true e2 => (match fe e2 with
                | .ok r e3 => (match e3.frz r with
                  | some (y, e4) => if acc.length < sizeLine then lcL vs g ft fe (ds.drop (i + 1)) (acc ++ [y]) e4 else .bad
                  | none => .bad)
                | _ => .bad)
              | .ok false e2 => lcL vs g ft fe (ds.drop (i + 1)) acc e2
              | _ => .bad) = .ok out e2 := hl
          cases hg : g ds[i] (e.wipe vs) with
          | none => rw [hg] at hl; cases hl
          | some e3 =>
            rw [hg] at hl
            refine ⟨e.wipe vs, e3, G2, _, L.st.step sp, rx, hg, fun σ2 ag s2 => ⟨wipe_agr ag hw, e3, G2, s2, ?_⟩⟩
            obtain ⟨sub, gg2, ⟨us, hu1, hu2⟩, gp2, kp2⟩ := L.turn lp sp hw ag (hfr _ _ _ hg)
            have wag := wipe_agr ag hw
            cases ht : ft e3 with
            | bad => simp only [ht] at hl; cases hl
            | exn x e4 => simp only [ht] at hl; cases hl
            | ok b e4 =>
              simp only [ht] at hl
              cases b with
              | false =>
                intro H3 G3 s3 k3
                refine iteF ⟨e4, acc, G3, ⟨?_, gg2.trans k3.gg, ⟨us, (k3.kp p _ hu1 (lp.sub sub)).1, hu2.mono k3.gg⟩, (k3.kp p _ hu1 (lp.sub sub)).2 gp2, fun a o h1 l => ?_, fun j d _ h => ?_⟩, hl⟩
                · have := s3.wipe vs; rw [wag] at this; exact this
                · obtain ⟨q1, q2⟩ := kp2 a o h1 l
                  obtain ⟨q3, q4⟩ := k3.kp a o q1 (l.sub sub)
                  exact ⟨q3, fun g => q4 (q2 g)⟩
                · obtain ⟨d', h'⟩ := k3.ow j d h
                  exact (sub.ow j d' h').2
              | true =>
                intro H3 G3 s3 k3
                refine iteT ⟨e4, G3, s3, ?_⟩
                cases hf : fe e4 with
                | bad => simp only [hf] at hl; cases hl
                | exn x e5 => simp only [hf] at hl; cases hl
                | ok r e5 =>
                  simp only [hf] at hl
                  intro y H4 G4 s4 k4 r4
                  cases hz : e5.frz r with
                  | none => simp only [hz] at hl; cases hl
                  | some py =>
                    obtain ⟨dy, e6⟩ := py
                    simp only [hz] at hl
                    by_cases hsz : acc.length < sizeLine
                    · rw [if_pos hsz] at hl
                      obtain ⟨G5, s5, k5, r5⟩ := frz_ok s4 r4 hz
                      have kk := (k3.trans k4).trans k5
                      obtain ⟨h4p, g5p⟩ := kk.kp p _ hu1 (lp.sub sub)
                      have g5p := g5p gp2
                      refine ⟨us, h4p, by rw [← hu2.length]; exact hsz, e6, acc ++ [dy], G5, ⟨?_, gg2.trans kk.gg, ⟨us ++ [y], upd_same, (hu2.mono kk.gg).append (.cons r5 .nil)⟩, g5p, fun a o h1 l => ?_, fun j d _ h => ?_⟩, hl⟩
                      · have := s5.wipe vs
                        rw [wag] at this
                        refine this.updL h4p g5p hp0 ⟨lp.1, fun j d hj => ?_⟩
                        by_cases hjv : j ∈ vs
                        · cases wipe_in vs e6 hjv hj
                        · rw [wipe_out vs e6 hjv] at hj
                          obtain ⟨d', h'⟩ := kk.ow j d hj
                          obtain ⟨_, d2, h2⟩ := sub.ow j d' h'
                          rw [wipeσ_out vs σ hjv]
                          exact lp.2 j d2 h2
                      · obtain ⟨q1, q2⟩ := kp2 a o h1 l
                        obtain ⟨q3, q4⟩ := kk.kp a o q1 (l.sub sub)
                        exact ⟨by rw [upd_ne (ne_of_none h1 hp)]; exact q3, fun g => q4 (q2 g)⟩
                      · obtain ⟨d', h'⟩ := kk.ow j d h
                        exact (sub.ow j d' h').2
                    · rw [if_neg hsz] at hl; cases hl
        · have e3 : i = ds.length := by omega
          subst e3
          rw [List.drop_length] at hl
          cases hl
          obtain ⟨us, hu1, hu2⟩ := L.hd
          have sb : Stt K cl F (e1.back e2 vs) σ H G := s1.back pl L.gg L.st
          have lb : Loose F (e1.back e2 vs) σ p := ⟨lp.1, fun j d hj => by
            by_cases hjv : j ∈ vs
            · rw [back_in vs e1 e2 (by rw [← s1.len, ← wipe_len vs e2, ← L.st.len, wipe_length]) hjv] at hj
              exact lp.2 j d hj
            · rw [back_out vs e1 e2 hjv] at hj
              obtain ⟨d', h'⟩ := L.ow j d hjv hj
              exact lp.2 j d' h'⟩
          refine .inl ⟨it2, z _ H _ (sb.addG hu1 L.gd hp0 lb) (k1.trans ⟨L.gg.trans (same_upd L.gd), fun a o h1 l => ?_, fun j d hj => ?_⟩) (Rep.lst upd_same (hu2.mono (same_upd L.gd)))⟩
          · obtain ⟨q1, q2⟩ := L.kp a o h1 l
            exact ⟨q1, fun g => by rw [upd_ne (ne_of_none h1 hp)]; exact q2 g⟩
          · by_cases hjv : j ∈ vs
            · rw [back_in vs e1 e2 (by rw [← s1.len, ← wipe_len vs e2, ← L.st.len, wipe_length]) hjv] at hj
              exact ⟨d, hj⟩
            · rw [back_out vs e1 e2 hjv] at hj
              exact L.ow j d hjv hj
  · rw [if_neg pl] at z; exact z.elim
end

section
variable {X : Cx} {cl : Str → Addr} {F : Fra} {W : WX}
theorem re_lc {elt tg iter : Expr} {ifs : List Expr} {scope : Scope} {own : List (Str × Nat)} {ws : List Nat} {pos : Pos} {fi : M (List D)} {g : Tg} {ft : M Bool} {fe : M R} (hc : X.calm = true) (hN : X.N.Nodup) (hi : RI X cl F W tg iter fi) (ok : BlkOk X.N X.env.scope scope own)
    (hg : ∀ (s : Shared) (H : Hp) (C : Addr) (cs : List (Str × Addr)) (fp : List Addr), RG (X.blk s H scope (compEnvC scope cs C X.env) fp) cl F ws tg g)
    (ht : ∀ (s : Shared) (H : Hp) (C : Addr) (cs : List (Str × Addr)) (fp : List Addr), RTs (X.blk s H scope (compEnvC scope cs C X.env) fp) cl F W0 ifs ft)
    (he : ∀ (s : Shared) (H : Hp) (C : Addr) (cs : List (Str × Addr)) (fp : List Addr), RE (X.blk s H scope (compEnvC scope cs C X.env) fp) cl F W0 elt fe)
    (hw : ∀ i ∈ ws, i ∈ own.map (·.2) := by decide) (hs : ∀ x, foldedSetIterable iter X.env x = pure x := by intro _; rfl) : RE X cl F W (.ListComp elt [⟨tg, iter, ifs, 0⟩] scope pos) (cLc (own.map (·.2)) fi g ft fe) :=
  ⟨⟨fun pins s σ H Q I h => (pe_lc hc hN hi.pi ok (fun s H C cs fp => (hg s H C cs fp).pg) (fun s H C cs fp => (ht s H C cs fp).pts) (fun s H C cs fp => (he s H C cs fp).pe) hs).run pins s σ H Q I (lc_D hw (hg s H 0 [] []).fr h)⟩⟩
theorem rs_setLc {i : Nat} {y : Str} {py : Pos} {elt tg iter : Expr} {ifs : List Expr} {scope : Scope} {own : List (Str × Nat)} {ws : List Nat} {pos spos : Pos} {fi : M (List D)} {g : Tg} {ft : M Bool} {fe : M R} (hc : X.calm = true) (hN : X.N.Nodup) (hi : RI X cl F W tg iter fi) (ok : BlkOk X.N X.env.scope scope own)
    (hg : ∀ (s : Shared) (H : Hp) (C : Addr) (cs : List (Str × Addr)) (fp : List Addr), RG (X.blk s H scope (compEnvC scope cs C X.env) fp) cl F ws tg g)
    (ht : ∀ (s : Shared) (H : Hp) (C : Addr) (cs : List (Str × Addr)) (fp : List Addr), RTs (X.blk s H scope (compEnvC scope cs C X.env) fp) cl F W0 ifs ft)
    (he : ∀ (s : Shared) (H : Hp) (C : Addr) (cs : List (Str × Addr)) (fp : List Addr), RE (X.blk s H scope (compEnvC scope cs C X.env) fp) cl F W0 elt fe)
    (hsw : swapsWith (.ListComp elt [⟨tg, iter, ifs, 0⟩] scope pos) (some (.Name y py)) spos.line X.env = pure true)
    (hy : X.N[i]? = some y := by rfl) (hyl : X.env.scope.names.lookup y = some .local := by rfl)
    (hw : ∀ i ∈ ws, i ∈ own.map (·.2) := by decide) (hs : ∀ x, foldedSetIterable iter X.env x = pure x := by intro _; rfl) : RS X cl F W (.Assign [.Name y py] (.ListComp elt [⟨tg, iter, ifs, 0⟩] scope pos) spos) (sAsg i (cLc (own.map (·.2)) fi g ft fe)) := by
  refine ⟨⟨fun pins s σ H D I ⟨e, G, st, q⟩ => (ps_setLc (te := tD X.K cl F W0 fe) (tt := tB' X.K cl F W0 ft) (g := tG X.K cl F ws g) hc hN hy hyl hsw hi.pi ok (fun s H C cs fp => (hg s H C cs fp).pg) (fun s H C cs fp => (ht s H C cs fp).pts) (fun s H C cs fp => (he s H C cs fp).pe) hs).run pins s σ H D I ?_⟩⟩
  refine lc_D (W := W) hw (hg s H 0 [] []).fr ?_
  refine tD_st st q fun r e1 v H1 G1 s1 k1 r1 z => ?_
  cases y : e1.frz r with
  | none => rw [y] at z; exact z.elim
  | some p =>
    obtain ⟨d, e2⟩ := p
    rw [y] at z
    obtain ⟨G2, s2, k2, r2⟩ := frz_ok s1 r1 y
    exact z _ H1 G2 (s2.set r2) k2.gg
end
end DL

namespace DL
open PySem L2 PySem.Spec PyProof.Rows

/-! ### what a def is worth -/
inductive A where
  | dat (d : D) | jar (k : Nat)
inductive OutF where
  | ok (d : D) (j : List D) | exn (x : Exc) (j : List D) | bad
abbrev Fn := List A → List D → OutF
def A.s : A → S
  | .dat d => .dat d
  | .jar k => .jar k
inductive ArgsOk (K : PySem.W.Frag) (cl : Str → Addr) (js : List Addr) (G : Hp) : List A → List V → Prop
  | nil : ArgsOk K cl js G [] []
  | dat {d : D} {v : V} {as : List A} {vs : List V} : Rep K cl G d v → ArgsOk K cl js G as vs → ArgsOk K cl js G (.dat d :: as) (v :: vs)
  | jar {k : Nat} {p : Addr} {as : List A} {vs : List V} : js[k]? = some p → ArgsOk K cl js G as vs → ArgsOk K cl js G (.jar k :: as) (.ref p :: vs)
def PostFn (K : PySem.W.Frag) (cl : Str → Addr) (F : Fra) (Q : VK) (E : XK) (o : OutF) : Prop := match o with
  | .ok d j => ∀ v H' G', Ret K cl F H' G' j → Rep K cl G' d v → Q v H'
  | .exn x j => ∀ cls dd H' G', Ret K cl F H' G' j → ExcAt K cl x cls dd H' G' → E cls dd H'
  | .bad => False
def spD (K : PySem.W.Frag) (cl : Str → Addr) (Φ : Fn) : Sp := fun vs H Q E => ∃ (as : List A) (j : List D) (js : List Addr) (G : Hp), Same G H ∧ ArgsOk K cl js G as vs ∧ Jars K cl js H G j ∧ PostFn K cl ⟨H, G, js, 0⟩ Q E (Φ as j)
def outF (o : Out Fl) : OutF := match o with
  | .ok (.rt d) e => .ok d e.j
  | .ok .nx e => .ok .non e.j
  | .exn x e => .exn x e.j
  | _ => .bad
/-- n names, np of them parameters -/
def env0 (n : Nat) (as : List A) (j : List D) : Env := ⟨as.map A.s ++ List.replicate (n - as.length) .un, j⟩
def fnOf (n np : Nat) (g : M Fl) : Fn := fun as j => if as.length = np then outF (g (env0 n as j)) else .bad
section
variable {K : PySem.W.Frag} {cl : Str → Addr}
theorem ArgsOk.length {js : List Addr} {G : Hp} {as : List A} {vs : List V} (h : ArgsOk K cl js G as vs) : as.length = vs.length := by
  induction h with
  | nil => rfl
  | dat _ _ ih => simp [ih]
  | jar _ _ ih => simp [ih]
theorem ArgsOk.get {js : List Addr} {G : Hp} {as : List A} {vs : List V} (h : ArgsOk K cl js G as vs) : ∀ (i : Nat) (a : A), as[i]? = some a → ∃ v, vs[i]? = some v ∧ match a with
    | .dat d => Rep K cl G d v
    | .jar k => ∃ p, js[k]? = some p ∧ v = .ref p := by
  induction h with
  | nil => intro i a h; simp at h
  | @dat d v as vs r _ ih =>
    intro i a h
    cases i with
    | zero => simp at h; subst h; exact ⟨v, rfl, r⟩
    | succ i => exact ih i a (by simpa using h)
  | @jar k p as vs r _ ih =>
    intro i a h
    cases i with
    | zero => simp at h; subst h; exact ⟨_, rfl, p, r, rfl⟩
    | succ i => exact ih i a (by simpa using h)
/-- the state at the entry -/
theorem stt_start {H G : Hp} {js : List Addr} {as : List A} {j : List D} {vs : List V} {N : List Str} (gh : Same G H) (ao : ArgsOk K cl js G as vs) (jr : Jars K cl js H G j) : Stt K cl ⟨H, G, js, 0⟩ (env0 N.length as j) (L2.start N vs) H G := by
  have hl := ao.length
  refine ⟨⟨gh, .refl _, jr, fun a o h _ => h, fun a o _ h => h⟩, fun a ha hn => ?_, by simp [env0, L2.start, hl], fun i x h => ?_, fun i k d d' a h1 h2 h3 h4 => ?_⟩
  · obtain ⟨k, hk⟩ := List.getElem?_of_mem ha
    have hl : k < j.length := by rw [jr.len]; exact (List.getElem?_eq_some_iff.mp hk).1
    obtain ⟨_, q2⟩ := jr.at_ k a _ hk (List.getElem?_eq_getElem hl)
    obtain ⟨o, q3⟩ := q2.ex
    have hn : H a = none := hn
    rw [hn] at q3; cases q3
  · by_cases hi : i < as.length
    · have e1 : (env0 N.length as j).s[i]? = (as.map A.s)[i]? := List.getElem?_append_left (by simpa using hi)
      rw [e1, List.getElem?_map] at h
      obtain ⟨a, ha, rfl⟩ := Option.map_eq_some_iff.mp h
      obtain ⟨v, hv, r⟩ := ao.get i a ha
      have e2 : (L2.start N vs)[i]? = some (some v) := by
        unfold L2.start
        rw [List.getElem?_append_left (by simp; omega), List.getElem?_map, hv]; rfl
      cases a with
      | dat d => exact ⟨v, e2, r⟩
      | jar k => obtain ⟨p, hp, rfl⟩ := r; exact ⟨p, hp, e2⟩
    · have e1 : (env0 N.length as j).s[i]? = (List.replicate (N.length - as.length) S.un)[i - as.length]? := by
        unfold env0
        rw [List.getElem?_append_right (by simp; omega)]
        simp
      rw [e1] at h
      rw [List.getElem?_replicate] at h
      split at h
      · cases h; trivial
      · cases h
  · have no : ∀ {i : Nat} {d : D}, (env0 N.length as j).s[i]? = some (.own d) → False := fun {i d} h => by
      have hm := List.mem_of_getElem? h
      unfold env0 at hm
      rcases List.mem_append.mp
                                                                                                              hm with hm | hm
      · obtain ⟨a, _, e⟩ := List.mem_map.mp hm
        cases a <;> cases e
      · cases (List.mem_replicate.mp hm).2
    exact (no h1).elim
theorem PostFn.of {F : Fra} {Q : VK} {E : XK} {G : Hp} {o : Out Fl} (h : PostFn K cl F Q E (outF o)) : PostF K cl F (fun c d _ H => E c d H) { nx := fun _ H' => Q .non H', rt := Q } G o := by
  cases o with
  | ok fl e =>
    cases fl with
    | nx => exact fun σ' H' G' s g => h .non H' G' s.ret .non
    | rt d => exact fun v H' G' s r => h v H' G' s r
    | bk => exact h.elim
    | ct => exact h.elim
  | exn x e => exact fun cls dd σ' H' G' s z => h cls dd H' G' s.ret z
  | bad => exact h.elim
/-- THE RULE for a def -/
theorem fn_D {P : Program} {w : World} {mg : Str → Option Value} {base : Heap} {x qual : Str} {params : Arguments} {body : List Stmt} {scope : Scope} {kws : List (Str × V)} {dvs : List V} {f : Addr} {fd : FuncData} {N ps : List Str} {k : Nat} {g : M Fl}
    (Fn : FunD K x qual params body scope dvs kws f fd) (S : FnScope N ps scope)
    (hbody : ∀ (F : Fra) (cdv : Value) (A : Around) (outer : List PySem.Env) (s : Shared) (H : Hp) (E : XK), Room k (A.deeper (envOfC qual scope s.heap.objs.size f cdv)) →
      RSs (cxOf (L2N.CX P w) P w K mg base N qual scope f cdv A outer s H E) cl F (fun c d _ H => E c d H) body g) :
    FnOk P w K mg base (L2N.CX P w) (k + 1) f fd ps (spD K cl (fnOf N.length ps.length g)) := by
  refine FunD.ok Fn S (fun vs H Q E h => ?_) fun cdv A outer s H vs Q E hr h => ?_
  · obtain ⟨as, j, js, G, gh, ao, jr, q⟩ := h
    unfold fnOf at q
    split at q
    · rename_i hl; rw [← ao.length, hl]
    · exact q.elim
  · obtain ⟨as, j, js, G, gh, ao, jr, q⟩ := h
    refine ⟨_, (hbody ⟨H, G, js, 0⟩ cdv A outer s H E hr).pss, _, _, stt_start gh ao jr, ?_⟩
    unfold fnOf at q
    split at q
    · exact PostFn.of (K := K) q
    · exact q.elim
/-- a def's worth by a better known function -/
theorem FnOk.by {P : Program} {w : World} {mg : Str → Option Value} {base : Heap} {CX : CXT} {k : Nat} {f : Addr} {fd : FuncData} {ps : List Str} {Φ Ψ : Fn} (h : FnOk P w K mg base CX k f fd ps (spD K cl Φ)) (e : ∀ as j, Ψ as j ≠ .bad → Φ as j = Ψ as j) : FnOk P w K mg base CX k f fd ps (spD K cl Ψ) :=
  h.imp fun vs H Q E ⟨as, j, js, G, gh, ao, jr, q⟩ => ⟨as, j, js, G, gh, ao, jr, by
    rw [e as j fun z => by rw [z] at q; exact q]
    exact q⟩
end

/-! ### calls -/
theorem passN {X : Cx} {W : WX} (tk : L2N.Takes X W) (σ : L2.St) : PassesAt (L2N.CX X.prog X.w) X σ (fun c d H => W c d σ H) :=
  fun pins H s u s' I c => tk u s' (L2N.XE.of_call I (fun _ _ _ h => h) c)
def callO (e : Env) (o : OutF) : Out R := match o with
  | .ok d [] => .ok (.val d) e
  | .exn x [] => .exn x e
  | _ => .bad
/-- f(..), data alone -/
def cCall (Φ : Fn) (fs : M (List R)) : M R := fun e => (fs e).bnd fun rs e1 => match e1.frzs rs with
  | some (ds, e2) => callO e2 (Φ (ds.map A.dat) [])
  | none => .bad
/-- what slot i owns (or was lent) is now d -/
def Env.put (e : Env) (i : Nat) (d : D) : Option Env := match e.s[i]? with
  | some (.own _) => some (e.setS i (.own d))
  | some (.jar k) => some ⟨e.s, e.j.set k d⟩
  | _ => none
def outE {α : Type} (o : Option Env) (k : Env → Out α) : Out α := match o with
  | some e => k e
  | none => .bad
def callJ (e : Env) (i : Nat) (o : OutF) : Out R := match o with
  | .ok d [x] => outE (e.put i x) fun e' => .ok (.val d) e'
  | .exn y [x] => outE (e.put i x) fun e' => .exn y e'
  | _ => .bad
/-- f(jar, ..) -/
def cCallJ (Φ : Fn) (fs : M (List R)) : M R := fun e => (fs e).bnd fun rs e1 => match rs with
  | .whole i :: rs => (match e1.rd (.whole i), e1.frzs rs with
    | some x, some (ds, e2) => (match e2.rd (.whole i) with
      | some x => callJ e2 i (Φ (.jar 0 :: ds.map A.dat) [x])
      | none => .bad)
    | _, _ => .bad)
  | _ => .bad
section
variable {K : PySem.W.Frag} {cl : Str → Addr} {F : Fra} {e e' : Env} {σ : L2.St} {H G H' G' : Hp}
theorem argsOk_dat {js : List Addr} : ∀ {ds : List D} {vs : List V}, RepL K cl G ds vs → ArgsOk K cl js G (ds.map A.dat) vs
  | _, _, .nil => .nil
  | _, _, .cons r t => .dat r (argsOk_dat t)
/-- behind a call that was lent nothing -/
theorem Stt.called (st : Stt K cl F e σ H G) (r : Ret K cl ⟨H, G, [], 0⟩ H' G' []) : Stt K cl F e σ H' G' ∧ Kp F σ e H G e H' G' := by
  have hk : ∀ {a : Addr} {o : HO}, H a = some o → H' a = some o := fun {a o} q => r.fr a o q (by simp)
  have hg : ∀ {a : Addr} {o : HO}, H a = some o → G a = none → G' a = none := fun {a o} q n => r.fg a o q n
  obtain ⟨⟨gh, g0, jr, fr, fg⟩, jh, len, slot, inj⟩ := st
  refine ⟨⟨⟨r.gh, g0.trans r.g0, ⟨jr.len, jr.nd, fun k a d k1 k2 => ?_⟩, fun a o q hn => hk (fr a o q hn), fun a o q hn => ?_⟩, jh, len, fun i x hx => ?_, inj⟩, ⟨r.g0, fun a o q _ => ⟨hk q, fun n => hg q n⟩, fun i d h => ⟨d, h⟩⟩⟩
  · obtain ⟨q1, q2⟩ := jr.at_ k a d k1 k2
    obtain ⟨o, q3⟩ := q2.ex
    exact ⟨hg q3 q1, q2.mono (fun o q => hk q) r.g0⟩
  · by_cases hp : a ∈ F.js
    · obtain ⟨k, hk'⟩ := List.getElem?_of_mem hp
      have hl : k < e.j.length := by rw [jr.len]; exact (List.getElem?_eq_some_iff.mp hk').1
      obtain ⟨q1, q2⟩ := jr.at_ k a _ hk' (List.getElem?_eq_getElem hl)
      obtain ⟨o, q3⟩ := q2.ex
      exact hg q3 q1
    · exact hg (fr a o q hp) (fg a o q hn)
  · have z := slot i x hx
    cases x with
    | un => trivial
    | dat d => obtain ⟨v, z1, z2⟩ := z; exact ⟨v, z1, z2.mono r.g0⟩
    | own d =>
      obtain ⟨a, z1, z2, z3, z4⟩ := z
      obtain ⟨o, q3⟩ := z4.ex
      exact ⟨a, z1, hg q3 z2, z3, z4.mono (fun o q => hk q) r.g0⟩
    | jar k => exact z
    | ptr => exact z
/-- where slot i's object is, and what it is -/
theorem Stt.lent (st : Stt K cl F e σ H G) {i : Nat} {v : V} {d : D} (hs : σ[i]? = some (some v)) (hd : e.rd (.whole i) = some d) : ∃ a, v = .ref a ∧ G a = none ∧ Own K cl H G a d := by
  have hd : (match e.s[i]? with
    | some (.own d) => some d
    | some (.jar k) => e.j[k]?
    | _ => none) = some d := hd
  cases q : e.s[i]? with
  | none => rw [q] at hd; cases hd
  | some x =>
    rw [q] at hd
    have z := st.slot i x q
    cases x with
    | own d' =>
      cases hd
      obtain ⟨a, h1, h2, h3, h4⟩ := z
      rw [hs] at h1; cases h1
      exact ⟨a, rfl, h2, h4⟩
    | jar k =>
      obtain ⟨a, h1, h2⟩ := z
      rw [hs] at h2; cases h2
      obtain ⟨q1, q2⟩ := st.ret.jars.at_ k a d h1 hd
      exact ⟨a, rfl, q1, q2⟩
    | _ => cases hd
/-- behind a change of slot i's object alone (and new objects) -/
theorem Stt.calledJ (st : Stt K cl F e σ H G) {i : Nat} {a : Addr} {x : D} (hs : σ[i]? = some (some (.ref a))) (r : Ret K cl ⟨H, G, [a], 0⟩ H' G' [x]) (hp : e.put i x = some e') : Stt K cl F e' σ H' G' ∧ Kp F σ e H G e' H' G' := by
  have hk : ∀ {b : Addr} {o : HO}, b ≠ a → H b = some o → H' b = some o := fun {b o} n q => r.fr b o q (by simpa using n)
  have hg : ∀ {b : Addr} {o : HO}, H b = some o → G b = none → G' b = none := fun {b o} q n => r.fg b o q n
  obtain ⟨ga, oa⟩ := r.jars.at_ 0 a x rfl rfl
  have hp : (match e.s[i]? with
    | some (.own _) => some (e.setS i (.own x))
    | some (.jar k) => some (⟨e.s, e.j.set k x⟩ : Env)
    | _ => none) = some e' := hp
  cases q : e.s[i]? with
  | none => rw [q] at hp; cases hp
  | some y =>
    rw [q] at hp
    have zi := st.slot i y q
    cases y with
    | un => cases hp
    | ptr => cases hp
    | dat d => cases hp
    | own d0 =>
      cases hp
      obtain ⟨a', h1, h2, h3, h4⟩ := zi
      rw [hs] at h1; cases h1
      obtain ⟨⟨gh, g0, jr, fr, fg⟩, jh, len, slot, inj⟩ := st
      have aj : a ∉ F.js := fun hj => jh a hj h3
      have hset : ∀ {j : Nat} {y : S}, (e.setS i (.own x)).s[j]? = some y → (j = i ∧ y = .own x) ∨ (j ≠ i ∧ e.s[j]? = some y) := fun {j y} h => by
        by_cases hj : j = i
        · subst hj; rw [setS_same q] at h; cases h; exact .inl ⟨rfl, rfl⟩
        · rw [setS_ne hj] at h; exact .inr ⟨hj, h⟩
      have old : ∀ {j : Nat} {d : D}, (e.setS i (.own x)).s[j]? = some (.own d) → ∃ d', e.s[j]? = some (.own d') := fun {j d} h => by
        rcases hset h with ⟨rfl, _⟩ | ⟨_, h⟩
        · exact ⟨_, q⟩
        · exact ⟨_, h⟩
      refine ⟨⟨⟨r.gh, g0.trans r.g0, ⟨jr.len, jr.nd, fun k b d k1 k2 => ?_⟩, fun b o q' hn => ?_, fun b o q' hn => ?_⟩, jh, by simp [Env.setS, len], fun j y h => ?_, fun j k d d' b k1 k2 k3 k4 => ?_⟩, ⟨r.g0, fun b o q' l => ?_, fun j d h => old h⟩⟩
      · obtain ⟨q1, q2⟩ := jr.at_ k b d k1 k2
        obtain ⟨o, q3⟩ := q2.ex
        have nb : b ≠ a := fun z => aj (z ▸ List.mem_of_getElem? k1)
        exact ⟨hg q3 q1, q2.mono (fun o q => hk nb q) r.g0⟩
      · have nb : b ≠ a := fun z => by rw [z, h3] at q'; cases q'
        exact hk nb (fr b o q' hn)
      · by_cases hp : b ∈ F.js
        · obtain ⟨k, hk'⟩ := List.getElem?_of_mem hp
          have hl : k < e.j.length := by rw [jr.len]; exact (List.getElem?_eq_some_iff.mp hk').1
          obtain ⟨q1, q2⟩ := jr.at_ k b _ hk' (List.getElem?_eq_getElem hl)
          obtain ⟨o, q3⟩ := q2.ex
          exact hg q3 q1
        · exact hg (fr b o q' hp) (fg b o q' hn)
      · rcases hset h with ⟨rfl, rfl⟩ | ⟨hj, h⟩
        · exact ⟨a, hs, ga, h3, oa⟩
        · have z := slot j y h
          cases y with
          | un => trivial
          | dat d => obtain ⟨v, z1, z2⟩ := z; exact ⟨v, z1, z2.mono r.g0⟩
          | own d =>
            obtain ⟨b, z1, z2, z3, z4⟩ := z
            obtain ⟨o, q3⟩ := z4.ex
            have nb : b ≠ a := fun w => hj (inj j i _ _ a h q (w ▸ z1) hs)
            exact ⟨b, z1, hg q3 z2, z3, z4.mono (fun o q => hk nb q) r.g0⟩
          | jar k => exact z
          | ptr => exact z
      · obtain ⟨d1, k1⟩ := old k1
        obtain ⟨d2, k2⟩ := old k2
        exact inj j k d1 d2 b k1 k2 k3 k4
      · have nb : b ≠ a := fun w => l.2 i _ q (w ▸ hs)
        exact ⟨hk nb q', fun n => hg q' n⟩
    | jar k0 =>
      cases hp
      obtain ⟨a', h1, h2⟩ := zi
      rw [hs] at h2; cases h2
      obtain ⟨⟨gh, g0, jr, fr, fg⟩, jh, len, slot, inj⟩ := st
      have aj : a ∈ F.js := List.mem_of_getElem? h1
      have hl0 : k0 < e.j.length := by rw [jr.len]; exact (List.getElem?_eq_some_iff.mp h1).1
      refine ⟨⟨⟨r.gh, g0.trans r.g0, ⟨by simp [jr.len], jr.nd, fun k b d k1 k2 => ?_⟩, fun b o q' hn => ?_, fun b o q' hn => ?_⟩, jh, len, fun j y h => ?_, inj⟩, ⟨r.g0, fun b o q' l => ?_, fun j d h => ⟨d, h⟩⟩⟩
      · have k2 : (e.j.set k0 x)[k]? = some d := k2
        by_cases hk0 : k = k0
        · subst hk0
          rw [h1] at k1; cases k1
          rw [List.getElem?_set_self hl0] at k2; cases k2
          exact ⟨ga, oa⟩
        · rw [List.getElem?_set_ne (Ne.symm hk0)] at k2
          obtain ⟨q1, q2⟩ := jr.at_ k b d k1 k2
          obtain ⟨o, q3⟩ := q2.ex
          have nb : b ≠ a := fun z => hk0 (by
            subst z
            have i1 := (List.getElem?_eq_some_iff.mp k1)
            have i2 := (List.getElem?_eq_some_iff.mp h1)
            exact (List.getElem_inj jr.nd).mp (i1.2.trans i2.2.symm))
          exact ⟨hg q3 q1, q2.mono (fun o q => hk nb q) r.g0⟩
      · have nb : b ≠ a := fun z => hn (z ▸ aj)
        exact hk nb (fr b o q' hn)
      · by_cases hp : b ∈ F.js
        · obtain ⟨k, hk'⟩ := List.getElem?_of_mem hp
          have hl : k < e.j.length := by rw [jr.len]; exact (List.getElem?_eq_some_iff.mp hk').1
          obtain ⟨q1, q2⟩ := jr.at_ k b _ hk' (List.getElem?_eq_getElem hl)
          obtain ⟨o, q3⟩ := q2.ex
          exact hg q3 q1
        · exact hg (fr b o q' hp) (fg b o q' hn)
      · have z := slot j y h
        cases y with
        | un => trivial
        | dat d => obtain ⟨v, z1, z2⟩ := z; exact ⟨v, z1, z2.mono r.g0⟩
        | own d =>
          obtain ⟨b, z1, z2, z3, z4⟩ := z
          obtain ⟨o, q3⟩ := z4.ex
          have nb : b ≠ a := fun w => jh a aj (w ▸ z3)
          exact ⟨b, z1, hg q3 z2, z3, z4.mono (fun o q => hk nb q) r.g0⟩
        | jar k => exact z
        | ptr => exact z
      · have nb : b ≠ a := fun w => l.1 (w ▸ aj)
        exact ⟨hk nb q', fun n => hg q' n⟩
theorem ExcAt.mono {x : Exc} {cls : Value} {dd : Option Addr} {H G : Hp} (h : ExcAt K cl x cls dd H G) : ExcAt K cl x cls dd H G := h
end
section
variable {X : Cx} {cl : Str → Addr} {F : Fra} {W : WX}
theorem call_D {Φ : Fn} {fs : M (List R)} {σ : L2.St} {H : Hp} {Q : VK} (h : tD X.K cl F W (cCall Φ fs) σ H Q) : tA X.K cl F W fs σ H fun vs H1 => spD X.K cl Φ vs H1 Q (fun c d H => W c d σ H) := by
  obtain ⟨e, G, st, q⟩ := h
  refine tA_then st q fun rs e1 vs H1 G1 s1 k1 r1 z => ?_
  cases y : e1.frzs rs with
  | none => rw [y] at z; exact z.elim
  | some p =>
    obtain ⟨ds, e2⟩ := p
    rw [y] at z
    obtain ⟨G2, s2, k2, r2⟩ := frzs_ok s1 r1 y
    refine ⟨ds.map A.dat, [], [], G2, s2.ret.gh, argsOk_dat r2, ⟨rfl, List.nodup_nil, fun k a d h => by simp at h⟩, ?_⟩
    cases o : Φ (ds.map A.dat) [] with
    | bad => simp only [o] at z; exact z.elim
    | ok d j =>
      simp only [o] at z
      cases j with
      | cons => exact z.elim
      | nil =>
        intro v H' G' r rv
        obtain ⟨s3, k3⟩ := s2.called r
        exact z v H' G' s3 ((k1.trans k2).trans k3) rv
    | exn x j =>
      simp only [o] at z
      cases j with
      | cons => exact z.elim
      | nil =>
        intro cls dd H' G' r ex
        obtain ⟨s3, k3⟩ := s2.called r
        exact z cls dd H' G' s3 ex
theorem callJ_D {Φ : Fn} {fs : M (List R)} {σ : L2.St} {H : Hp} {Q : VK} (h : tD X.K cl F W (cCallJ Φ fs) σ H Q) : tA X.K cl F W fs σ H fun vs H1 => spD X.K cl Φ vs H1 Q (fun c d H => W c d σ H) := by
  obtain ⟨e, G, st, q⟩ := h
  refine tA_then st q fun rs e1 vs H1 G1 s1 k1 r1 z => ?_
  cases r1 with
  | nil => exact z.elim
  | @cons r v rs vs r0 rr =>
    cases r with
    | val d => exact z.elim
    | whole i =>
      have hs : σ[i]? = some (some v) := r0
      simp only at z
      cases y0 : e1.rd (.whole i) with
      | none => simp only [y0] at z; exact z.elim
      | some x0 =>
        cases y : e1.frzs rs with
        | none => simp only [y0, y] at z; exact z.elim
        | some p =>
          obtain ⟨ds, e2⟩ := p
          simp only [y0, y] at z
          obtain ⟨G2, s2, k2, r2⟩ := frzs_ok s1 rr y
          cases y1 : e2.rd (.whole i) with
          | none => simp only [y1] at z; exact z.elim
          | some x =>
            simp only [y1] at z
            obtain ⟨a, rfl, ga, oa⟩ := s2.lent hs y1
            refine ⟨.jar 0 :: ds.map A.dat, [x], [a], G2, s2.ret.gh, .jar rfl (argsOk_dat r2), ⟨rfl, by simp, fun k b d h1 h2 => ?_⟩, ?_⟩
            · cases k with
              | zero => cases h1; cases h2; exact ⟨ga, oa⟩
              | succ k => simp at h1
            · cases o : Φ (.jar 0 :: ds.map A.dat) [x] with
              | bad => rw [o] at z; exact z.elim
              | ok d j =>
                rw [o] at z
                match j, z, o with
                | [], z, o => exact z.elim
                | _ :: _ :: _, z, o => exact z.elim
                | [x'], z, o =>
                  intro v' H' G' r rv
                  cases hp : e2.put i x' with
                  | none => simp only [callJ, hp] at z; exact z.elim
                  | some e3 =>
                    simp only [callJ, hp] at z
                    obtain ⟨s3, k3⟩ := s2.calledJ hs r hp
                    exact z v' H' G' s3 ((k1.trans k2).trans k3) rv
              | exn ex j =>
                rw [o] at z
                match j, z, o with
                | [], z, o => exact z.elim
                | _ :: _ :: _, z, o => exact z.elim
                | [x'], z, o =>
                  intro cls dd H' G' r xa
                  cases hp : e2.put i x' with
                  | none => simp only [callJ, hp] at z; exact z.elim
                  | some e3 =>
                    simp only [callJ, hp] at z
                    obtain ⟨s3, k3⟩ := s2.calledJ hs r hp
                    exact z cls dd H' G' s3 xa
section
variable {k : Nat} {f : Addr} {fd : FuncData} {ps : List Str} {Φ : Fn} {x : Str} {p pos : Pos} {a : Expr} {es : List Expr} {fs : M (List R)}
theorem re_call (Fn : FnOk X.prog X.w X.K X.mg X.base (L2N.CX X.prog X.w) k f fd ps (spD X.K cl Φ)) (hr : Room k X.A) (tk : L2N.Takes X W) (hg : Gl X x) (hm : X.mg x = some (.ref f)) (hk : PySem.W.keepIn X.K (.ref f) = true) (hb : Binds X.K fd ps [])
    (ha : RA X cl F W (a :: es) fs) (hdb : (x == ("__debug__" : Str)) = false := by decide) (he : starEach (a :: es) X.env = (false, eval a X.env) :: starEach es X.env := by rfl) (hpl : (backTo pos (starEach es X.env)).any (·.1) = false := by rfl) :
    RE X cl F W (.Call (.Name x p) (a :: es) [] pos) (cCall Φ fs) :=
  ⟨PE.imp (pe_callS Fn hr hg hm hk hb (fun σ => passN tk σ) ha.pa hdb he hpl) fun σ H Q h => call_D h⟩
theorem re_callJ (Fn : FnOk X.prog X.w X.K X.mg X.base (L2N.CX X.prog X.w) k f fd ps (spD X.K cl Φ)) (hr : Room k X.A) (tk : L2N.Takes X W) (hg : Gl X x) (hm : X.mg x = some (.ref f)) (hk : PySem.W.keepIn X.K (.ref f) = true) (hb : Binds X.K fd ps [])
    (ha : RA X cl F W (a :: es) fs) (hdb : (x == ("__debug__" : Str)) = false := by decide) (he : starEach (a :: es) X.env = (false, eval a X.env) :: starEach es X.env := by rfl) (hpl : (backTo pos (starEach es X.env)).any (·.1) = false := by rfl) :
    RE X cl F W (.Call (.Name x p) (a :: es) [] pos) (cCallJ Φ fs) :=
  ⟨PE.imp (pe_callS Fn hr hg hm hk hb (fun σ => passN tk σ) ha.pa hdb he hpl) fun σ H Q h => callJ_D h⟩
end
end
end DL

namespace DL
open PySem L2 PySem.Spec PyProof.Rows

section
variable {X : Cx} {cl : Str → Addr} {F : Fra} {W : WX}
theorem topL1 {K : PySem.W.Frag} {H G : Hp} {d : D} {vs : List V} (h : TopL K cl H G [d] vs) : ∃ v, vs = [v] ∧ Top K cl H G d v := by
  cases h with
  | cons a t => cases t; exact ⟨_, rfl, a⟩
theorem topL2 {K : PySem.W.Frag} {H G : Hp} {d d' : D} {vs : List V} (h : TopL K cl H G [d, d'] vs) : ∃ v v', vs = [v, v'] ∧ Top K cl H G d v ∧ Top K cl H G d' v' := by
  cases h with
  | cons a t => cases t with
    | cons b t => cases t; exact ⟨_, _, rfl, a, b⟩
theorem call_lenRd {X : Cx} : CallR X (.builtin "len") (fun xs H Q => ∃ a kvs, xs = [V.ref a] ∧ Rd H a (.dK kvs) ∧ Q (.int kvs.length) H) := by
  intro pins s σ
                                                                                                              H xs us Q I r h
  obtain ⟨a, kvs,
                                                                                                              rfl, ha, q⟩ := h
  obtain ⟨u, rfl,
                                                                                                              ru⟩ := vals1 r
  cases ru
  exact d_len I ha fun t s' I' => ⟨.int kvs.length, H, I', ⟨t, rfl⟩, q⟩
def lenD : List D → Option D
  | [.lst l] => some (.int l.length)
  | [.tup l] => some (.int l.length)
  | [.scr l] => some (.int l.length)
  | [.str s] => if s.length ≤ sizeLine then some (.int s.length) else none
  | [.dct ks _] => some (.int ks.length)
  | _ => none
theorem cd_len : CallD X cl (.builtin "len") lenD := by
  refine ⟨_, (call_len.or call_lenRd), fun H G xs ds dz Q gh t e k => ?_⟩
  unfold lenD at e
  split at e
  · cases e
    obtain ⟨v, rfl, tv⟩ := topL1 t
    obtain ⟨a, vs, rfl, h1, r⟩ := tv.lst gh
    exact .inl ⟨_, _, rfl, .inl ⟨vs, SqL.of h1, r.length⟩, k _ H G .refl .int⟩
  · cases e
    obtain ⟨v, rfl, tv⟩ := topL1 t
    obtain ⟨a, vs, rfl, h1, r⟩ := tv.tup gh
    exact .inl ⟨_, _, rfl, .inr ⟨vs, h1, r.length⟩, k _ H G .refl .int⟩
  · cases e
    obtain ⟨v, rfl, tv⟩ := topL1 t
    obtain ⟨a, rfl, h1⟩ := tv.scr gh
    exact .inl ⟨_, _, rfl, .inl ⟨_, h1, by simp⟩, k _ H G .refl .int⟩
  · split at e
    · rename_i hl
      cases e
      obtain ⟨v, rfl, tv⟩ := topL1 t
      cases tv.str
      exact .inl ⟨_, _, rfl, ⟨hl, rfl⟩, k _ H G .refl .int⟩
    · cases e
  · rename_i ks l
    cases e
    obtain ⟨v, rfl, tv⟩ := topL1 t
    obtain ⟨a, vs, rfl, h1, hl, r⟩ := tv.dct gh
    refine .inr ⟨a, _, rfl, h1, ?_⟩
    have e1 : (ks.zip vs).length = ks.length := by rw [List.length_zip, ← hl, Nat.min_self]
    rw [e1]
    exact k _ H G .refl .int
  · cases e
def intFnD : List D → Option D
  | [.int i] => some (.int i)
  | [.bl b] => some (.int (if b then 1 else 0))
  | _ => none
theorem cd_int : CallD X cl (.type "int") intFnD := by
  refine ⟨_, call_int1, fun H G xs ds dz Q gh t e k => ?_⟩
  unfold intFnD at e
  split at e
  · cases e
    obtain ⟨v, rfl, tv⟩ := topL1 t
    cases tv.int
    exact .inl ⟨_, rfl, k _ H G .refl .int⟩
  · cases e
    obtain ⟨v, rfl, tv⟩ := topL1 t
    cases tv.bl
    exact .inr ⟨_, rfl, k _ H G .refl .int⟩
  · cases e
def absD : List D → Option D
  | [.int i] => some (.int (if i < 0 then -i else i))
  | _ => none
theorem cd_abs : CallD X cl (.builtin "abs") absD := by
  refine ⟨_, call_abs, fun H G xs ds dz Q gh t e k => ?_⟩
  unfold absD at e
  split at e
  · cases e
    obtain ⟨v, rfl, tv⟩ := topL1 t
    cases tv.int
    exact ⟨_, rfl, k _ H G .refl .int⟩
  · cases e
def min2D : List D → Option D
  | [.int i, .int j] => some (.int (if j < i then j else i))
  | _ => none
def max2D : List D → Option D
  | [.int i, .int j] => some (.int (if j > i then j else i))
  | _ => none
theorem cd_min2 (hc : X.calm = true) : CallD X cl (.builtin "min") min2D := by
  refine ⟨_, call_min2 hc, fun H G xs ds dz Q gh t e k => ?_⟩
  unfold min2D at e
  split at e
  · cases e
    obtain ⟨v, v', rfl, tv, tv'⟩ := topL2 t
    cases tv.int
    cases tv'.int
    exact ⟨_, _, rfl, k _ H G .refl .int⟩
  · cases e
theorem cd_max2 (hc : X.calm = true) : CallD X cl (.builtin "max") max2D := by
  refine ⟨_, call_max2 hc, fun H G xs ds dz Q gh t e k => ?_⟩
  unfold max2D at e
  split at e
  · cases e
    obtain ⟨v, v', rfl, tv, tv'⟩ := topL2 t
    cases tv.int
    cases tv'.int
    exact ⟨_, _, rfl, k _ H G .refl .int⟩
  · cases e
def listD : List D → Option D
  | [.lst l] => some (.lst l)
  | [.tup l] => some (.lst l)
  | _ => none
theorem cd_list : CallD X cl (.type "list") listD := by
  refine ⟨_, call_list_of, fun H G xs ds dz Q gh t e k => ?_⟩
  unfold listD at e
  split at e
  · cases e
    obtain ⟨v, rfl, tv⟩ := topL1 t
    obtain ⟨a, vs, rfl, h1, r⟩ := tv.lst gh
    exact ⟨_, vs, rfl, .inl (SqL.of h1), fun p hp => k _ _ _ (.lay .refl hp) (.lst upd_same (r.mono (same_upd (gh.free hp))))⟩
  · cases e
    obtain ⟨v, rfl, tv⟩ := topL1 t
    obtain ⟨a, vs, rfl, h1, r⟩ := tv.tup gh
    exact ⟨_, vs, rfl, .inr h1, fun p hp => k _ _ _ (.lay .refl hp) (.lst upd_same (r.mono (same_upd (gh.free hp))))⟩
  · cases e
def tupleD : List D → Option D
  | [.lst l] => some (.tup l)
  | [.tup l] => some (.tup l)
  | _ => none
theorem cd_tuple : CallD X cl (.type "tuple") tupleD := by
  refine ⟨_, call_tuple_of, fun H G xs ds dz Q gh t e k => ?_⟩
  unfold tupleD at e
  split at e
  · cases e
    obtain ⟨v, rfl, tv⟩ := topL1 t
    obtain ⟨a, vs, rfl, h1, r⟩ := tv.lst gh
    exact ⟨_, vs, rfl, .inl ⟨SqL.of h1, fun p hp => k _ _ _ (.lay .refl hp) (.tup (SqT.of upd_same) (r.mono (same_upd (gh.free hp))))⟩⟩
  · cases e
    obtain ⟨v, rfl, tv⟩ := topL1 t
    rcases tv with tv | ⟨_, _, _, tv⟩
    · have tv' := tv
      cases tv with
      | tup h1 r => exact ⟨_, _, rfl, .inr ⟨SqT.same gh h1, k _ H G .refl tv'⟩⟩
    · exact tv.elim
  · cases e
/-- the truth values of a list -/
def blsOf : List D → Option (List Bool)
  | [] => some []
  | .bl b :: r => (blsOf r).map (b :: ·)
  | _ :: _ => none
theorem blsOf_ok {K : PySem.W.Frag} {G : Hp} : ∀ {ds : List D} {bs : List Bool} {vs : List V}, blsOf ds = some bs → RepL K cl G ds vs → vs = bs.map V.bl
  | [], _, _, h, r => by cases h; cases r; rfl
  | .bl b :: ds, _, _, h, r => by
    obtain ⟨bs, h1, rfl⟩ := Option.map_eq_some_iff.mp h
    cases r with
    | cons r1 rr => cases r1; rw [blsOf_ok h1 rr]; rfl
  | .non :: _, _, _, h, _ | .int _ :: _, _, _, h, _ | .str _ :: _, _, _, h, _ | .tup _ :: _, _, _, h, _ | .lst _ :: _, _, _, h, _ | .dct _ _ :: _, _, _, h, _ | .dcT _ _ :: _, _, _, h, _ | .obj _ _ _ :: _, _, _, h, _ | .scr _ :: _, _, _, h, _ => by cases h
def allD : List D → Option D
  | [.lst l] => (blsOf l).map fun bs => .bl (bs.all id)
  | _ => none
def anyD : List D → Option D
  | [.lst l] => (blsOf l).map fun bs => .bl (bs.any id)
  | _ => none
theorem cd_all (hc : X.calm = true) : CallD X cl (.builtin "all") allD := by
  refine ⟨_, cr_all hc, fun H G xs ds dz Q gh t e k => ?_⟩
  unfold allD at e
  split at e
  · obtain ⟨bs, hb, rfl⟩ := Option.map_eq_some_iff.mp e
    obtain ⟨v, rfl, tv⟩ := topL1 t
    obtain ⟨a, vs, rfl, h1, r⟩ := tv.lst gh
    exact ⟨a, bs, rfl, by rw [← blsOf_ok hb r]; exact SqL.of h1, k _ H G .refl .bl⟩
  · cases e
theorem cd_any (hc : X.calm = true) : CallD X cl (.builtin "any") anyD := by
  refine ⟨_, cr_any hc, fun H G xs ds dz Q gh t e k => ?_⟩
  unfold anyD at e
  split at e
  · obtain ⟨bs, hb, rfl⟩ := Option.map_eq_some_iff.mp e
    obtain ⟨v, rfl, tv⟩ := topL1 t
    obtain ⟨a, vs, rfl, h1, r⟩ := tv.lst gh
    exact ⟨a, bs, rfl, by rw [← blsOf_ok hb r]; exact SqL.of h1, k _ H G .refl .bl⟩
  · cases e
def strFnD : List D → Option D
  | [.int i] => if i.natAbs.log2 < 1920 then some (.str (toString i)) else none
  | _ => none
theorem cd_strInt : CallD X cl (.type "str") strFnD := by
  refine ⟨_, call_str_int, fun H G xs ds dz Q gh t e k => ?_⟩
  unfold strFnD at e
  split at e
  · split at e
    · rename_i h
      cases e
      obtain ⟨v, rfl, tv⟩ := topL1 t
      cases tv.int
      exact ⟨_, rfl, h, k _ H G .refl .str⟩
    · cases e
  · cases e

/-! ### isinstance -/
/-- the built-in type of plain data -/
def tyN : D → Option String
  | .non => some "NoneType"
  | .bl _ => some "bool"
  | .int _ => some "int"
  | .str _ => some "str"
  | .tup _ => some "tuple"
  | .lst _ => some "list"
  | .scr _ => some "list"
  | .dct _ _ => some "dict"
  | .dcT _ _ => none
  | .obj _ _ _ => none
  | .tab _ => none
def isTy (a b : String) : Bool := a == b || (a == "bool" && b == "int")
/-- what K must say of the classes whose instances are asked -/
structure InsOk (K : PySem.W.Frag) (C : Addr) : Prop where
  cl : Cls K C
  ha : PySem.W.findIn K (.ref C) "__class__"
                                                                                                              = some (some (.builtin "object.__class__"))
  hn : PySem.W.specialIn K (.builtin "object.__class__")
                                                                                                              "__get__" = some (some (.builtin "getset_descriptor.__get__"))
  htk : PySem.W.takesIn K (.builtin
                                                                                                              "object.__class__") = some true
  hm : PySem.W.mroIn K C
                                                                                                              (.type "object") = some true
theorem Rep.tyX {K : PySem.W.Frag} {H : Hp} {d : D} {v : V} {n : String} (h : Rep K cl H d v) (e : tyN d = some n) : TyX K H v (.type n) := by
  cases h with
  | non => cases e; exact .base .non
  | bl => cases e; exact .base (.bl _)
  | int => cases e; exact .base (.int _)
  | str => cases e; exact .base (.str _)
  | tup h r =>
    cases e
    rcases h with (h | ⟨o, h⟩) | ⟨o, its, k, h1, h2, h3⟩
    · exact .base (.tup h)
    · exact .fTuple h
    · exact .kTuple h1 h2
  | lst h r => cases e; exact .base (.lst h)
  | scr h =>
    cases e
    rcases h with (h | ⟨o, h⟩) | ⟨o, its, k, h1, h2, h3⟩
    · exact .base (.lst h)
    · exact .base (.frz h)
    · exact .kList h1 h2
  | dct h l r =>
    cases e
    rcases h with h | ⟨o, h⟩
    · exact .base (.dK h)
    · exact .fDict h
  | dcT h l r => cases e
  | obj h l r => cases e
  | tab h => cases e
/-- isinstance(x, T), T a built-in type: fO: which classes' instances are asked besides -/
def isiTy (cs : List Str) (T : String) (d : D) : Option Bool := match d with
  | .obj c _ _ => if c ∈ cs then some false else none
  | d => (tyN d).map fun n => isTy n T
def kinds : List String := ["NoneType", "bool", "int", "str", "tuple", "list", "dict"]
theorem tyN_in {d : D} {n : String} (h : tyN d = some n) : n ∈ kinds := by
  cases d <;> simp only [tyN] at h <;> first | (cases h; decide) | cases h
theorem kinds_ty : ∀ T ∈ ["str", "int", "bool", "tuple", "list", "dict"], ∀ n ∈ kinds, kitB n T = some (isTy n T) := by decide +kernel
def cIsT (cs : List Str) (T : String) (f : M R) : M R := fun e => (f e).bnd fun r e1 => opt (((e1.rd r).bind (isiTy cs T)).map D.bl) e1
structure ClsX (K : PySem.W.Frag) (cl : Str → Addr) (cs : List Str) : Prop where
  ins : ∀ c ∈ cs, InsOk K (cl c)
  ty : ∀ c ∈ cs, ∀ T ∈ ["str", "int", "bool", "tuple", "list", "dict"], PySem.W.kitOne K (.ref (cl c)) (.type T) = some false
  no : ∀ c ∈ cs, ∀ n ∈ kinds, PySem.W.kitOne K (.type n) (.ref (cl c)) = some false
  own : ∀ c ∈ cs, ∀ c' ∈ cs, PySem.W.kitOne K (.ref (cl c)) (.ref (cl c')) = some (decide (c = c'))
theorem re_isT {a : Expr} {f : M R} {T : String} {x : Str} {p p2 pos : Pos} {cs : List Str} (hx : ClsX X.K cl cs) (h : RE X cl F W a f) (hg : Gl X "isinstance") (hm : X.mg "isinstance" = none) (hg2 : Gl X x) (hm2 : X.mg x = none) (hv : bootBuiltins x = some (.type T))
    (hT : T ∈ ["str", "int", "bool", "tuple", "list", "dict"]) (hn : x ≠ "__name__" := by decide) (hdb : (x == ("__debug__" : Str)) = false := by decide)
    (he : starEach [a, .Name x p2] X.env = (false, eval a X.env) :: starEach [.Name x p2] X.env := by rfl) (hpl : (backTo pos (starEach [.Name x p2] X.env)).any (·.1) = false := by rfl) :
    RE X cl F W (.Call (.Name "isinstance" p) [a, .Name x p2] [] pos) (cIsT cs T f) := by
  refine ⟨PE.imp (pe_callB call_isi hg hm (by decide +kernel) (pa_cons h.pe (pa_cons (pe_bltn (v := .ty T) hg2 hm2 hv rfl hn hdb) pa_nil) he) (by decide) (by decide) he hpl) fun σ H Q ⟨e, G, st, q⟩ => tD_then st q fun r e1 v H1 G1 s1 k1 r1 z => ?_⟩
  obtain ⟨dz, z1, z⟩ := post_opt z
  obtain ⟨b, hb, rfl⟩ := Option.map_eq_some_iff.mp z1
  obtain ⟨d, hd, hi⟩ := Option.bind_eq_some_iff.mp hb
  have rep := (s1.top r1 hd).rep s1.ret.gh
  have fin := z (.bl b) H1 G1 s1 k1 .bl
  cases d
  case obj c ns l =>
    simp only [isiTy] at hi
    split at hi
    · rename_i hc
      cases hi
      have i := hx.ins c hc
      cases rep with
      | obj h1 hl rl => exact ⟨_, _, _, _, false, rfl, .ty T, .base (.ins h1 i.cl i.ha i.hn i.htk i.hm), hx.ty c hc T hT, fin⟩
    · cases hi
  case dcT ks l => simp [isiTy, tyN] at hi
  case tab q => simp [isiTy, tyN] at hi
  all_goals
    simp only [isiTy, tyN, Option.map_some, Option.some.injEq] at hi
    subst hi
    exact ⟨_, _, _, _, _, rfl, .ty T, rep.tyX rfl, kit_ty (kinds_ty T hT _ (by decide)), fin⟩
/-- isinstance(x, C), C a class of the program -/
def isiC (cs : List Str) (C : Str) (d : D) : Option Bool := match d with
  | .obj c _ _ => if c ∈ cs then some (decide (c = C)) else none
  | .dcT _ _ => none
  | .tab _ => none
  | _ => some false
def cIsC (cs : List Str) (C : Str) (f : M R) : M R := fun e => (f e).bnd fun r e1 => opt (((e1.rd r).bind (isiC cs C)).map D.bl) e1
theorem re_isC {a : Expr} {f : M R} {x : Str} {p p2 pos : Pos} {cs : List Str} (hx : ClsX X.K cl cs) (hc : x ∈ cs) (h : RE X cl F W a f) (hg : Gl X "isinstance") (hm : X.mg "isinstance" = none) (hg2 : Gl X x) (hm2 : X.mg x = some (.ref (cl x)))
    (hdb : (x == ("__debug__" : Str)) = false := by decide)
    (he : starEach [a, .Name x p2] X.env = (false, eval a X.env) :: starEach [.Name x p2] X.env := by rfl) (hpl : (backTo pos (starEach [.Name x p2] X.env)).any (·.1) = false := by rfl) :
    RE X cl F W (.Call (.Name "isinstance" p) [a, .Name x p2] [] pos) (cIsC cs x f) := by
  refine ⟨PE.imp (pe_callB call_isi hg hm (by decide +kernel) (pa_cons h.pe (pa_cons (pe_glob (v := .ref (cl x)) hg2 hm2 rfl hdb) pa_nil) he) (by decide) (by decide) he hpl) fun σ H Q ⟨e, G, st, q⟩ => tD_then st q fun r e1 v H1 G1 s1 k1 r1 z => ?_⟩
  obtain ⟨dz, z1, z⟩ := post_opt z
  obtain ⟨b, hb, rfl⟩ := Option.map_eq_some_iff.mp z1
  obtain ⟨d, hd, hi⟩ := Option.bind_eq_some_iff.mp hb
  have rep := (s1.top r1 hd).rep s1.ret.gh
  have fin := z (.bl b) H1 G1 s1 k1 .bl
  cases d
  case obj c ns l =>
    simp only [isiC] at hi
    split at hi
    · rename_i hc'
      cases hi
      have i := hx.ins c hc'
      cases rep with
      | obj h1 hl rl => exact ⟨_, _, _, _, _, rfl, .own _, .base (.ins h1 i.cl i.ha i.hn i.htk i.hm), hx.own c hc' x hc, fin⟩
    · cases hi
  case dcT ks l => simp [isiC] at hi
  case tab q => simp [isiC] at hi
  all_goals
    simp only [isiC, Option.some.injEq] at hi
    subst hi
    exact ⟨_, _, _, _, _, rfl, .own _, rep.tyX rfl, hx.no x hc _ (by decide), fin⟩
end
end DL

namespace DL
open PySem L2 PySem.Spec PyProof.Rows

section
variable {K : PySem.W.Frag} {cl : Str → Addr} {F : Fra} {e e' : Env} {σ : L2.St} {H G H' G' : Hp}
/-- what slot i owns is changed -/
theorem Stt.put (st : Stt K cl F e σ H G) {i : Nat} {a : Addr} {x d : D} {o : HO} (hs : σ[i]? = some (some (.ref a))) (hd : e.rd (.whole i) = some d) (hp : e.put i x = some e') (ho : ∀ H', H' a = some o → Own K cl H' G a x) : Stt K cl F e' σ (upd H a o) G ∧ Kp F σ e H G e' (upd H a o) G := by
  obtain ⟨a', ea, ga, oa⟩ := st.lent hs hd
  cases ea
  refine st.calledJ hs ⟨fun b u q => ?_, .refl _, ⟨rfl, by simp, fun k b y h1 h2 => ?_⟩, fun b u q hn => ?_, fun b u _ g => g⟩ hp
  · have nb : b ≠ a := fun z => by rw [z, ga] at q; cases q
    rw [upd_ne nb]; exact st.ret.gh b u q
  · cases k with
    | zero => cases h1; cases h2; exact ⟨ga, ho _ upd_same⟩
    | succ k => simp at h1
  · have nb : b ≠ a := by simpa using hn
    rw [upd_ne nb]; exact q
theorem frz_rd {r : R} {d : D} (h : e.frz r = some (d, e')) : e.rd r = some d := by
  cases r with
  | val d' => cases h; rfl
  | whole i =>
    have h : (match e.s[i]? with
      | some (.own d) => some (d, e.setS i (.dat d))
      | _ => none) = some (d, e') := h
    cases q : e.s[i]? with
    | none => rw [q] at h; cases h
    | some y =>
      rw [q] at h
      cases y with
      | own d' =>
        cases h
        show (match e.s[i]? with
          | some (.own d) => some d
          | some (.jar k) => e.j[k]?
          | _ => none) = some d
        rw [q]
      | _ => cases h
end

/-! ### lists that a name owns: append, pop, a place stored -/
def isLst : Option D → Bool
  | some (.lst _) => true
  | _ => false
def appO (i : Nat) (o : Option (D × Env)) : Out R := match o with
  | some (d, e2) => (match e2.rd (.whole i) with
    | some (.lst l) => if l.length < sizeLine then outE (e2.put i (.lst (l ++ [d]))) fun e3 => .ok (.val .non) e3 else .bad
    | _ => .bad)
  | none => .bad
def cApp (i : Nat) (f : M R) : M R := fun e => if isLst (e.rd (.whole i)) then (f e).bnd fun r e1 => appO i (e1.frz r) else .bad
def cPop (i : Nat) : M R := fun e => match e.rd (.whole i) with
    | some (.lst l) => (match l.getLast? with
      | some d => outE (e.put i (.lst l.dropLast)) fun e3 => .ok (.val d) e3
      | none => .bad)
    | _ => .bad
section
variable {X : Cx} {cl : Str → Addr} {F : Fra} {W : WX}
theorem outE_ok {α : Type} {K : PySem.W.Frag} {σ : L2.St} {o : Option Env} {k : Env → Out α} {q : α → Env → Prop} (h : Post K cl F W σ (outE o k) q) : ∃ e, o = some e ∧ Post K cl F W σ (k e) q := by
  cases o with
  | some e => exact ⟨e, rfl, h⟩
  | none => exact h.elim
/-- slot i holds a reference, and what it owns or was lent -/
theorem Stt.ref_at {K : PySem.W.Frag} {e : Env} {σ : L2.St} {H G : Hp} (st : Stt K cl F e σ H G) {i : Nat} {d : D} (hd : e.rd (.whole i) = some d) : ∃ a, σ[i]? = some (some (.ref a)) ∧ Own K cl H G a d := by
  have hd' : (match e.s[i]? with
    | some (.own d) => some d
    | some (.jar k) => e.j[k]?
    | _ => none) = some d := hd
  cases q : e.s[i]? with
  | none => rw [q] at hd'; cases hd'
  | some y =>
    have z := st.slot i y q
    cases y with
    | un => rw [q] at hd'; cases hd'
    | dat d => rw [q] at hd'; cases hd'
    | own d' =>
      obtain ⟨a, h1, _⟩ := z
      obtain ⟨a', e1, _, o⟩ := st.lent h1 hd
      cases e1
      exact ⟨a, h1, o⟩
    | jar k =>
      obtain ⟨a, _, h1⟩ := z
      obtain ⟨a', e1, _, o⟩ := st.lent h1 hd
      cases e1
      exact ⟨a, h1, o⟩
    | ptr => rw [q] at hd'; cases hd'
theorem re_app (i : Nat) {x : Str} {a : Expr} {f : M R} {p apos cpos : Pos} (h : RE X cl F W a f) (hN : X.N[i]? = some x := by rfl) (hv : Vis X.env.scope x := by first | exact Or.inl rfl | exact Or.inr (Or.inl rfl) | exact Or.inr (Or.inr rfl)) (hd : (x == ("__debug__" : Str)) = false := by decide)
    (hcd : (x == ("__classdict__" : Str)) = false := by decide)
    (hbase : attributeBase (.Name x p) "append" X.env (eval (.Name x p) X.env) = eval (.Name x p) X.env := by rfl)
    (hfew : ((backTo cpos (starEach [a] X.env)).all (fun x => !x.1) && (backToKw cpos (keywordEach [] X.env)).all (fun x => x.1.isSome)
      && decide ([a].length + ([] : List Keyword).length + (if ([] : List Keyword).isEmpty then 0 else 1) < 30)) = true := by rfl)
    (hline : (apos.endLine == cpos.line) = true := by rfl) (hs : starEach [a] X.env = (false, eval a X.env) :: starEach [] X.env := by rfl) (hplain : (backTo cpos (starEach [] X.env)).any (·.1) = false := by rfl) :
    RE X cl F W (.Call (.Attribute (.Name x p) "append" apos) [a] [] cpos) (cApp i f) := by
  refine ⟨PE.imp (pe_bm PySem.F.plainAttrs_list PySem.F.slot_list_append PySem.F.type_list_append mt_append (pe_var hN hv hd hcd) (pa_cons h.pe pa_nil hs) hbase hfew hline hs hplain) fun σ H Q ⟨e, G, st, q⟩ => ?_⟩
  unfold cApp at q
  split at q
  · rename_i hl
    cases h0 : e.rd (.whole i) with
    | none => rw [h0] at hl; cases hl
    | some d0 =>
      obtain ⟨a0, hs0, o0⟩ := st.ref_at h0
      cases d0 with
      | lst l0 =>
        obtain ⟨us0, hu0, _⟩ := o0
        refine ⟨_, hs0, .inl ⟨rfl, us0, SqL.of hu0⟩, tD_then st q fun r e1 v H1 G1 s1 k1 r1 z => ?_⟩
        cases y : e1.frz r with
        | none => rw [y] at z; exact z.elim
        | some p =>
          obtain ⟨dv, e2⟩ := p
          rw [y] at z
          obtain ⟨G2, s2, k2, r2⟩ := frz_ok s1 r1 y
          simp only [appO] at z
          cases h2 : e2.rd (.whole i) with
          | none => rw [h2] at z; exact z.elim
          | some d2 =>
            rw [h2] at z
            cases d2 with
            | lst l =>
              simp only at z
              split at z
              · rename_i hz
                obtain ⟨e3, hp, z⟩ := outE_ok z
                obtain ⟨a2, hs2, us, hu, ru⟩ := s2.ref_at h2
                rw [hs0] at hs2; cases hs2
                refine ⟨a0, us, v, rfl, rfl, hu, by rw [← ru.length]; exact hz, ?_⟩
                obtain ⟨s3, k3⟩ := s2.put (o := .lst (us ++ [v])) hs0 h2 hp fun H' h => ⟨us ++ [v], h, ru.append (.cons r2 .nil)⟩
                exact z _ _ _ s3 ((k1.trans k2).trans k3) .non
              · exact z.elim
            | _ => exact z.elim
      | _ => rw [h0] at hl; cases hl
  · exact q.elim
theorem RepL.last {K : PySem.W.Frag} {G : Hp} {ds : List D} {vs : List V} {d : D} (r : RepL K cl G ds vs) (h : ds.getLast? = some d) : ∃ v, vs[vs.length - 1]? = some v ∧ Rep K cl G d v := by
  rw [List.getLast?_eq_getElem?] at h
  obtain ⟨v, h1, h2⟩ := r.getD h
  rw [r.length] at h1
  exact ⟨v, h1, h2⟩
theorem re_pop (i : Nat) {x : Str} {p apos cpos : Pos} (hN : X.N[i]? = some x := by rfl) (hv : Vis X.env.scope x := by first | exact Or.inl rfl | exact Or.inr (Or.inl rfl) | exact Or.inr (Or.inr rfl)) (hd : (x == ("__debug__" : Str)) = false := by decide)
    (hcd : (x == ("__classdict__" : Str)) = false := by decide)
    (hbase : attributeBase (.Name x p) "pop" X.env (eval (.Name x p) X.env) = eval (.Name x p) X.env := by rfl) (hline : (apos.endLine == cpos.line) = true := by rfl) :
    RE X cl F W (.Call (.Attribute (.Name x p) "pop" apos) [] [] cpos) (cPop i) := by
  refine ⟨PE.imp (pe_bm0 PySem.F.plainAttrs_list PySem.F.slot_list_pop PySem.F.type_list_pop mt_pop (pe_var hN hv hd hcd) hbase hline) fun σ H Q ⟨e, G, st, q⟩ => ?_⟩
  unfold cPop at q
  cases h0 : e.rd (.whole i) with
  | none => rw [h0] at q; exact q.elim
  | some d0 =>
    rw [h0] at q
    obtain ⟨a0, hs0, o0⟩ := st.ref_at h0
    cases d0 with
    | lst l =>
      simp only at q
      obtain ⟨us, hu, ru⟩ := o0
      cases hl : l.getLast? with
      | none => simp only [hl] at q; exact q.elim
      | some d =>
        simp only [hl] at q
        obtain ⟨e3, hp, z⟩ := outE_ok q
        obtain ⟨v, hv, rv⟩ := ru.last hl
        obtain ⟨s3, k3⟩ := st.put (o := .lst us.dropLast) hs0 h0 hp fun H' h => ⟨us.dropLast, h, ru.dropLast⟩
        exact ⟨_, hs0, .inl ⟨rfl, us, SqL.of hu⟩, a0, us, v, rfl, rfl, hu, hv, z v _ _ s3 k3 rv⟩
    | _ => exact q.elim
/-- x[k] = e, x a name -/
def setO (i : Nat) (k : Int) (d : D) (e : Env) : Out Fl := match e.rd (.whole i) with
  | some (.lst l) => (match ixN l.length k with
    | some j => outE (e.put i (.lst (l.set j d))) fun e3 => .ok .nx e3
    | none => .bad)
  | _ => .bad
def setK (i : Nat) (d : D) (rk : R) (e : Env) : Out Fl := match rk with
  | .val (.int k) => setO i k d e
  | _ => .bad
def setV (i : Nat) (fk : M R) (o : Option (D × Env)) : Out Fl := match o with
  | some (d, e2) => if isLst (e2.rd (.whole i)) then (fk e2).bnd fun rk e3 => setK i d rk e3 else .bad
  | none => .bad
def sSetIx (i : Nat) (fk fv : M R) : M Fl := fun e => (fv e).bnd fun r e1 => setV i fk (e1.frz r)
theorem rs_setIx (i : Nat) {x : Str} {a b : Expr} {fk fv : M R} {p pos pos' : Pos} (hk : RE X cl F W a fk) (hv : RE X cl F W b fv) (hN : X.N[i]? = some x := by rfl) (hvis : Vis X.env.scope x := by first | exact Or.inl rfl | exact Or.inr (Or.inl rfl) | exact Or.inr (Or.inr rfl)) (hd : (x == ("__debug__" : Str)) = false := by decide)
    (hcd : (x == ("__classdict__" : Str)) = false := by decide)
    (ha : ∀ v, assign (.Subscript (.Name x p) a pos') X.env v = (do
      let ov ← holding [v] (eval (.Name x p) X.env)
      let iv ← holding [v, ov] (eval a X.env)
      standAt pos'
      holding [v, ov, iv]
                                                                                                              (setItem ov iv v)
      release [v, ov, iv] []) := by intro _; rfl)
    (hs : swapsWithSole [.Subscript (.Name x p) a pos'] b pos.line X.env = pure false := by rfl) (hw : swappedStores [.Subscript (.Name x p) a pos'] b X.env = pure none := by rfl)
    (h1 : (assignEach [.Subscript (.Name x p) a pos'] X.env).map (·.2) = [assign (.Subscript (.Name x p) a pos') X.env] := by rfl) :
    RS X cl F W (.Assign [.Subscript (.Name x p) a pos'] b pos) (sSetIx i fk fv) := by
  refine ⟨PS.imp (ps_asg hv.pe (pg_sub (pe_var hN hvis hd hcd) hk.pe set_list ha) hs hw h1) fun D σ H ⟨e, G, st, q⟩ => tD_st st q fun r e1 v H1 G1 s1 k1 r1 z => ?_⟩
  cases y : e1.frz r with
  | none => rw [y] at z; exact z.elim
  | some p =>
    obtain ⟨dv, e2⟩ := p
    rw [y] at z
    obtain ⟨G2, s2, k2, r2⟩ := frz_ok s1 r1 y
    simp only [setV] at z
    split at z
    · rename_i hl
      cases h0 : e2.rd (.whole i) with
      | none => rw [h0] at hl; cases hl
      | some d0 =>
        obtain ⟨a0, hs0, o0⟩ := s2.ref_at h0
        refine ⟨_, hs0, tD_st s2 (z.mono k2.gg) fun rk e3 vk H3 G3 s3 k3 r3 z => ?_⟩
        cases rk with
        | whole j => exact z.elim
        | val dk =>
          cases dk with
          | int k =>
            cases r3
            simp only [setK, setO] at z
            cases h3 : e3.rd (.whole i) with
            | none => rw [h3] at z; exact z.elim
            | some d3 =>
              rw [h3] at z
              cases d3 with
              | lst l =>
                simp only at z
                obtain ⟨a3, hs3, us, hu, ru⟩ := s3.ref_at h3
                rw [hs0] at hs3; cases hs3
                cases hj : ixN l.length k with
                | none => simp only [hj] at z; exact z.elim
                | some j =>
                  simp only [hj] at z
                  cases hp : e3.put i (.lst (l.set j dv)) with
                  | none => rw [hp] at z; exact z.elim
                  | some e4 =>
                    rw [hp] at z
                    have r4 := r2.mono k3.gg
                    obtain ⟨s4, k4⟩ := s3.put (o := .lst (us.set j v)) hs0 h3 hp fun H' h => ⟨us.set j v, h, RepL.set r4 j ru⟩
                    refine ⟨a0, us, k, j, rfl, rfl, hu, by rw [← ru.length]; exact hj, ?_⟩
                    exact z σ _ _ s4 (.refl _)
              | _ => exact z.elim
          | _ => exact z.elim
    · exact z.elim

/-! ### new lists that a name is to own -/
def tFr (K : PySem.W.Frag) (cl : Str → Addr) (F : Fra) (W : WX) (f : M D) : TE := fun σ H Q => ∃ e G, Stt K cl F e σ H G ∧ Post K cl F W σ (f e) fun d e' => ∀ a H' G', Stt K cl F e' σ H' G' → Kp F σ e H G e' H' G' → Own K cl H' G' a d → G' a = none → F.H0 a = none → Loose F e' σ a →
  (∀ b o, H b = some o → Loose F e σ b → b ≠ a) → Q (.ref a) H'
structure RF (X : Cx) (cl : Str → Addr) (F : Fra) (W : WX) (x : Expr) (f : M D) : Prop where
  pe : PE X x (tFr X.K cl F W f)
/-- behind a new object -/
theorem Stt.new {K : PySem.W.Frag} {e e1 : Env} {σ : L2.St} {H G H1 G1 : Hp} {p : Addr} {o : HO} (s1 : Stt K cl F e1 σ H1 G1) (k : Kp F σ e H G e1 H1 G1) (hp : H1 p = none) :
    Stt K cl F e1 σ (upd H1 p o) G1 ∧ Kp F σ e H G e1 (upd H1 p o) G1 ∧ G1 p = none ∧ F.H0 p = none ∧ Loose F e1 σ p ∧ ∀ b u, H b = some u → Loose F e σ b → b ≠ p := by
  obtain ⟨l, h0⟩ := s1.fresh hp
  refine ⟨s1.layL hp, k.trans ⟨.refl _, fun b u q _ => ⟨by rw [upd_ne (ne_of_none q hp)]; exact q, fun g => g⟩, fun i d h => ⟨d, h⟩⟩, s1.ret.gh.free hp, h0, l, fun b u q lb => ?_⟩
  obtain ⟨q1, _⟩ := k.kp b u q lb
  exact ne_of_none q1 hp
def fLst (f : M (List R)) : M D := fun e => (f e).bnd fun rs e1 => match e1.frzs rs with
  | some (ds, e2) => if ds.length ≤ sizeLine then .ok (.lst ds) e2 else .bad
  | none => .bad
theorem rf_lst {xs : List Expr} {f : M (List R)} {pos} (h : RA X cl F W xs f) : RF X cl F W (.List xs pos) (fLst f) := by
  refine ⟨PE.imp (pe_lst h.pa) fun σ H Q ⟨e, G, st, q⟩ => tA_then st q fun rs e1 vs H1 G1 s1 k1 r1 z => ?_⟩
  cases y : e1.frzs rs with
  | none => rw [y] at z; exact z.elim
  | some p =>
    obtain ⟨ds, e2⟩ := p
    rw [y] at z
    obtain ⟨G2, s2, k2, r2⟩ := frzs_ok s1 r1 y
    by_cases hz : ds.length ≤ sizeLine
    · simp only [hz, if_true] at z
      refine ⟨by rw [← r2.length]; exact hz, fun p hp => ?_⟩
      obtain ⟨a1, a2, a3, a4, a5, a6⟩ := s2.new (o := .lst vs) (k1.trans k2) hp
      exact z p _ G2 a1 a2 ⟨vs, upd_same, r2⟩ a3 a4 a5 a6
    · simp only [hz, if_false] at z; exact z.elim
def fAddO (a b : Option D) (e : Env) : Out D := match a, b with
  | some (.lst x), some (.lst y) => if x.length + y.length ≤ sizeLine then .ok (.lst (x ++ y)) e else .bad
  | _, _ => .bad
def fAdd (fa fb : M R) : M D := fun e => (fa e).bnd fun x e1 => (fb e1).bnd fun y e2 => fAddO (e2.rd x) (e2.rd y) e2
theorem rf_add {a b : Expr} {fa fb : M R} {pos : Pos} (ha : RE X cl F W a fa) (hb : RE X cl F W b fb) : RF X cl F W (.BinOp a .Add b pos) (fAdd fa fb) := by
  refine ⟨PE.imp (pe_op op_cat ha.pe hb.pe) fun σ H Q ⟨e, G, st, q⟩ => tD_then st q fun x e1 v1 H1 G1 s1 k1 r1 z => tD_then s1 z fun y e2 v2 H2 G2 s2 k2 r2 z => ?_⟩
  simp only [fAddO] at z
  split at z
  · rename_i x' y' hx hy
    split at z
    · rename_i hz
      obtain ⟨p1, u1, rfl, h1, q1⟩ := (s2.top (r1.mono k2.gg) hx).lst s2.ret.gh
      obtain ⟨p2, u2, rfl, h2, q2⟩ := (s2.top r2 hy).lst s2.ret.gh
      refine ⟨p1, p2, u1, u2, rfl, rfl, h1, h2, by rw [← q1.length, ← q2.length]; exact hz, fun p hp => ?_⟩
      obtain ⟨a1, a2, a3, a4, a5, a6⟩ := s2.new (o := .lst (u1 ++ u2)) (k1.trans k2) hp
      exact z p _ G2 a1 a2 ⟨u1 ++ u2, upd_same, q1.append q2⟩ a3 a4 a5 a6
    · exact z.elim
  · exact z.elim
def fListO (a : Option D) (e : Env) : Out D := match a with
  | some (.lst x) => .ok (.lst x) e
  | some (.tup x) => .ok (.lst x) e
  | _ => .bad
def fList (fs : M (List R)) : M D := fun e => (fs e).bnd fun rs e1 => match rs with
  | [r] => fListO (e1.rd r) e1
  | _ => .bad
theorem rf_list {x : Str} {p pos : Pos} {a : Expr} {es : List Expr} {fs : M (List R)} (hg : Gl X x) (hm : X.mg x = none) (hv : bootBuiltins x = some (.type "list")) (ha : RA X cl F W (a :: es) fs)
    (hn : x ≠ "__name__" := by decide) (hdb : (x == ("__debug__" : Str)) = false := by decide) (he : starEach (a :: es) X.env = (false, eval a X.env) :: starEach es X.env := by rfl) (hpl : (backTo pos (starEach es X.env)).any (·.1) = false := by rfl) :
    RF X cl F W (.Call (.Name x p) (a :: es) [] pos) (fList fs) := by
  refine ⟨PE.imp (pe_callTy call_list_of hg hm hv ha.pa hn hdb he hpl) fun σ H Q ⟨e, G, st, q⟩ => tA_then st q fun rs e1 vs H1 G1 s1 k1 r1 z => ?_⟩
  match rs, r1, z with
  | [], _, z => exact z.elim
  | _ :: _ :: _, _, z => exact z.elim
  | [r], .cons (v := v) rr .nil, z =>
    cases hd : e1.rd r with
    | none => simp only [fListO, hd] at z; exact z.elim
    | some d =>
      simp only [fListO, hd] at z
      have t := s1.top rr hd
      cases d with
      | lst l =>
        obtain ⟨p1, u1, rfl, h1, q1⟩ := t.lst s1.ret.gh
        refine ⟨p1, u1, rfl, .inl (SqL.of h1), fun p hp => ?_⟩
        obtain ⟨a1, a2, a3, a4, a5, a6⟩ := s1.new (o := .lst u1) k1 hp
        exact z p _ G1 a1 a2 ⟨u1, upd_same, q1⟩ a3 a4 a5 a6
      | tup l =>
        obtain ⟨p1, u1, rfl, h1, q1⟩ := t.tup s1.ret.gh
        refine ⟨p1, u1, rfl, .inr h1, fun p hp => ?_⟩
        obtain ⟨a1, a2, a3, a4, a5, a6⟩ := s1.new (o := .lst u1) k1 hp
        exact z p _ G1 a1 a2 ⟨u1, upd_same, q1⟩ a3 a4 a5 a6
      | _ => exact z.elim
/-- slot i is to own what stands at a -/
theorem Stt.setOwn {K : PySem.W.Frag} {e : Env} {σ : L2.St} {H G : Hp} {i : Nat} {d : D} {a : Addr} (st : Stt K cl F e σ H G) (o : Own K cl H G a d) (g : G a = none) (h0 : F.H0 a = none) (l : Loose F e σ a) : Stt K cl F (e.setS i (.own d)) (σ.set i (some (.ref a))) H G := by
  obtain ⟨ret, jh, len, slot, inj⟩ := st
  have hset : ∀ {j : Nat} {x : S}, (e.setS i (.own d)).s[j]? = some x → (j = i ∧ i < e.s.length ∧ x = .own d) ∨ (j ≠ i ∧ e.s[j]? = some x) := fun {j x} h => by
    by_cases hj : j = i
    · subst hj
      have hl : j < (e.setS j (.own d)).s.length := (List.getElem?_eq_some_iff.mp h).1
      have hl' : j < e.s.length := by simpa [Env.setS] using hl
      have z : (e.setS j (.own d)).s[j]? = some (.own d) := List.getElem?_set_self hl'
      rw [z] at h; cases h; exact .inl ⟨rfl, hl', rfl⟩
    · rw [setS_ne hj] at h; exact .inr ⟨hj, h⟩
  have hσ : ∀ {j : Nat}, j ≠ i → (σ.set i (some (.ref a)))[j]? = σ[j]? := fun hj => List.getElem?_set_ne (Ne.symm hj)
  have hσi : i < e.s.length → (σ.set i (some (.ref a)))[i]? = some (some (.ref a)) := fun hl => List.getElem?_set_self (by rw [len]; exact hl)
  refine ⟨ret, jh, by simp [Env.setS, len], fun j x h => ?_, fun j k d1 d2 p k1 k2 k3 k4 => ?_⟩
  · rcases hset h with ⟨rfl, hl, rfl⟩ | ⟨hj, h⟩
    · exact ⟨a, hσi hl, g, h0, o⟩
    · have z := slot j x h
      cases x with
      | un => trivial
      | dat d1 => obtain ⟨v1, z1, z2⟩ := z; exact ⟨v1, by rw [hσ hj]; exact z1, z2⟩
      | own d1 => obtain ⟨p, z1, z2, z3, z4⟩ := z; exact ⟨p, by rw [hσ hj]; exact z1, z2, z3, z4⟩
      | jar k => obtain ⟨p, z1, z2⟩ := z; exact ⟨p, z1, by rw [hσ hj]; exact z2⟩
      | ptr => exact (hσ hj).trans z
  · rcases hset k1 with ⟨e1, hl, _⟩ | ⟨h1, q1⟩
    · rcases hset k2 with ⟨e2, _, _⟩ | ⟨h2, q2⟩
      · rw [e1, e2]
      · rw [e1, hσi hl] at k3; cases k3
        rw [hσ h2] at k4
        exact absurd k4 (l.2 k d2 q2)
    · rcases hset k2 with ⟨e2, hl, _⟩ | ⟨h2, q2⟩
      · rw [e2, hσi hl] at k4; cases k4
        rw [hσ h1] at k3
        exact absurd k3 (l.2 j d1 q1)
      · rw [hσ h1] at k3; rw [hσ h2] at k4; exact inj j k d1 d2 p q1 q2 k3 k4
def sOwn (i : Nat) (f : M D) : M Fl := fun e => (f e).bnd fun d e1 => .ok .nx (e1.setS i (.own d))
theorem tFr_st {K : PySem.W.Frag} {fa : M D} {k : D → Env → Out Fl} {σ : L2.St} {H G : Hp} {e : Env} {En : Ends} {Q : VK} (st : Stt K cl F e σ H G) (h : PostF K cl F W En G ((fa e).bnd k))
    (c : ∀ d e1 a H1 G1, Stt K cl F e1 σ H1 G1 → Kp F σ e H G e1 H1 G1 → Own K cl H1 G1 a d → G1 a = none → F.H0 a = none → Loose F e1 σ a → (∀ b o, H b = some o → Loose F e σ b → b ≠ a) → PostF K cl F W En G1 (k d e1) → Q (.ref a) H1) : tFr K cl F W fa σ H Q := by
  refine ⟨e, G, st, ?_⟩
  cases q : fa e with
  | ok r e1 =>
    rw [q] at h
    exact fun a H1 G1 s1 k1 o g h0 l n => c r e1 a H1 G1 s1 k1 o g h0 l n (PostF.mono (o := k r e1) h k1.gg)
  | exn x e1 => rw [q] at h; exact Xn.of h
  | bad => rw [q] at h; exact h
theorem rs_own {i : Nat} {x : Str} {a : Expr} {f : M D} {pos pos' : Pos} (hN : X.N.Nodup) (h : RF X cl F W a f) (hi : X.N[i]? = some x := by rfl) (hx : Loc X.env.scope x := by first | exact Or.inl rfl | exact Or.inr rfl)
    (hs : swapsWith a (some (.Name x pos')) pos.line X.env = pure false := by rfl) (hf : X.fn x = true ∨ X.env.scope.names.lookup x = some .local := by first | exact .inl rfl | exact .inr rfl) : RS X cl F W (.Assign [.Name x pos'] a pos) (sOwn i f) := by
  refine ⟨PS.imp (ps_set hN hi hx h.pe hs hf) fun D σ H ⟨e, G, st, q⟩ => tFr_st st q fun d e1 a H1 G1 s1 k1 o g h0 l n z => ?_⟩
  exact z _ H1 G1 (s1.setOwn o g h0 l) (.refl _)

/-! ### a, b = x, y -/
inductive P where
  | v (d : D) | n (d : D)
def PRel (K : PySem.W.Frag) (cl : Str → Addr) (F : Fra) (σ : L2.St) (e : Env) (H G : Hp) : P → V → Prop
  | .v d, u => Rep K cl G d u
  | .n d, u => ∃ a, u = .ref a ∧ Own K cl H G a d ∧ G a = none ∧ F.H0 a = none ∧ Loose F e σ a
def tP (K : PySem.W.Frag) (cl : Str → Addr) (F : Fra) (W : WX) (f : M P) : TE := fun σ H Q => ∃ e G, Stt K cl F e σ H G ∧ Post K cl F W σ (f e) fun p e' => ∀ u H' G', Stt K cl F e' σ H' G' → Kp F σ e H G e' H' G' → PRel K cl F σ e' H' G' p u →
  (∀ d, p = .n d → ∀ b o, H b = some o → Loose F e σ b → u ≠ .ref b) → Q u H'
structure RP (X : Cx) (cl : Str → Addr) (F : Fra) (W : WX) (x : Expr) (f : M P) : Prop where
  pe : PE X x (tP X.K cl F W f)
def pFrz (o : Option (D × Env)) : Out P := match o with
  | some (d, e) => .ok (.v d) e
  | none => .bad
def pV (f : M R) : M P := fun e => (f e).bnd fun r e1 => pFrz (e1.frz r)
def pN (f : M D) : M P := fun e => (f e).bnd fun d e1 => .ok (.n d) e1
theorem rp_v {x : Expr} {f : M R} (h : RE X cl F W x f) : RP X cl F W x (pV f) := by
  refine ⟨PE.imp h.pe fun σ H Q ⟨e, G, st, q⟩ => tD_then st q fun r e1 v H1 G1 s1 k1 r1 z => ?_⟩
  cases y : e1.frz r with
  | none => rw [y] at z; exact z.elim
  | some p =>
    obtain ⟨dv, e2⟩ := p
    rw [y] at z
    obtain ⟨G2, s2, k2, r2⟩ := frz_ok s1 r1 y
    exact z v H1 G2 s2 (k1.trans k2) r2 (fun d h => by cases h)
theorem rp_n {x : Expr} {f : M D} (h : RF X cl F W x f) : RP X cl F W x (pN f) := by
  refine ⟨PE.imp h.pe fun σ H Q ⟨e, G, st, q⟩ => ⟨e, G, st, post_imp (post_bnd q) fun d e1 z a H1 G1 s1 k1 o g h0 l n => ?_⟩⟩
  exact z (.ref a) H1 G1 s1 k1 ⟨a, rfl, o, g, h0, l⟩ fun _ _ b u q lb z => n b u q lb (by cases z; rfl)
def P.s : P → S
  | .v d => .dat d
  | .n d => .own d
def sPar (i j : Nat) (f g : M P) : M Fl := fun e => (f e).bnd fun p e1 => (g e1).bnd fun q e2 => .ok .nx ((e2.setS i p.s).setS j q.s)
theorem PRel.mono {K : PySem.W.Frag} {σ : L2.St} {e e' : Env} {H G H' G' : Hp} {p : P} {u : V} (h : PRel K cl F σ e H G p u) (k : Kp F σ e H G e' H' G') : PRel K cl F σ e' H' G' p u := by
  cases p with
  | v d => exact Rep.mono k.gg h
  | n d =>
    obtain ⟨a, h1, h2, h3, h4, h5⟩ := h
    obtain ⟨o, q⟩ := h2.ex
    obtain ⟨q1, q2⟩ := k.kp a o q h5
    exact ⟨a, h1, h2.mono (fun u z => (k.kp a u z h5).1) k.gg, q2 h3, h4, k.loose h5⟩
theorem Stt.setP {K : PySem.W.Frag} {σ : L2.St} {e : Env} {H G : Hp} {p : P} {u : V} (st : Stt K cl F e σ H G) (h : PRel K cl F σ e H G p u) (i : Nat) : Stt K cl F (e.setS i p.s) (σ.set i (some u)) H G := by
  cases p with
  | v d => exact st.set h
  | n d => obtain ⟨a, rfl, h2, h3, h4, h5⟩ := h; exact st.setOwn h2 h3 h4 h5
theorem rs_par {i j : Nat} {x y : Str} {a b : Expr} {f g : M P} {px py pt pos : Pos} {kt k2 pt2} (hc : X.calm = true) (hN : X.N.Nodup) (ha : RP X cl F W a f) (hb : RP X cl F W b g)
    (hw : swappedStores [.Tuple [.Name x px, .Name y py] kt
                                                                                                              pt] (.Tuple [a, b] k2 pt2) X.env = pure (some [x, y]))
    (hi : X.N[i]? = some x := by rfl) (hj : X.N[j]? = some y := by rfl) (hij : i ≠ j := by decide)
    (hx : X.env.scope.names.lookup x = some .local := by rfl) (hy : X.env.scope.names.lookup y = some .local := by rfl)
    (hs : swapsWithSole [.Tuple [.Name x px, .Name y py] kt pt] (.Tuple [a, b] k2 pt2) pos.line X.env = pure false := by rfl)
    (h1 : starEach [a, b] X.env = (false, eval a X.env) :: starEach [b] X.env := by rfl) (h2 : starEach [b] X.env = (false, eval b X.env) :: starEach [] X.env := by rfl) :
    RS X cl F W (.Assign [.Tuple [.Name x px, .Name y py] kt pt] (.Tuple [a, b] k2 pt2) pos) (sPar i j f g) := by
  refine ⟨PS.imp (ps_par hc hN hi hj hij hx hy (pa_cons ha.pe (pa_cons hb.pe pa_nil h2) h1) hw hs) fun D σ H ⟨e, G, st, q⟩ => ⟨e, G, st, ?_⟩⟩
  cases hf : f e with
  | bad => simp only [sPar, hf] at q; exact q
  | exn x e1 => simp only [sPar, hf] at q; exact Xn.of q
  | ok p e1 =>
    simp only [sPar, hf] at q
    intro u H1 G1 s1 k1 r1 n1
    refine ⟨e1, G1, s1, ?_⟩
    cases hg : g e1 with
    | bad => simp only [Out.bnd, hg] at q; exact q
    | exn x e2 => simp only [Out.bnd, hg] at q; exact Xn.of q
    | ok p2 e2 =>
      simp only [Out.bnd, hg] at q
      intro u2 H2 G2 s2 k2 r2 n2
      refine ⟨u, u2, rfl, q _ H2 G2 ?_ (k1.gg.trans k2.gg)⟩
      have r1' := r1.mono k2
      have s3 := s2.setP r1' i
      refine s3.setP ?_ j
      cases p2 with
      | v d => exact r2
      | n d2 =>
        obtain ⟨b2, rfl, o2, g2, h02, l2⟩ := r2
        refine ⟨b2, rfl, o2, g2, h02, l2.1, fun k d hk hσ => ?_⟩
        by_cases hki : k = i
        · subst hki
          have hl : k < e2.s.length := by
            have := (List.getElem?_eq_some_iff.mp hk).1
            simpa [Env.setS] using this
          have e3 : (e2.setS k p.s).s[k]? = some p.s := List.getElem?_set_self hl
          rw [e3] at hk
          rw [List.getElem?_set_self (by rw [s2.len]; exact hl)] at hσ
          cases hσ
          cases p with
          | v d => cases hk
          | n d1 =>
            obtain ⟨b1, e4, o1, g1, h01, l1⟩ := r1
            cases e4
            obtain ⟨oo, qq⟩ := o1.ex
            exact n2 d2 rfl b2 oo qq l1 rfl
        · rw [setS_ne hki] at hk
          rw [List.getElem?_set_ne (Ne.symm hki)] at hσ
          exact l2.2 k d hk hσ
end
end DL

namespace DL
open PySem L2 PySem.Spec PyProof.Rows

section
variable {K : PySem.W.Frag} {cl : Str → Addr} {F : Fra} {e e' : Env} {σ : L2.St} {H G H' G' : Hp}
/-- behind a call that was lent a loose object alone -/
theorem passLN {X : Cx} : Passes (L2N.CX X.prog X.w) X E0 := fun _ _ _ _ _ _ _ h => by
  obtain ⟨_, _, _, _, _, _,
                                                                                                              _, _, _, _, _, _, z⟩ := h
  exact z.elim
theorem Stt.calledL (st : Stt K cl F e σ H G) {a : Addr} {x : D} (l : Loose F e σ a) (h0 : F.H0 a = none) (r : Ret K cl ⟨H, G, [a], 0⟩ H' G' [x]) : Stt K cl F e σ H' G' ∧ ∀ b o, b ≠ a → H b = some o → H' b = some o ∧ (G b = none → G' b = none) := by
  have hk : ∀ {b : Addr} {o : HO}, b ≠ a → H b = some o → H' b = some o := fun {b o} n q => r.fr b o q (by simpa using n)
  have hg : ∀ {b : Addr} {o : HO}, H b = some o → G b = none → G' b = none := fun {b o} q n => r.fg b o q n
  obtain ⟨⟨gh, g0, jr, fr, fg⟩, jh, len, slot, inj⟩ := st
  refine ⟨⟨⟨r.gh, g0.trans r.g0, ⟨jr.len, jr.nd, fun k b d k1 k2 => ?_⟩, fun b o q hn => ?_, fun b o q hn => ?_⟩, jh, len, fun i y hy => ?_, inj⟩, fun b o n q => ⟨hk n q, fun g => hg q g⟩⟩
  · obtain ⟨q1, q2⟩ := jr.at_ k b d k1 k2
    obtain ⟨o, q3⟩ := q2.ex
    have nb : b ≠ a := fun z => l.1 (z ▸ List.mem_of_getElem? k1)
    exact ⟨hg q3 q1, q2.mono (fun o q => hk nb q) r.g0⟩
  · have nb : b ≠ a := fun z => by rw [z, h0] at q; cases q
    exact hk nb (fr b o q hn)
  · by_cases hp : b ∈ F.js
    · obtain ⟨k, hk'⟩ := List.getElem?_of_mem hp
      have hl : k < e.j.length := by rw [jr.len]; exact (List.getElem?_eq_some_iff.mp hk').1
      obtain ⟨q1, q2⟩ := jr.at_ k b _ hk' (List.getElem?_eq_getElem hl)
      obtain ⟨o, q3⟩ := q2.ex
      exact hg q3 q1
    · exact hg (fr b o q hp) (fg b o q hn)
  · have z := slot i y hy
    cases y with
    | un => trivial
    | dat d => obtain ⟨v, z1, z2⟩ := z; exact ⟨v, z1, z2.mono r.g0⟩
    | own d =>
      obtain ⟨b, z1, z2, z3, z4⟩ := z
      obtain ⟨o, q3⟩ := z4.ex
      have nb : b ≠ a := fun w => l.2 i d hy (w ▸ z1)
      exact ⟨b, z1, hg q3 z2, z3, z4.mono (fun o q => hk nb q) r.g0⟩
    | jar k => exact z
    | ptr => exact z
end

/-! ### fields, properties, methods -/
def lookD (f : Str) : List Str → List D → Option D
  | n :: ns, d :: ds => if n = f then some d else lookD f ns ds
  | _, _ => none
def fldD (cs : List Str) (f : Str) : D → Option D
  | .obj c ns l => if c ∈ cs then lookD f ns l else none
  | _ => none
def cFld (cs : List Str) (f : Str) (g : M R) : M R := fun e => (g e).bnd fun r e1 => opt ((e1.rd r).bind (fldD cs f)) e1
/-- the object of class c that r is, as data -/
def isObjC (c : Str) : D → Bool
  | .obj c' _ _ => decide (c' = c)
  | _ => false
def propO (c : Str) (Φ : Fn) (o : Option (D × Env)) : Out R := match o with
  | some (d, e) => if isObjC c d then callO e (Φ [.dat d] []) else .bad
  | none => .bad
def cProp (c : Str) (Φ : Fn) (g : M R) : M R := fun e => (g e).bnd fun r e1 => propO c Φ (e1.frz r)
def hasN (m : Str) : D → Bool
  | .obj _ ns _ => ns.contains m
  | _ => true
/-- o.m(..) of an object of class c; data alone -/
def methO (c m : Str) (Φ : Fn) (o : Option (D × Env)) (fs : M (List R)) : Out R := match o with
  | some (d, e) => if isObjC c d && !hasN m d then (fs e).bnd fun rs e1 => (match e1.frzs rs with
    | some (ds, e2) => callO e2 (Φ (.dat d :: ds.map A.dat) [])
    | none => .bad) else .bad
  | none => .bad
def cMeth (c m : Str) (Φ : Fn) (g : M R) (fs : M (List R)) : M R := fun e => (g e).bnd fun r e1 => methO c m Φ (e1.frz r) fs
/-- the wish hangs on no slots -/
def SI (W : WX) : Prop := ∀ c d σ σ' H, W c d σ H → W c d σ' H
section
variable {X : Cx} {cl : Str → Addr} {F : Fra} {W : WX}
theorem lookup_zip {K : PySem.W.Frag} {G : Hp} {f : Str} : ∀ {ns : List Str} {l : List D} {vs : List V} {d : D}, lookD f ns l = some d → RepL K cl G l vs → ∃ v, (ns.zip vs).lookup f = some v ∧ Rep K cl G d v
  | [], _, _, _, h, _ => by cases h
  | _ :: _, [], _, _, h, _ => by cases h
  | n :: ns, x :: l, _, d, h, .cons (v := v) (vs := vs) r t => by
    by_cases hn : n = f
    · subst hn
      have h : (if n = n then some x else lookD n ns l) = some d := h
      rw [if_pos rfl] at h
      cases h
      exact ⟨v, by simp, r⟩
    · have h : (if n = f then some x else lookD f ns l) = some d := h
      rw [if_neg hn] at h
      obtain ⟨v', h1, h2⟩ := lookup_zip h t
      have hb : (f == n) = false := beq_eq_false_iff_ne.mpr fun z => hn z.symm
      exact ⟨v', by show List.lookup f ((n, v) :: ns.zip vs) = _; simp only [List.lookup, hb]; exact h1, h2⟩
theorem lookup_zip_none {α : Type} {f : Str} : ∀ {ns : List Str} {vs : List α}, ns.contains f = false → (ns.zip vs).lookup f = none
  | [], _, _ => rfl
  | _ :: _, [], _ => rfl
  | n :: ns, v :: vs, h => by
    simp only [List.contains_cons, Bool.or_eq_false_iff] at h
    show List.lookup f ((n, v) :: ns.zip vs) = none
    simp only [List.lookup, h.1]
    exact lookup_zip_none h.2
theorem Top.obj {K : PySem.W.Frag} {H G : Hp} {c : Str} {ns : List Str} {l : List D} {v : V} (g : Same G H) (h : Top K cl H G (.obj c ns l) v) : ∃ a dx vs, v = .ref a ∧ H a = some (.ins (cl c) dx (ns.zip vs)) ∧ ns.length = vs.length ∧ RepL K cl G l vs := by
  rcases h with h | ⟨a, rfl, hn, dx, vs, h1, h3, h2⟩
  · cases h with
    | obj h l r => exact ⟨_, _, _, rfl, g _ _ h, l, r⟩
  · exact ⟨_, dx, vs, rfl, h1, h3, h2⟩
theorem re_fld {a : Expr} {f : Str} {g : M R} {pos : Pos} {cs : List Str} (hc : ∀ c ∈ cs, Cls X.K (cl c) ∧ NoAttr X.K (cl c) f) (h : RE X cl F W a g) (hb : attributeBase a f X.env (eval a X.env) = eval a X.env := by rfl) : RE X cl F W (.Attribute a f pos) (cFld cs f g) := by
  refine ⟨PE.imp (pe_fld h.pe hb) fun σ H Q ⟨e, G, st, q⟩ => tD_then st q fun r e1 v H1 G1 s1 k1 r1 z => ?_⟩
  obtain ⟨dz, z1, z⟩ := post_opt z
  obtain ⟨d, hd, hf⟩ := Option.bind_eq_some_iff.mp z1
  have t := s1.top r1 hd
  cases d with
  | obj c ns l =>
    simp only [fldD] at hf
    split at hf
    · rename_i hm
      obtain ⟨a, dx, vs, rfl, h1, hl, rl⟩ := t.obj s1.ret.gh
      obtain ⟨v', h2, h3⟩ := lookup_zip hf rl
      exact ⟨a, _, dx, _, v', rfl, h1, (hc c hm).1, (hc c hm).2, h2, z v' H1 G1 s1 k1 h3⟩
    · cases hf
  | _ => cases hf
theorem isObjC_inv {c : Str} {d : D} (h : isObjC c d = true) : ∃ ns l, d = .obj c ns l := by
  cases d with
  | obj c' ns l =>
    have e : c' = c := of_decide_eq_true h
    subst e
    exact ⟨ns, l, rfl⟩
  | _ => cases h
/-- a call of a def, data alone, by the state -/
theorem callO_D {Φ : Fn} {ds : List D} {vs : List V} {σ : L2.St} {H G : Hp} {e : Env} {q : R → Env → Prop} {Q : VK} {E : XK} (st : Stt X.K cl F e σ H G) (r : RepL X.K cl G ds vs) (h : Post X.K cl F W σ (callO e (Φ (ds.map A.dat) [])) q)
    (hQ : ∀ d v H' G', Stt X.K cl F e σ H' G' → Kp F σ e H G e H' G' → Rep X.K cl G' d v → q (.val d) e → Q v H') (hE : ∀ c d H', W c d σ H' → E c d H') : spD X.K cl Φ vs H Q E := by
  refine ⟨ds.map A.dat, [], [], G, st.ret.gh, argsOk_dat r, ⟨rfl, List.nodup_nil, fun k a d h => by simp at h⟩, ?_⟩
  cases o : Φ (ds.map A.dat) [] with
  | bad => rw [o] at h; exact h.elim
  | ok d j =>
    rw [o] at h
    cases j with
    | cons => exact h.elim
    | nil =>
      intro v H' G' r rv
      obtain ⟨s3, k3⟩ := st.called r
      exact hQ d v H' G' s3 k3 rv h
  | exn x j =>
    rw [o] at h
    cases j with
    | cons => exact h.elim
    | nil =>
      intro cls dd H' G' r ex
      obtain ⟨s3, k3⟩ := st.called r
      exact hE _ _ _ (h cls dd H' G' s3 ex)
variable {k : Nat} {f pr : Addr} {fd : FuncData} {ps : List Str} {Φ : Fn} {c m : Str} {a : Expr} {es : List Expr} {g : M R} {fs : M (List R)} {pos apos : Pos}
theorem re_prop (hc : Cls X.K (cl c)) (hp : PropOf X.K (cl c) m pr f) (Fn : FnOk X.prog X.w X.K X.mg X.base (L2N.CX X.prog X.w) k f fd ps (spD X.K cl Φ)) (hr : Room (k + 1) X.A) (hb : Binds X.K fd ps []) (hnx : ∀ d x j, Φ [.dat d] [] ≠ .exn x j)
    (h : RE X cl F W a g) (hab : attributeBase a m X.env (eval a X.env) = eval a X.env := by rfl) : RE X cl F W (.Attribute a m pos) (cProp c Φ g) := by
  refine ⟨PE.imp (pe_prop (E := E0) (dvs := []) h.pe hc hp Fn hr hb .nil passLN hab) fun σ H Q ⟨e, G, st, q⟩ => tD_then st q fun r e1 v H1 G1 s1 k1 r1 z => ?_⟩
  cases y : e1.frz r with
  | none => rw [y] at z; exact z.elim
  | some p =>
    obtain ⟨d, e2⟩ := p
    rw [y] at z
    obtain ⟨G2, s2, k2, r2⟩ := frz_ok s1 r1 y
    simp only [propO] at z
    split at z
    · rename_i hi
      obtain ⟨ns, l, rfl⟩ := isObjC_inv hi
      have r2' := r2
      cases r2 with
      | obj h1 hl rl =>
        refine ⟨_, _, _, rfl, s2.ret.gh _ _ h1, ?_⟩
        refine callO_D (Φ := Φ) (W := fun _ _ _ _ => False) (E := E0) (ds := [.obj c ns l]) (q := fun r e' => ∀ v H' G', Stt X.K cl F e' σ H' G' → Kp F σ e H G e' H' G' → RR X.K cl σ G' r v → Q v H') s2 (.cons r2' .nil) ?_ (fun d v H' G' s3 k3 rv hq => hq v H' G' s3 ((k1.trans k2).trans k3) rv) (fun _ _ _ z => z)
        cases o : Φ ([D.obj c ns l].map A.dat) [] with
        | bad => rw [show Φ [.dat (.obj c ns l)] [] = _ from o] at z; exact z.elim
        | exn x j => exact (hnx _ _ _ o).elim
        | ok d j =>
          rw [show Φ [.dat (.obj c ns l)] [] = _ from o] at z
          cases j with
          | cons => exact z.elim
          | nil => exact z
    · exact z.elim
theorem re_meth (hc : Cls X.K (cl c)) (hm : Meth X.K (cl c) m f) (Fn : FnOk X.prog X.w X.K X.mg X.base (L2N.CX X.prog X.w) k f fd ps (spD X.K cl Φ)) (hr : Room k X.A) (tk : L2N.Takes X W) (hW : SI W) (hb : Binds X.K fd ps [])
    {x : Expr} {xs : List Expr} (h : RE X cl F W a g) (ha : RA X cl F W (x :: xs) fs) {pl : Sem Bool} (hst : starEach (x :: xs) X.env = (false, eval x X.env) :: starEach xs X.env := by rfl) (hpl : (backTo pos (starEach xs X.env)).any (·.1) = false := by rfl)
    (ht : eval (.Call (.Attribute a m apos) (x :: xs) [] pos) X.env = (do
      let ov ← eval a X.env
      standAt apos.atName
      let (f, first) ← holding
                                                                                                              [ov] (getMethod ov m pl)
      callWith pos f first (backTo pos (starEach (x :: xs) X.env)) (backToKw pos (keywordEach [] X.env))) := by rfl) : RE X cl F W (.Call (.Attribute a m apos) (x :: xs) [] pos) (cMeth c m Φ g fs) := by
  refine ⟨PE.imp (pe_meth (pl := pl) (E := fun c d H => ∃ σ, W c d σ H) (dvs := []) h.pe hc hm Fn hr hb .nil (L2N.passes_call tk fun c d σ H ⟨σ', z⟩ => hW c d σ' σ H z) ha.pa hst hpl ht) fun σ H Q ⟨e, G, st, q⟩ => tD_then st q fun r e1 v H1 G1 s1 k1 r1 z => ?_⟩
  cases y : e1.frz r with
  | none => rw [y] at z; exact z.elim
  | some p =>
    obtain ⟨d, e2⟩ := p
    rw [y] at z
    obtain ⟨G2, s2, k2, r2⟩ := frz_ok s1 r1 y
    simp only [methO] at z
    split at z
    · rename_i hi
      obtain ⟨hi1, hi2⟩ := Bool.and_eq_true_iff.mp hi
      obtain ⟨ns, l, rfl⟩ := isObjC_inv hi1
      have r2' := r2
      cases r2 with
      | obj h1 hl rl =>
        refine ⟨_, _, _, rfl, s2.ret.gh _ _ h1, lookup_zip_none (by simpa [hasN] using hi2), tA_then s2 z fun rs e3 vs H3 G3 s3 k3 r3 z => ?_⟩
        rw [List.append_nil]
        cases y3 : e3.frzs rs with
        | none => rw [y3] at z; exact z.elim
        | some p3 =>
          obtain ⟨ds, e4⟩ := p3
          rw [y3] at z
          obtain ⟨G4, s4, k4, r4⟩ := frzs_ok s3 r3 y3
          exact callO_D (Φ := Φ) (ds := .obj c ns l :: ds) s4 (.cons ((r2'.mono k3.gg).mono k4.gg) r4) z (fun d v H' G' s5 k5 rv hq => hq v H' G' s5 ((((k1.trans k2).trans k3).trans k4).trans k5) rv) (fun c d H' z => ⟨σ, z⟩)
    · exact z.elim

/-! ### C(..) -/
def makeO (c : Str) (e : Env) (o : OutF) : Out R := match o with
  | .ok .non [.obj c' ns l] => if c' = c then .ok (.val (.obj c ns l)) e else .bad
  | .exn x [_] => .exn x e
  | _ => .bad
def makeD (c : Str) (Φ : Fn) (o : Option (List D × Env)) : Out R := match o with
  | some (ds, e) => makeO c e (Φ (.jar 0 :: ds.map A.dat) [.obj c [] []])
  | none => .bad
def cMake (c : Str) (Φ : Fn) (fs : M (List R)) : M R := fun e => (fs e).bnd fun rs e1 => makeD c Φ (e1.frzs rs)
theorem make_D {ds : List D} {vs : List V} {σ : L2.St} {H G : Hp} {e : Env} {q : R → Env → Prop} {Q : VK} {E : XK} (st : Stt X.K cl F e σ H G) (r : RepL X.K cl G ds vs) (h : Post X.K cl F W σ (makeO c e (Φ (.jar 0 :: ds.map A.dat) [.obj c [] []])) q)
    (hQ : ∀ d v H' G', Stt X.K cl F e σ H' G' → Kp F σ e H G e H' G' → Rep X.K cl G' d v → q (.val d) e → Q v H') (hE : ∀ c d H', W c d σ H' → E c d H') :
    ∀ x dx, H x = none → H dx = none → dx ≠ x → spD X.K cl Φ (.ref x :: vs) (upd (upd H dx (.own x)) x (.ins (cl c) dx [])) (fun v H2 => v = .non ∧ Q (.ref x) H2) E := by
  intro x dx hx hdx ne
  obtain ⟨lx, x0⟩ := st.fresh hx
  have hx1 : upd H dx (.own x) x = none := by rw [upd_ne ne.symm]; exact hx
  have s1 := (st.layL (o := .own x) hdx).layL (o := .ins (cl c) dx []) hx1
  have g1 : G x = none := st.ret.gh.free hx
  have kp1 : ∀ b o, H b = some o → upd (upd H dx (.own x)) x (.ins (cl c) dx []) b = some o := fun b o q => by rw [upd_ne (ne_of_none q hx), upd_ne (ne_of_none q hdx)]; exact q
  refine ⟨.jar 0 :: ds.map A.dat, [.obj c [] []], [x], G, s1.ret.gh, .jar rfl (argsOk_dat r), ⟨rfl, by simp, fun k a d h1 h2 => ?_⟩, ?_⟩
  · cases k with
    | zero => cases h1; cases h2; exact ⟨g1, dx, [], upd_same, rfl, .nil⟩
    | succ k => simp at h1
  · cases o : Φ (.jar 0 :: ds.map A.dat) [.obj c [] []] with
    | bad => rw [o] at h; exact h.elim
    | ok d j =>
      rw [o] at h
      intro v H' G' r rv
      cases d with
      | non =>
        match j, h, r with
        | [.obj c' ns l], h, r =>
          simp only [makeO] at h
          split at h
          · rename_i ec
            subst ec
            cases rv
            obtain ⟨s2, k2⟩ := s1.calledL lx x0 r
            obtain ⟨gx, dx', us, hx2, hl, ru⟩ := r.jars.at_ 0 x _ rfl rfl
            refine ⟨rfl, hQ _ (.ref x) H' _ (s2.addG hx2 gx x0 lx) ⟨r.g0.trans (same_upd gx), fun b o q l => ?_, fun i d h => ⟨d, h⟩⟩ (.obj upd_same hl (ru.mono (same_upd gx))) h⟩
            have nb := ne_of_none q hx
            obtain ⟨q1, q2⟩ := k2 b o nb (kp1 b o q)
            exact ⟨q1, fun g => by rw [upd_ne nb]; exact q2 g⟩
          · exact h.elim
        | [], h, r => exact h.elim
        | [.non], h, r | [.bl _], h, r | [.int _], h, r | [.str _], h, r | [.tup _], h, r | [.lst _], h, r | [.dct _ _], h, r | [.dcT _ _], h, r | [.scr _], h, r | [.tab _], h, r => exact h.elim
        | .non :: _ :: _, h, r | .bl _ :: _ :: _, h, r | .int _ :: _ :: _, h, r | .str _ :: _ :: _, h, r | .tup _ :: _ :: _, h, r | .lst _ :: _ :: _, h, r | .dct _ _ :: _ :: _, h, r | .dcT _ _ :: _ :: _, h, r | .scr _ :: _ :: _, h, r | .tab _ :: _ :: _, h, r | .obj _ _ _ :: _ :: _, h, r => exact h.elim
      | _ => exact h.elim
    | exn y j =>
      rw [o] at h
      intro cls dd H' G' r ex
      match j, h, r with
      | [d], h, r =>
        obtain ⟨s2, k2⟩ := s1.calledL lx x0 r
        exact hE _ _ _ (h cls dd H' G' s2 ex)
      | [], h, r => exact h.elim
      | _ :: _ :: _, h, r => exact h.elim
theorem re_make {x : Expr} {xs : List Expr} {p : Pos} (M : Mk X.K (cl c) f) (Fn : FnOk X.prog X.w X.K X.mg X.base (L2N.CX X.prog X.w) k f fd ps (spD X.K cl Φ)) (hr : Room (k + 1) X.A) (tk : L2N.Takes X W) (hW : SI W) (hg : Gl X c) (hm : X.mg c = some (.ref (cl c))) (hb : Binds X.K fd ps [])
    (ha : RA X cl F W (x :: xs) fs) (hdb : (c == ("__debug__" : Str)) = false := by decide) (he : starEach (x :: xs) X.env = (false, eval x X.env) :: starEach xs X.env := by rfl) (hpl : (backTo pos (starEach xs X.env)).any (·.1) = false := by rfl) : RE X cl F W (.Call (.Name c p) (x :: xs) [] pos) (cMake c Φ fs) := by
  refine ⟨PE.imp (pe_make (E := fun c d H => ∃ σ, W c d σ H) (dvs := []) M Fn hr hg hm hb .nil (L2N.passes_call tk fun c d σ H ⟨σ', z⟩ => hW c d σ' σ H z) ha.pa hdb he hpl) fun σ H Q ⟨e, G, st, q⟩ => tA_then st q fun rs e1 vs H1 G1 s1 k1 r1 z => ?_⟩
  cases y : e1.frzs rs with
  | none => rw [y] at z; exact fun _ _ _ _ _ => z.elim
  | some pr =>
    obtain ⟨ds, e2⟩ := pr
    rw [y] at z
    obtain ⟨G2, s2, k2, r2⟩ := frzs_ok s1 r1 y
    intro x dx hx hdx ne
    have := make_D (Q := Q) (E := fun c d H => ∃ σ, W c d σ H) s2 r2 z (fun d v H' G' s5 k5 rv hq => hq v H' G' s5 ((k1.trans k2).trans k5) rv) (fun c d H' z => ⟨σ, z⟩) x dx hx hdx ne
    rw [List.append_nil]
    exact this
/-- self.f = e, self lent or owned -/
def putN (f : Str) (d : D) : List Str → List D → List Str × List D
  | n :: ns, x :: xs => if n = f then (n :: ns, d :: xs) else (n :: (putN f d ns xs).1, x :: (putN f d ns xs).2)
  | _, _ => ([f], [d])
def fldSet (cs : List Str) (i : Nat) (f : Str) (d : D) (e : Env) : Out Fl := match e.rd (.whole i) with
  | some (.obj c ns l) => if c ∈ cs ∧ ns.length < 1000 then outE (e.put i (.obj c (putN f d ns l).1 (putN f d ns l).2)) fun e3 => .ok .nx e3 else .bad
  | _ => .bad
def fldSetO (cs : List Str) (i : Nat) (f : Str) (o : Option (D × Env)) : Out Fl := match o with
  | some (d, e) => fldSet cs i f d e
  | none => .bad
def sFldSet (cs : List Str) (i : Nat) (f : Str) (g : M R) : M Fl := fun e => (g e).bnd fun r e1 => fldSetO cs i f (e1.frz r)
theorem putN_zip {K : PySem.W.Frag} {G : Hp} {f : Str} {d : D} {v : V} (r : Rep K cl G d v) : ∀ {ns : List Str} {l : List D} {vs : List V}, ns.length = vs.length → RepL K cl G l vs → ∃ us, putF f v (ns.zip vs) = (putN f d ns l).1.zip us ∧ (putN f d ns l).1.length = us.length ∧ RepL K cl G (putN f d ns l).2 us
  | [], [], [], _, _ => ⟨[v], rfl, rfl, .cons r .nil⟩
  | [], _ :: _, [], _, t => by cases t
  | [], _, _ :: _, h, _ => by simp at h
  | _ :: _, _, [], h, _ => by simp at h
  | _ :: _, [], _ :: _, _, t => by cases t
  | n :: ns, x :: l, w :: vs, h, .cons rw t => by
    have hl : ns.length = vs.length := by simpa using h
    by_cases hn : n = f
    · subst hn
      refine ⟨v :: vs, ?_, ?_, ?_⟩
      · show (if n = n then (n, v) :: ns.zip vs else _) = _
        rw [if_pos rfl]; simp [putN]
      · simp [putN, hl]
      · simp only [putN, if_true]; exact .cons r t
    · obtain ⟨us, e1, e2, e3⟩ := putN_zip (f := f) r hl t
      refine ⟨w :: us, ?_, ?_, ?_⟩
      · show (if n = f then (n, v) :: ns.zip vs else (n, w) :: putF f v (ns.zip vs)) = _
        rw [if_neg hn, e1]; simp [putN, hn]
      · simp [putN, hn, e2]
      · simp only [putN, hn, if_false]; exact .cons rw e3
theorem rs_fld (i : Nat) {x : Str} {b : Expr} {f : Str} {g : M R} {p pos pos' : Pos} {cs : List Str} (hc : ∀ c ∈ cs, Cls X.K (cl c) ∧ NoAttr X.K (cl c) f) (h : RE X cl F W b g) (hN : X.N[i]? = some x := by rfl) (hvis : Vis X.env.scope x := by first | exact Or.inl rfl | exact Or.inr (Or.inl rfl) | exact Or.inr (Or.inr rfl)) (hd : (x == ("__debug__" : Str)) = false := by decide)
    (hcd : (x == ("__classdict__" : Str)) = false := by decide) (hs : swapsWith b (some (.Attribute (.Name x p) f pos')) pos.line X.env = pure false := by rfl) : RS X cl F W (.Assign [.Attribute (.Name x p) f pos'] b pos) (sFldSet cs i f g) := by
  refine ⟨PS.imp (ps_fld (pe_var hN hvis hd hcd) h.pe hs) fun D σ H ⟨e, G, st, q⟩ => tD_st st q fun r e1 v H1 G1 s1 k1 r1 z => ?_⟩
  cases y : e1.frz r with
  | none => rw [y] at z; exact z.elim
  | some pq =>
    obtain ⟨d, e2⟩ := pq
    rw [y] at z
    obtain ⟨G2, s2, k2, r2⟩ := frz_ok s1 r1 y
    simp only [fldSetO, fldSet] at z
    cases h0 : e2.rd (.whole i) with
    | none => rw [h0] at z; exact z.elim
    | some d0 =>
      rw [h0] at z
      obtain ⟨a0, hs0, o0⟩ := s2.ref_at h0
      cases d0 with
      | obj c ns l =>
        simp only at z
        split at z
        · rename_i hcs
          obtain ⟨dx, vs, hv, hl, rv⟩ := o0
          obtain ⟨us, eu, el, ru⟩ := putN_zip (f := f) r2 hl rv
          cases hp : e2.put i (.obj c (putN f d ns l).1 (putN f d ns l).2) with
          | none => rw [hp] at z; exact z.elim
          | some e4 =>
            rw [hp] at z
            refine ⟨_, hs0, a0, _, dx, _, rfl, hv, (hc c hcs.1).1, (hc c hcs.1).2, by rw [List.length_zip, ← hl, Nat.min_self]; exact hcs.2, ?_⟩
            obtain ⟨s4, k4⟩ := s2.put (o := .ins (cl c) dx (putF f v (ns.zip vs))) hs0 h0 hp fun H' h => ⟨dx, us, by rw [h, eu], el, ru⟩
            exact z σ _ _ s4 k2.gg
        · exact z.elim
      | _ => exact z.elim
end
end DL

namespace DL
open PySem L2 PySem.Spec PyProof.Rows

/-! ### the in of an own class -/
def askOwn (c : Str) (Φ : Fn) (o x : D) : Option Bool := if isObjC c o then (match Φ [.dat o, .dat x] [] with
  | .ok (.bl b) [] => some b
  | _ => none) else none
def inOwn (c : Str) (Φ : Fn) (x o : D) : Option D := (askOwn c Φ o x).map D.bl
def notInOwn (c : Str) (Φ : Fn) (x o : D) : Option D := (askOwn c Φ o x).map fun b => D.bl (!b)
section
variable {X : Cx} {cl : Str → Addr} {F : Fra} {W : WX} {k : Nat} {f : Addr} {fd : FuncData} {ps : List Str} {Φ : Fn} {c : Str}
theorem askOwn_ok {H G : Hp} {x y : V} {dx o : D} {b : Bool} (g : Same G H) (tx : Top X.K cl H G dx x) (ty : Top X.K cl H G o y) (h : askOwn c Φ o dx = some b) :
    ∃ a dd fs, y = .ref a ∧ H a = some (.ins (cl c) dd fs) ∧ spD X.K cl Φ [.ref a, x] H (fun v H' => v = .bl b ∧ Same H H') E0 := by
  unfold askOwn at h
  split at h
  · rename_i hi
    obtain ⟨ns, l, rfl⟩ := isObjC_inv hi
    have ry := ty.rep g
    obtain ⟨a, dd, vs, rfl, ha, _, _⟩ := ty.obj g
    refine ⟨a, dd, _, rfl, ha, [.dat (.obj c ns l), .dat dx], [], [], H, .refl _, .dat ry (.dat (tx.rep g) .nil), ⟨rfl, List.nodup_nil, fun k a d h => by simp at h⟩, ?_⟩
    split at h
    · rename_i b' e
      cases h
      rw [e]
      intro v H' G' r rv
      cases rv
      exact ⟨rfl, fun b o q => r.fr b o q (by simp)⟩
    · cases h
  · cases h
theorem spD.mono {K : PySem.W.Frag} {vs : List V} {H : Hp} {Q Q' : VK} {E : XK} (h : spD K cl Φ vs H Q E) (i : ∀ v H', Q v H' → Q' v H') : spD K cl Φ vs H Q' E := by
  obtain ⟨as, j, js, G, g1, g2, g3, g4⟩ := h
  refine ⟨as, j, js, G, g1, g2, g3, ?_⟩
  cases o : Φ as j with
  | bad => rw [o] at g4; exact g4.elim
  | ok d j' => rw [o] at g4; exact fun v H' G' r rv => i _ _ (g4 v H' G' r rv)
  | exn y j' => rw [o] at g4; exact g4
/-- what x in o does, o of an own class -/
def rOwn (X : Cx) (cl : Str → Addr) (c : Str) (Φ : Fn) (nt : Bool) : R2 := fun x y H Q => ∃ a dd fs, y = .ref a ∧ H a = some (.ins (cl c) dd fs) ∧ spD X.K cl Φ [.ref a, x] H (fun v H' => ∃ b, v = .bl b ∧ Q (.bl (b != nt)) H') E0
theorem op_own (hs : PySem.W.findIn X.K (.ref (cl c)) "__contains__" = some (some (.ref f))) (hf : PySem.W.isFn X.K (.ref f) = true) (Fn : FnOk X.prog X.w X.K X.mg X.base (L2N.CX X.prog X.w) k f fd ps (spD X.K cl Φ)) (hr : Room k X.A) (hb : Binds X.K fd ps [])
    {pins : List (Addr × Obj)} {s : Shared} {σ : L2.St} {H : Hp} {x : V} {v : Value} {a dd : Addr} {fs : List (Str × V)} {P : Bool → Shared → Prop} (I : Inv X pins σ H s) (rx : RelV x v) (ha : H a = some (.ins (cl c) dd fs)) {b : Bool}
    (q : spD X.K cl Φ [.ref a, x] H (fun v H' => v = .bl b ∧ ∀ s', Inv X pins σ H' s' → P b s') E0) : wpAny (model X.prog X.w) X.A (contains (.ref a) v) P X.xe s := by
  obtain ⟨mA, O, _, _, _, _⟩ := ins_get I.hok ha
  obtain ⟨od, J, _⟩ := O.look
  have Xi := I.kIn
  unfold contains
  refine wpAny_holding (wpAny_bind (wpAny_bind (J.type.here ((PySem.W.looks_findIn Xi hs).here ?_))))
  rw [if_neg (by simp)]
  refine wpAny_bind (PySem.W.unlessNone_K Xi J hs hf (wpAny_mono (run_fn (dvs := []) (ds := []) (E := E0) Fn hr hb .nil passLN I (.cons (show RelV (.ref a) (.ref a) from rfl) (.cons rx .nil)) q) (fun u s' z => ?_) fun _ _ z => z))
  obtain ⟨w, H', I', rw_, e, z⟩ := z
  subst e
  cases rw_
  exact wpAny_truthy_bool (z s' I')
theorem od_inOwn (hs : PySem.W.findIn X.K (.ref (cl c)) "__contains__" = some (some (.ref f))) (hf : PySem.W.isFn X.K (.ref f) = true) (Fn : FnOk X.prog X.w X.K X.mg X.base (L2N.CX X.prog X.w) k f fd ps (spD X.K cl Φ)) (hr : Room k X.A) (hb : Binds X.K fd ps []) :
    OpD X cl (compareOp .In) (inOwn c Φ) := by
  refine ⟨fun x y H Q => ∃ b a dd fs, y = .ref a ∧ H a = some (.ins (cl c) dd fs) ∧ spD X.K cl Φ [.ref a, x] H (fun v H' => v = .bl b ∧ Same H H') E0 ∧ ∀ H', Same H H' → Q (.bl b) H', ?_, ?_⟩
  · intro pins s σ H x y v u Q I rx ry h
    obtain ⟨b, a, dd, fs, rfl, ha, sp, q⟩ := h
    cases ry
    refine wpAny_bind (wpAny_mono (op_own (P := fun b' s' => b' = b ∧ ∃ H', Inv X pins σ H' s' ∧ Same H H') (b := b) hs hf Fn hr hb I rx ha (spD.mono sp fun v H' ⟨e, sm⟩ => ⟨e, fun s' I' => ⟨rfl, H', I', sm⟩⟩)) (fun r s' z => ?_) fun _ _ z => z)
    obtain ⟨rfl, H', I', sm⟩ := z
    exact wpAny_pure ⟨.bl r, H', I', rfl, q H' sm⟩
  · intro H G x y dx dy dz Q g tx ty hg q
    obtain ⟨b, hb1, rfl⟩ := Option.map_eq_some_iff.mp hg
    obtain ⟨a, dd, fs, rfl, ha, sp⟩ := askOwn_ok g tx ty hb1
    exact ⟨b, a, dd, fs, rfl, ha, sp, fun H' sm => q _ H' G (.grow .refl sm) .bl⟩
theorem od_notInOwn (hs : PySem.W.findIn X.K (.ref (cl c)) "__contains__" = some (some (.ref f))) (hf : PySem.W.isFn X.K (.ref f) = true) (Fn : FnOk X.prog X.w X.K X.mg X.base (L2N.CX X.prog X.w) k f fd ps (spD X.K cl Φ)) (hr : Room k X.A) (hb : Binds X.K fd ps []) :
    OpD X cl (compareOp .NotIn) (notInOwn c Φ) := by
  refine ⟨fun x y H Q => ∃ b a dd fs, y = .ref a ∧ H a = some (.ins (cl c) dd fs) ∧ spD X.K cl Φ [.ref a, x] H (fun v H' => v = .bl b ∧ Same H H') E0 ∧ ∀ H', Same H H' → Q (.bl (!b)) H', ?_, ?_⟩
  · intro pins s σ H x y v u Q I rx ry h
    obtain ⟨b, a, dd, fs, rfl, ha, sp, q⟩ := h
    cases ry
    refine wpAny_bind (wpAny_mono (op_own (P := fun b' s' => b' = b ∧ ∃ H', Inv X pins σ H' s' ∧ Same H H') (b := b) hs hf Fn hr hb I rx ha (spD.mono sp fun v H' ⟨e, sm⟩ => ⟨e, fun s' I' => ⟨rfl, H', I', sm⟩⟩)) (fun r s' z => ?_) fun _ _ z => z)
    obtain ⟨rfl, H', I', sm⟩ := z
    exact wpAny_pure ⟨.bl (!r), H', I', rfl, q H' sm⟩
  · intro H G x y dx dy dz Q g tx ty hg q
    obtain ⟨b, hb1, rfl⟩ := Option.map_eq_some_iff.mp hg
    obtain ⟨a, dd, fs, rfl, ha, sp⟩ := askOwn_ok g tx ty hb1
    exact ⟨b, a, dd, fs, rfl, ha, sp, fun H' sm => q _ H' G (.grow .refl sm) .bl⟩
end

/-! ### keywords -/
structure RK (X : Cx) (cl : Str → Addr) (F : Fra) (W : WX) (ks : List Keyword) (f : M (List R)) : Prop where
  pk : PK X ks (tA X.K cl F W f)
def prm {α : Type} (p : List Nat) (l : List α) : List α := p.filterMap (l[·]?)
section
variable {X : Cx} {cl : Str → Addr} {F : Fra} {W : WX}
theorem PK.imp {ks : List Keyword} {t t' : TA} (h : PK X ks t) (i : ∀ σ H Q, t' σ H Q → t σ H Q) : PK X ks t' := ⟨fun pos pins s σ H Q I q => h.run pos pins s σ H Q I (i σ H Q q)⟩
theorem rk_nil : RK X cl F W [] cNil := ⟨PK.imp pk_nil fun σ H Q ⟨e, G, st, q⟩ => q [] H G st .refl .nil⟩
theorem rk_cons {nm : Option Str} {kpos : Pos} {x : Expr} {ks : List Keyword} {f : M R} {g : M (List R)} (h : RE X cl F W x f) (t : RK X cl F W ks g) : RK X cl F W (⟨nm, x, kpos⟩ :: ks) (cCons f g) := by
  refine ⟨PK.imp (pk_cons h.pe t.pk) fun σ H Q ⟨e, G, st, q⟩ => ?_⟩
  exact tD_then st q fun r e1 v H1 G1 s1 k1 r1 z => tA_then s1 z fun rs e2 vs H2 G2 s2 k2 r2 z => z (v :: vs) H2 G2 s2 (k1.trans k2) (.cons (r1.mono k2.gg) r2)
theorem vals_get : ∀ {vs : List V} {us : List Value} (i : Nat), Vals vs us → (∃ v u, vs[i]? = some v ∧ us[i]? = some u ∧ RelV v u) ∨ vs[i]? = none ∧ us[i]? = none
  | _, _, _, .nil => .inr ⟨rfl, rfl⟩
  | _, _, 0, .cons r _ => .inl ⟨_, _, rfl, rfl, r⟩
  | _, _, i + 1, .cons _ t => by simpa using vals_get i t
theorem vals_prm {vs : List V} {us : List Value} (r : Vals vs us) : ∀ p : List Nat, Vals (prm p vs) (prm p us)
  | [] => .nil
  | i :: p => by
    rcases vals_get i r with ⟨v, u, h1, h2, h3⟩ | ⟨h1, h2⟩
    · have e1 : prm (i :: p) vs = v :: prm p vs := by unfold prm; rw [List.filterMap_cons, h1]
      have e2 : prm (i :: p) us = u :: prm p us := by unfold prm; rw [List.filterMap_cons, h2]
      rw [e1, e2]; exact .cons h3 (vals_prm r p)
    · have e1 : prm (i :: p) vs = prm p vs := by unfold prm; rw [List.filterMap_cons, h1]
      have e2 : prm (i :: p) us = prm p us := by unfold prm; rw [List.filterMap_cons, h2]
      rw [e1, e2]; exact vals_prm r p
theorem repL_get {K : PySem.W.Frag} {G : Hp} : ∀ {ds : List D} {vs : List V} (i : Nat), RepL K cl G ds vs → (∃ d v, ds[i]? = some d ∧ vs[i]? = some v ∧ Rep K cl G d v) ∨ ds[i]? = none ∧ vs[i]? = none
  | _, _, _, .nil => .inr ⟨rfl, rfl⟩
  | _, _, 0, .cons r _ => .inl ⟨_, _, rfl, rfl, r⟩
  | _, _, i + 1, .cons _ t => by simpa using repL_get i t
theorem repL_prm {K : PySem.W.Frag} {G : Hp} {ds : List D} {vs : List V} (r : RepL K cl G ds vs) : ∀ p : List Nat, RepL K cl G (prm p ds) (prm p vs)
  | [] => .nil
  | i :: p => by
    rcases repL_get i r with ⟨v, u, h1, h2, h3⟩ | ⟨h1, h2⟩
    · have e1 : prm (i :: p) ds = v :: prm p ds := by unfold prm; rw [List.filterMap_cons, h1]
      have e2 : prm (i :: p) vs = u :: prm p vs := by unfold prm; rw [List.filterMap_cons, h2]
      rw [e1, e2]; exact .cons h3 (repL_prm r p)
    · have e1 : prm (i :: p) ds = prm p ds := by unfold prm; rw [List.filterMap_cons, h1]
      have e2 : prm (i :: p) vs = prm p vs := by unfold prm; rw [List.filterMap_cons, h2]
      rw [e1, e2]; exact repL_prm r p
/-- a call with n positional values and the keywords ks; p: their order -/
abbrev KBp (K : PySem.W.Frag) (fd : FuncData) (ps : List Str) (n : Nat) (ks : List Str) (p : List Nat) : Prop := KBn K fd ps n ks (fun us ws => prm p (us ++ ws)) (fun vs zs => prm p (vs ++ zs))
theorem kb_p {K : PySem.W.Frag} {x qual : Str} {params : Arguments} {body : List Stmt} {scope : Scope} {kws : List (Str × V)} {f : Addr} {fd : FuncData} {ps : List Str} (F : FunD K x qual params body scope [] kws f fd) (n : Nat) (ks : List Str) (p : List Nat)
    (h : ∀ (kV doc pm : Value) (an : Option Addr) (cdv ct : Value) (us ws : List Value), us.length = n → ws.length = ks.length → bindArgs (PySem.W.fnOf x qual params body scope .none kV doc pm an cdv ct) ⟨us, ks.zip ws⟩ = pure (ps.zip (prm p (us ++ ws)))) : KBp K fd ps n ks p := by
  obtain ⟨oc, od, dV, kV, doc, pm, an, cdv,
                                                                                                              ct, osl, rfl, lk, hcd, hD, hK⟩ := F.ex
  rcases hD with
                                                                                                              ⟨_, rfl⟩ | ⟨e, _⟩
  · exact ⟨fun s us ws _ l1 l2 => .of_eq (h kV doc pm an cdv ct us ws l1 l2), fun r1 r2 => vals_prm (r1.append r2) p⟩
  · exact absurd rfl e
def cCat (fs gs : M (List R)) : M (List R) := fun e => (fs e).bnd fun rs e1 => (gs e1).bnd fun qs e2 => .ok (rs ++ qs) e2
variable {k : Nat} {f pr : Addr} {fd : FuncData} {ps ks : List Str} {Φ : Fn} {c m : Str} {a : Expr} {es : List Expr} {kws : List Keyword} {g : M R} {fs gs : M (List R)} {pos apos : Pos} {n : Nat} {p : List Nat}
/-- o.m(.., k = v, ..) of an object of class c -/
def methKO (c m : Str) (Φ : Fn) (n nk : Nat) (p : List Nat) (o : Option (D × Env)) (fs gs : M (List R)) : Out R := match o with
  | some (d, e) => if isObjC c d && !hasN m d then (fs e).bnd fun rs e1 => (match e1.frzs rs with
    | some (ds, e2) => (gs e2).bnd fun qs e3 => (match e3.frzs qs with
      | some (zs, e4) => if ds.length = n ∧ zs.length = nk then callO e4 (Φ ((prm p (d :: ds ++ zs)).map A.dat) []) else .bad
      | none => .bad)
    | none => .bad) else .bad
  | none => .bad
def cMethK (c m : Str) (Φ : Fn) (n nk : Nat) (p : List Nat) (g : M R) (fs gs : M (List R)) : M R := fun e => (g e).bnd fun r e1 => methKO c m Φ n nk p (e1.frz r) fs gs
theorem run_fnNS {E : L2.St → XK} {pins : List (Addr × Obj)} {σ : L2.St} {H : Hp} {s : Shared} {Q : VK} {us ws : List Value} {vs zs : List V} {sp : Sp} {CX : CXT} {gg : List Value → List Value → List Value} {gV : List V → List V → List V} (F : FnOk X.prog X.w X.K X.mg X.base CX k f fd ps sp) (hr : Room k X.A) (hb : KBn X.K fd ps n ks gg gV) (hx : PassesAt CX X σ (E σ))
    (I : Inv X pins σ H s) (r : Vals vs us) (rz : Vals zs ws) (l1 : vs.length = n) (l2 : zs.length = ks.length) (h : sp (gV vs zs) H Q (E σ)) : wpAny (model X.prog X.w) X.A (PySem.call (.ref f) us (ks.zip ws)) (EP X pins σ Q) X.xe s := by
  have r2 := hb.rel r rz
  refine wpAny_call (codeAny_mono (F.run X.A X.stack s H ⟨us, ks.zip ws⟩ (gg us ws) (gV vs zs) Q (E σ) hr I.env0 (hb.to s us ws I.kIn (r.length.symm.trans l1) (rz.length.symm.trans l2)) r2 h) fun r s' hq => ?_)
  cases r with
  | error e =>
                                                                                                              exact hx pins H s e s' I hq
  | ok fl =>
    cases fl with
    | ret u => exact I.after hq
    | next => exact False.elim hq
    | brk => exact False.elim hq
    | cont => exact False.elim hq
/-- o.m(e, .., k = v, ..) -/
def tMethN (C : Addr) (m : Str) (n nk : Nat) (sp : Sp) (gV : List V → List V → List V) (E : XK) (ta : TE) (t tk : TA) : TE := fun σ H Q => ta σ H fun x H1 => ∃ a dx fs, x = .ref a ∧ H1 a = some (.ins C dx fs) ∧ fs.lookup m = none ∧ t σ H1 fun vs H2 => tk σ H2 fun zs H3 => vs.length = n ∧ zs.length = nk ∧ sp (gV (.ref a :: vs) zs) H3 Q E
variable {x : Expr} {xs : List Expr} {t tk : TA} {ta : TE} {C : Addr} {E : XK} {sp : Sp} {CX : CXT} {gg : List Value → List Value → List Value} {gV : List V → List V → List V}
theorem pe_methN {pl : Sem Bool} (he : PE X a ta) (hc : Cls X.K C) (hm : Meth X.K C m f) (Fn : FnOk X.prog X.w X.K X.mg X.base CX k f fd ps sp) (hr : Room k X.A) (hb : KBn X.K fd ps (n + 1) ks gg gV) (hx : Passes CX X E) (ha : PA X (x :: xs) t) (hk : PK X kws tk)
    (hall : (backToKw pos (keywordEach kws X.env)).all (·.1.isSome) = true) (hks : (backToKw pos (keywordEach kws X.env)).filterMap (·.1) = ks) (hst : starEach (x :: xs) X.env = (false, eval x X.env) :: starEach xs X.env)
    (hpl : ((backTo pos (starEach (x :: xs) X.env)).any (·.1) || (backToKw pos (keywordEach kws X.env)).any (·.1.isNone)) = false)
    (ht : eval (.Call (.Attribute a m apos) (x :: xs) kws pos) X.env = (do
      let ov ← eval a X.env
      standAt apos.atName
      let (f, first) ← holding
                                                                                                              [ov] (getMethod ov m pl)
      callWith pos f first (backTo pos (starEach (x :: xs) X.env)) (backToKw pos (keywordEach kws X.env)))) : PE X (.Call (.Attribute a m apos) (x :: xs) kws pos) (tMethN C m n ks.length sp gV E ta t tk) := by
  refine ⟨fun pins s
                                                                                                              σ H Q I h => ?_⟩
  refine PySem.W.methodCall_KW (pl := pl) (thn (he.run pins s σ H _ I h) fun u s1 ⟨y, H1, I1, rx, b, dx, fs, ex, eb, l, q⟩ => ?_) ht
  subst ex
  obtain rfl : u = Value.ref b := rx
  refine getmeth_ok I1 eb hc hm l ?_
  refine PySem.W.callWith_KW (first := [.ref b]) (h₀ := X.base) I.ok.mod.kin hm.kp hall (thn (ha.run pos pins s1 σ H1 _ I1 q) fun us s2 ⟨vs, H2, I2, r, q2⟩ => ?_) hpl hst
  refine thn (hk.run pos pins s2 σ H2 _ I2 q2) fun ws s3 ⟨zs, H3, I3, rz, l1, l2, q3⟩ => ⟨I3.kIn, ?_⟩
  rw [hks]
  exact run_fnN (us := .ref b :: us) (vs := .ref b :: vs) Fn hr hb hx I3 (.cons rfl r) rz (congrArg (· + 1) l1) l2 q3
theorem pe_methN0 {pl : Sem Bool} (he : PE X a ta) (hc : Cls X.K C) (hm : Meth X.K C m f) (Fn : FnOk X.prog X.w X.K X.mg X.base CX k f fd ps sp) (hr : Room k X.A) (hb : KBn X.K fd ps 1 ks gg gV) (hx : Passes CX X E) (hk : PK X kws tk)
    (hall : (backToKw pos (keywordEach kws X.env)).all (·.1.isSome) = true) (hks : (backToKw pos (keywordEach kws X.env)).filterMap (·.1) = ks)
    (hpl : ((backTo pos (starEach [] X.env)).any (·.1) || (backToKw pos (keywordEach kws X.env)).any (·.1.isNone)) = false)
    (ht : eval (.Call (.Attribute a m apos) [] kws pos) X.env = (do
      let ov ← eval a X.env
      standAt apos.atName
      let (f, first) ← holding
                                                                                                              [ov] (getMethod ov m pl)
      callWith pos f first (backTo pos (starEach [] X.env)) (backToKw pos (keywordEach kws X.env)))) : PE X (.Call (.Attribute a m apos) [] kws pos) (tMethN C m 0 ks.length sp gV E ta tNil tk) := by
  refine ⟨fun pins s
                                                                                                              σ H Q I h => ?_⟩
  refine PySem.W.methodCall_KW (pl := pl) (thn (he.run pins s σ H _ I h) fun u s1 ⟨y, H1, I1, rx, b, dx, fs, ex, eb, l, q⟩ => ?_) ht
  subst ex
  obtain rfl : u = Value.ref b := rx
  refine getmeth_ok I1 eb hc hm l ?_
  refine PySem.W.callWith_KW0 (first := [.ref b]) (h₀ := X.base) I.ok.mod.kin hm.kp hall ?_ hpl
  refine thn (hk.run pos pins s1 σ H1 _ I1 q) fun ws s3 ⟨zs, H3, I3, rz, l1, l2, q3⟩ => ⟨I3.kIn, ?_⟩
  rw [hks]
  exact run_fnN (us := [.ref b]) (vs := [.ref b]) Fn hr hb hx I3 (.cons rfl .nil) rz rfl l2 q3
theorem methK_D {σ : L2.St} {H : Hp} {Q : VK} (h : tD X.K cl F W (cMethK c m Φ n ks.length p g fs gs) σ H Q) :
    tMethN (cl c) m n ks.length (spD X.K cl Φ) (fun vs zs => prm p (vs ++ zs)) (fun c d H => ∃ σ, W c d σ H) (tD X.K cl F W g) (tA X.K cl F W fs) (tA X.K cl F W gs) σ H Q := by
  obtain ⟨e, G, st, q⟩ := h
  refine tD_then st q fun r e1 v H1 G1 s1 k1 r1 z => ?_
  cases y : e1.frz r with
  | none => rw [y] at z; exact z.elim
  | some pr =>
    obtain ⟨d, e2⟩ := pr
    rw [y] at z
    obtain ⟨G2, s2, k2, r2⟩ := frz_ok s1 r1 y
    simp only [methKO] at z
    split at z
    · rename_i hi
      obtain ⟨hi1, hi2⟩ := Bool.and_eq_true_iff.mp hi
      obtain ⟨ns, l, rfl⟩ := isObjC_inv hi1
      have r2' := r2
      cases r2 with
      | obj h1 hl rl =>
        refine ⟨_, _, _, rfl, s2.ret.gh _ _ h1, lookup_zip_none (by simpa [hasN] using hi2), tA_then s2 z fun rs e3 vs H3 G3 s3 k3 r3 z => ?_⟩
        cases y3 : e3.frzs rs with
        | none => rw [y3] at z; exact z.elim
        | some p3 =>
          obtain ⟨ds, e4⟩ := p3
          rw [y3] at z
          obtain ⟨G4, s4, k4, r4⟩ := frzs_ok s3 r3 y3
          refine tA_then s4 z fun qs e5 zs H5 G5 s5 k5 r5 z => ?_
          cases y5 : e5.frzs qs with
          | none => rw [y5] at z; exact z.elim
          | some p5 =>
            obtain ⟨es, e6⟩ := p5
            rw [y5] at z
            obtain ⟨G6, s6, k6, r6⟩ := frzs_ok s5 r5 y5
            simp only at z
            split at z
            · rename_i hl2
              refine ⟨r4.length.symm.trans hl2.1, r6.length.symm.trans hl2.2, ?_⟩
              have g46 : Same G4 G6 := fun b o q => k6.gg b o (k5.gg b o q)
              have rr : RepL X.K cl G6 (D.obj c ns l :: ds ++ es) (V.ref _ :: vs ++ zs) := RepL.append (.cons (((r2'.mono k3.gg).mono k4.gg).mono g46) (r4.mono g46)) r6
              exact callO_D (Φ := Φ) (ds := prm p (D.obj c ns l :: ds ++ es)) s6 (repL_prm rr p) z (fun d v H' G' s7 k7 rv hq => hq v H' G' s7 ((((((k1.trans k2).trans k3).trans k4).trans k5).trans k6).trans k7) rv) (fun c d H' z => ⟨σ, z⟩)
            · exact z.elim
    · exact z.elim
theorem re_methK {pl : Sem Bool} (hc : Cls X.K (cl c)) (hm : Meth X.K (cl c) m f) (Fn : FnOk X.prog X.w X.K X.mg X.base (L2N.CX X.prog X.w) k f fd ps (spD X.K cl Φ)) (hr : Room k X.A) (tk : L2N.Takes X W) (hW : SI W) (hb : KBp X.K fd ps (n + 1) ks p)
    (h : RE X cl F W a g) (ha : RA X cl F W (x :: xs) fs) (hkw : RK X cl F W kws gs)
    (hall : (backToKw pos (keywordEach kws X.env)).all (·.1.isSome) = true := by rfl) (hks : (backToKw pos (keywordEach kws X.env)).filterMap (·.1) = ks := by rfl) (hst : starEach (x :: xs) X.env = (false, eval x X.env) :: starEach xs X.env := by rfl)
    (hpl : ((backTo pos (starEach (x :: xs) X.env)).any (·.1) || (backToKw pos (keywordEach kws X.env)).any (·.1.isNone)) = false := by rfl)
    (ht : eval (.Call (.Attribute a m apos) (x :: xs) kws pos) X.env = (do
      let ov ← eval a X.env
      standAt apos.atName
      let (f, first) ← holding
                                                                                                              [ov] (getMethod ov m pl)
      callWith pos f first (backTo pos (starEach (x :: xs) X.env)) (backToKw pos (keywordEach kws X.env))) := by rfl) : RE X cl F W (.Call (.Attribute a m apos) (x :: xs) kws pos) (cMethK c m Φ n ks.length p g fs gs) :=
  ⟨PE.imp (pe_methN (pl := pl) (E := fun c d H => ∃ σ, W c d σ H) h.pe hc hm Fn hr hb (L2N.passes_call tk fun c d σ H ⟨σ', z⟩ => hW c d σ' σ H z) ha.pa hkw.pk hall hks hst hpl ht) fun σ H Q z => methK_D z⟩
theorem re_methK0 {pl : Sem Bool} (hc : Cls X.K (cl c)) (hm : Meth X.K (cl c) m f) (Fn : FnOk X.prog X.w X.K X.mg X.base (L2N.CX X.prog X.w) k f fd ps (spD X.K cl Φ)) (hr : Room k X.A) (tk : L2N.Takes X W) (hW : SI W) (hb : KBp X.K fd ps 1 ks p)
    (h : RE X cl F W a g) (hkw : RK X cl F W kws gs)
    (hall : (backToKw pos (keywordEach kws X.env)).all (·.1.isSome) = true := by rfl) (hks : (backToKw pos (keywordEach kws X.env)).filterMap (·.1) = ks := by rfl)
    (hpl : ((backTo pos (starEach [] X.env)).any (·.1) || (backToKw pos (keywordEach kws X.env)).any (·.1.isNone)) = false := by rfl)
    (ht : eval (.Call (.Attribute a m apos) [] kws pos) X.env = (do
      let ov ← eval a X.env
      standAt apos.atName
      let (f, first) ← holding
                                                                                                              [ov] (getMethod ov m pl)
      callWith pos f first (backTo pos (starEach [] X.env)) (backToKw pos (keywordEach kws X.env))) := by rfl) : RE X cl F W (.Call (.Attribute a m apos) [] kws pos) (cMethK c m Φ 0 ks.length p g cNil gs) := by
  refine ⟨PE.imp (pe_methN0 (pl := pl) (E := fun c d H => ∃ σ, W c d σ H) h.pe hc hm Fn hr hb (L2N.passes_call tk fun c d σ H ⟨σ', z⟩ => hW c d σ' σ H z) hkw.pk hall hks hpl ht) fun σ H Q z => ?_⟩
  have z := methK_D z
  obtain ⟨e, G, st, q⟩ := z
  refine ⟨e, G, st, post_imp q fun r e1 q v H1 G1 s1 k1 r1 => ?_⟩
  obtain ⟨b, dx, fs, ex, eb, l, z⟩ := q v H1 G1 s1 k1 r1
  refine ⟨b, dx, fs, ex, eb, l, ?_⟩
  obtain ⟨e', G', st', q'⟩ := z
  exact q' [] H1 G' st' .refl .nil
end
end DL

namespace DL
open PySem L2 PySem.Spec PyProof.Rows

/-! ### t[::-1] -/
section
open HT
variable {prog : Program} {w : World} {A :
                                                                                                              Around} {E : Value → Shared → Prop} {s : Shared}
theorem applied_rev {sl : Addr} {w1st w2nd vs : Value} {n : Nat} {Q : Int × Int × Nat → Shared → Prop} (hslice : s.heap.IsSliceOf sl w1st w2nd vs) (p1st : IsPart w1st none) (p2nd : IsPart w2nd none) (p3rd : IsPart vs (some (-1)))
    (h : Q (((n : Nat) : Int) - 1, -1, n) s) : wpAny (model prog w) A (Builtin.Slice.sliceApplied (.ref sl) (pure (n : Int))) Q E s := by
  obtain ⟨slo, hslo, hslc, hsld⟩ := id hslice
  unfold Builtin.Slice.sliceApplied
                                                                                                              Builtin.Slice.sliceFields
  refine wpAny_bind (wpAny_bind (wpAny_field hslo hsld (x := w1st) rfl (wpAny_bind (wpAny_field hslo hsld (x := w2nd) rfl (wpAny_bind (wpAny_field hslo hsld (x := vs) rfl (wpAny_pure ?_)))))))
  refine wpAny_bind (slicePart_ p3rd ?_)
  show wpAny _ _ (if ((-1 : Int) == 0) = true then _ else _) _ _ s
  rw [if_neg (by decide)]
  refine wpAny_bind (slicePart_ p1st (wpAny_bind (slicePart_ p2nd (wpAny_bind (wpAny_pure ?_)))))
  have e : Builtin.Slice.sliceAdjust none none (-1) (n : Int) = ((n : Int) - 1, -1) := by
    unfold
                                                                                                              Builtin.Slice.sliceAdjust
    simp
  show wpAny _ _ (match Builtin.Slice.sliceAdjust none none (-1) (n : Int) with | (lo, hi) => pure (lo, (-1 : Int), Builtin.Slice.slicePlaces lo hi (-1))) _ _ s
  rw [e]
  have e2 : Builtin.Slice.slicePlaces ((n : Int) - 1) (-1) (-1) = n := by
    unfold
                                                                                                              Builtin.Slice.slicePlaces
    have h1 : ¬ ((-1 : Int) > 0) := by omega
    simp only [h1, if_false]
    split
    · simp
    · omega
  show wpAny _ _ (pure ((n : Int) - 1, (-1 : Int), Builtin.Slice.slicePlaces ((n : Int) - 1) (-1) (-1))) _ _ s
  rw [e2]
  exact wpAny_pure h
theorem fm_some {α β : Type} {f : α → Option β} {g : α → β} : ∀ {l : List α}, (∀ m ∈ l, f m = some (g m)) → l.filterMap f = l.map g
  | [], _ => rfl
  | a :: l, h => by rw [List.filterMap_cons, h a List.mem_cons_self, List.map_cons, fm_some fun m hm => h m (List.mem_cons_of_mem _ hm)]
theorem pick_rev (xs : Array Value) : ((List.range xs.size).filterMap fun (m : Nat) => xs[(((xs.size : Nat) : Int) - 1 + (m : Int) * (-1)).toNat]?).toArray = xs.toList.reverse.toArray := by
  congr 1
  refine List.ext_getElem? fun i => ?_
  have e : (List.range xs.size).filterMap (fun (m : Nat) => xs[(((xs.size : Nat) : Int) - 1 + (m : Int) * (-1)).toNat]?) = (List.range xs.size).map (fun m => xs[xs.size - 1 - m]?.getD .none) := by
    refine fm_some fun m hm => ?_
    have hm := List.mem_range.mp hm
    have e1 : (((xs.size : Nat) : Int) - 1 + (m : Int) * (-1)).toNat = xs.size - 1 - m := by omega
    have hl : xs.size - 1 - m < xs.size := by omega
    simp only [e1]
    rw [Array.getElem?_eq_getElem hl]
    rfl
  rw [e, List.getElem?_map]
  by_cases hi : i < xs.size
  · rw [List.getElem?_range hi, List.getElem?_reverse (by simpa using hi)]
    have hl : xs.size - 1 - i < xs.size := by omega
    simp [hl]
  · rw [List.getElem?_eq_none (by simpa using hi), List.getElem?_eq_none (by simpa using hi)]
    rfl
theorem getItem_tuple_rev {t sl : Addr} {elts : Array Value} {w1st w2nd vs : Value} {Q : Value → Shared → Prop} (htup : IsTup s.heap t elts) (hslice : s.heap.IsSliceOf sl w1st w2nd vs) (p1st : IsPart w1st none) (p2nd : IsPart w2nd none) (p3rd : IsPart vs (some (-1)))
    (h : Q (.ref s.heap.objs.size) { s with heap := s.heap.push { cls := .type "tuple", data := .seq elts.toList.reverse.toArray } })
    (hsize : elts.size ≤ sizeLine) : wpAny (model prog w) A (getItem (.ref t) (.ref sl)) Q E s := by
  have hfits : sizeOk (.seq elts.toList.reverse.toArray) := by
    show elts.toList.reverse.toArray.size ≤ sizeLine
    simpa using hsize
  obtain ⟨slo, hslo, hslc, hsld⟩ := id hslice
  have hslt : s.TypeIs (.ref sl) "slice" := ⟨slo, hslo, hslc⟩
  unfold getItem
  try with_reducible
                                                                                                              refine wpAny_holding ?_
  first | refine wpAny_bind
                                                                                                              (wpAny_pure ?_) | skip
  refine wpAny_bind (wpAny_sequenceKey htup.typeIs (by decide) ?_)
  refine wpAny_bind (wpAny_callSpecial?_slot (name := Str.ofString "__getitem__") htup.typeIs PyProof.Rows.slot_tuple_getitem
    (wpAny_call_entry PyProof.Rows.slot_tuple_getitem htup.typeIs entry_tuple_getitem ?_ (args_tuple_getitem _ _)))
  show wpAny _ _ (Builtin.Tuple.tupleItemsOf
                                                                                                              (.ref t) >>= _) _ _ s
  refine wpAny_bind (tupleItemsOf_ htup ?_)
  refine wpAny_bind (wpAny_typeOf hslt ?_)
  rw [if_pos (by decide)]
  refine wpAny_bind (applied_rev hslice p1st p2nd p3rd ?_)
  have hnot : ¬ (((((elts.size : Nat) : Int) - 1) == 0 && (-1 : Int) == 1 && elts.size == elts.size) = true) := by
    intro q
    rw [Bool.and_eq_true,
                                                                                                              Bool.and_eq_true] at q
    exact absurd q.1.2 (by decide)
  show wpAny _ _ (if ((((elts.size : Nat) : Int) - 1) == 0 && (-1 : Int) == 1 && elts.size == elts.size) = true then _ else _) _ _ s
  rw [if_neg hnot, pick_rev]
  first
    | exact wpAny_bind (m := Builtin.Tuple.tupleExact _) (wpAny_newObj_type (wpAny_pure ⟨_, rfl, wpAny_pure h⟩) hfits)
    | exact wpAny_bind (m := Builtin.Tuple.tupleExact _) (wpAny_newObj_type (wpAny_bind (wpAny_pure (wpAny_pure ⟨_, rfl, wpAny_pure h⟩))) hfits)
    | exact wpAny_bind (wpAny_bind (m := Builtin.Tuple.tupleExact _) (wpAny_newObj_type (wpAny_pure (wpAny_pure ⟨_, rfl, wpAny_pure h⟩)) hfits))
    | exact wpAny_bind (wpAny_bind (m := Builtin.Tuple.tupleExact _) (wpAny_newObj_type (wpAny_pure ⟨_, rfl, wpAny_pure h⟩) hfits))
end
section
variable {X : Cx} {cl : Str → Addr} {F : Fra} {W : WX}
def tRevT (K : PySem.W.Frag) (te : TE) : TE := fun σ H Q => te σ H fun x H1 => ∃ a xs, x = .ref a ∧ SqT K H1 a xs ∧ ∀ p, H1 p = none → Q (.ref p) (upd H1 p (.tup xs.reverse))
theorem pe_revT {e : Expr} {te : TE} {k : Nat} {p1 p2 p3 pos : Pos} (he : PE X e te) : PE X (.Subscript e (.Slice none none (some (.UnaryOp .USub (.Constant (.int 1) k p1) p2)) p3) pos) (tRevT X.K te) := by
  refine ⟨fun pinned s σ H Q I h => ?_⟩
  refine Subscript_ (thn (he.run pinned s σ H _ I h) fun v s1 ⟨x, H1, J1, rel1, wish1⟩ => ?_)
  obtain ⟨a, xs, ex, hx, q⟩ := wish1
  subst ex
  cases rel1
  have hstep : PO X (some (.UnaryOp .USub (.Constant (.int 1) k p1) p2)) (tPart (tUn (rU fun i => .int (-i)) (tC (.int 1)))) := po_some (pe_un un_neg pe_int)
  refine wpAny_Slice (thn (po_none.run pinned s1 σ H1 (fun o H2 => o = none ∧ H2 = H1) J1 ⟨rfl, rfl⟩) fun w1st s2 ⟨l, H2, J2, p1st, el, e2⟩ => ?_)
  subst el e2
  refine thn (po_none.run pinned s2 σ H2 (fun o H3 => o = none ∧ H3 = H2) J2 ⟨rfl, rfl⟩) fun w2nd s3 ⟨u, H3, J3, p2nd, eu, e3⟩ => ?_
  subst eu e3
  refine thn (hstep.run pinned s3 σ H3 (fun o H4 => o = some (-1) ∧ H4 = H3) J3 ⟨1, rfl, -1, rfl, rfl, rfl⟩) fun vs s4 ⟨o, H4, J4, ps, eo, e4⟩ => ?_
  subst eo e4
  have J5 : Inv X pinned σ H4 { s4 with heap := s4.heap.push { cls := .type "slice", data := .fields #[w1st, w2nd, vs] } } := J4.kept (t' := s4.toks) fun b ob q => Heap.get?_push_of_some _ q
  obtain ⟨its, r, htup, hz⟩ := J5.tuple hx
  have hlen := r.length
  show wpAny (model X.prog X.w) X.A (subscriptTail e (.Slice none none (some (.UnaryOp .USub (.Constant (.int 1) k p1) p2)) p3) (.ref a) (.ref s4.heap.objs.size)) (EP X pinned σ Q) X.xe { s4 with heap := s4.heap.push { cls := .type "slice", data := .fields #[w1st, w2nd, vs] } }
  refine tail_any (ops := [.ref a, .ref s4.heap.objs.size]) htup.typeIs (PyProof.Rows.slot_tuple_getitem.lookup) ?_ (by with_unfolding_all rfl)
  refine getItem_tuple_rev htup (Heap.IsSliceOf.new _ w1st w2nd vs) p1st p2nd ps ?_ (by rw [List.size_toArray]; omega)
  refine ⟨.ref _, _, J5.laid (t' := s4.toks) (o := .tup xs.reverse) (fun b ob q => Heap.get?_push_of_some _ q) (Nat.le_refl _) ?_, rfl, q _ (J5.hok.fresh (Nat.le_refl _))⟩
  exact ⟨by rw [List.length_reverse]; exact hz, _, r.reverse, IsTup.new _ _⟩
def revD : D → Option D
  | .tup l => some (.tup l.reverse)
  | _ => none
def cRevT (f : M R) : M R := fun e => (f e).bnd fun r e1 => opt ((e1.rd r).bind revD) e1
theorem re_revT {x : Expr} {f : M R} {k : Nat} {p1 p2 p3 pos : Pos} (h : RE X cl F W x f) : RE X cl F W (.Subscript x (.Slice none none (some (.UnaryOp .USub (.Constant (.int 1) k p1) p2)) p3) pos) (cRevT f) := by
  refine ⟨PE.imp (pe_revT h.pe) fun σ H Q ⟨e, G, st, q⟩ => tD_then st q fun r e1 v H1 G1 s1 k1 r1 z => ?_⟩
  obtain ⟨dz, z1, z⟩ := post_opt z
  obtain ⟨d, hd, hz⟩ := Option.bind_eq_some_iff.mp z1
  have t := s1.top r1 hd
  cases d with
  | tup l =>
    cases hz
    obtain ⟨a, vs, rfl, h1, r⟩ := t.tup s1.ret.gh
    refine ⟨a, vs, rfl, h1, fun p hp => ?_⟩
    have sp : Step H1 G1 (upd H1 p (.tup vs.reverse)) (upd G1 p (.tup vs.reverse)) := .lay .refl hp
    exact z _ _ _ (s1.step sp) (k1.trans (Kp.step s1 sp)) (Rep.tup (.inl (.inl upd_same)) ((RepL.reverse r).mono (sp.same s1.ret.gh).2.1))
  | _ => cases hz
end
end DL

namespace DL
open PySem L2 PySem.Spec PyProof.Rows

/-! ### sorted -/
def srtLe (a b : D) : Bool := PySem.W.dataLe false D.py a b
def sortD (l : List D) : List D := l.mergeSort srtLe
def tupC : D → Bool
  | .tup (_ :: _) => true
  | _ => false
def othC : D → Bool
  | .int _ | .str _ | .bl _ | .lst _ => true
  | _ => false
/-- they can be sorted -/
def srtOk (l : List D) : Bool := D.plL l && (l.all fun a => l.all fun b => PySem.W.alike a.py b.py) && (l.all tupC || l.all othC) && l.all fun a => decide (a.py.depth ≤ 60)
def sortedD : List D → Option D
  | [.lst l] => if srtOk l then some (.lst (sortD l)) else none
  | _ => none
theorem pyL_map : ∀ l : List D, D.pyL l = l.map D.py
  | [] => rfl
  | d :: l => by rw [D.pyL, List.map_cons, pyL_map l]
theorem plL_all : ∀ {l : List D}, D.plL l = true → ∀ d ∈ l, d.pl = true
  | d :: l, h, x, hx => by
    obtain ⟨h1, h2⟩ := Bool.and_eq_true_iff.mp (show (d.pl && D.plL l) = true from h)
    rcases List.mem_cons.mp
                                                                                                              hx with rfl | hx
    · exact h1
    · exact plL_all h2 x hx
section
variable {X : Cx} {cl : Str → Addr} {F : Fra} {W : WX}
theorem each_zip {K : PySem.W.Frag} {H : Hp} : ∀ {ds : List D} {vs : List V} {us : List Value}, RepL K cl H ds vs → Vals vs us → PySem.W.EachIs (fun (u : Value) (p : D × V) => Rep K cl H p.1 p.2 ∧ RelV p.2 u) us (ds.zip vs)
  | [], _, _, .nil, .nil =>
                                                                                                              .nil
  | _ :: _, _, _, .cons r t, .cons q s => .cons ⟨r, q⟩ (each_zip t s)
theorem each_all {α β : Type} {R : α → β → Prop} : ∀ {us : List α} {bs : List β}, PySem.W.EachIs R us bs → ∀ b ∈ bs, ∃ u ∈ us, R u b
  | _, _, .cons r t, b, hb => by
    rcases List.mem_cons.mp
                                                                                                              hb with rfl | hb
    · exact ⟨_, List.mem_cons_self, r⟩
    · obtain ⟨u, h1, h2⟩ := each_all t b hb
      exact ⟨u, List.mem_cons_of_mem _ h1, h2⟩
theorem each_vals {K : PySem.W.Frag} {H : Hp} : ∀ {us : List Value} {ps : List (D × V)}, PySem.W.EachIs (fun (u : Value) (p : D × V) => Rep K cl H p.1 p.2 ∧ RelV p.2 u) us ps → Vals (ps.map (·.2)) us ∧ RepL K cl H (ps.map (·.1)) (ps.map (·.2))
  | _, _, .nil => ⟨.nil, .nil⟩
  | _, _, .cons r t => ⟨.cons r.2 (each_vals t).1, .cons r.1 (each_vals t).2⟩
theorem each_mem {α β : Type} {R R' : α → β → Prop} : ∀ {us : List α} {bs : List β}, PySem.W.EachIs R us bs → (∀ u b, b ∈ bs → R u b → R' u b) → PySem.W.EachIs R' us bs
  | _, _, .nil, _ => .nil
  | _, _, .cons r t, h => .cons (h _ _ List.mem_cons_self r) (each_mem t fun u b hb => h u b (List.mem_cons_of_mem _ hb))
theorem repL_pairs {K : PySem.W.Frag} {H : Hp} : ∀ {ps : List (D × V)}, (∀ p ∈ ps, Rep K cl H p.1 p.2) → RepL K cl H (ps.map (·.1)) (ps.map (·.2))
  | [], _ => .nil
  | p :: ps, h => .cons (h p List.mem_cons_self) (repL_pairs fun q hq => h q (List.mem_cons_of_mem _ hq))
theorem repL_zip {K : PySem.W.Frag} {H : Hp} : ∀ {ds : List D} {vs : List V}, RepL K cl H ds vs → ∀ p ∈ ds.zip vs, Rep K cl H p.1 p.2
  | [], _, .nil, p, hp => by simp at hp
  | _ :: _, _, .cons r t, p, hp => by
    rcases List.mem_cons.mp (show p ∈ (_, _) :: List.zip _ _ from hp) with rfl | hp
    · exact r
    · exact repL_zip t p hp
theorem zip_fst {K : PySem.W.Frag} {H : Hp} : ∀ {ds : List D} {vs : List V}, RepL K cl H ds vs → (ds.zip vs).map (·.1) = ds
  | [], _, .nil => rfl
  | _ :: _, _, .cons r t => by rw [List.zip_cons_cons, List.map_cons, zip_fst t]
/-- the pairs, sorted -/
def sortP (ds : List D) (vs : List V) : List (D × V) := (ds.zip vs).mergeSort (PySem.W.dataLe false fun p => p.1.py)
theorem sortP_fst {K : PySem.W.Frag} {H : Hp} {ds : List D} {vs : List V} (r : RepL K cl H ds vs) : (sortP ds vs).map (·.1) = sortD ds := by
  unfold sortP sortD
  have e : ((ds.zip vs).mergeSort (PySem.W.dataLe false fun p => p.1.py)).map (·.1) = ((ds.zip vs).map (·.1)).mergeSort srtLe := List.map_mergeSort fun a _ b _ => rfl
  rw [e, zip_fst r]
theorem cr_sortD (hu : X.A.units + 64 < cLine) : CallR X (.builtin "sorted") fun xs H Q => ∃ a ds vs, xs = [V.ref a] ∧ SqL X.K H a vs ∧ RepL X.K cl H ds vs ∧ srtOk ds = true ∧ ∀ p, H p = none → Q (.ref p) (upd H p (.lst ((sortP ds vs).map (·.2)))) := by
  intro pins s σ
                                                                                                              H xs us Q I r h
  obtain ⟨a, ds, vs, rfl, hs, rp, ok, q⟩ := h
  obtain ⟨its, rv, hl,
                                                                                                              hz⟩ := I.list hs
  rw [Vals.ref1 r]
  unfold srtOk at ok
  simp only [Bool.and_eq_true, Bool.or_eq_true, List.all_eq_true, decide_eq_true_eq] at ok
  obtain ⟨⟨⟨pl, al⟩, kd⟩, dp⟩ := ok
  have hlen : (ds.zip vs).length = vs.length := by rw [List.length_zip, rp.length, Nat.min_self]
  have hm : (ds.zip vs).map (fun p => p.1.py) = ds.map D.py := by
    rw [show (fun p : D × V => p.1.py) = D.py ∘ (·.1) from rfl, ← List.map_map, zip_fst rp]
  have e := each_zip rp rv
  refine PySem.W.sorted_data (bs := ds.zip vs) (enc := fun p => p.1.py) (R := fun u p => Rep X.K cl H p.1 p.2 ∧ RelV p.2 u) hl.isList e ?_ ?_ ?_ ?_ ?_ fun out l1 e2 => ?_
  · refine each_mem e fun u p hp hq => ?_
    obtain ⟨as, hr⟩ := Dp.reads I p.1.py p.2 u (hq.1.dp (plL_all pl _ (List.of_mem_zip hp).1)) hq.2
    exact ⟨as, hr⟩
  · rw [hm]
    intro d hd d' hd'
    obtain ⟨x, hx, rfl⟩ := List.mem_map.mp hd
    obtain ⟨y, hy, rfl⟩ := List.mem_map.mp hd'
    exact al x hx y hy
  · rw [hm]
    rcases kd with kd | kd
    · refine .inl fun d hd => ?_
      obtain ⟨x, hx, rfl⟩ := List.mem_map.mp hd
      have k := kd x hx
      unfold tupC at k
      split at k
      · exact ⟨_, _, by rw [D.py, D.pyL]⟩
      · cases k
    · refine .inr fun d hd => ?_
      obtain ⟨x, hx, rfl⟩ := List.mem_map.mp hd
      have k := kd x hx
      cases x <;> first | cases k; done | (refine ⟨?_, fun xs => ?_⟩ <;> (rw [D.py]; intro z; cases z))
  · rw [hlen]; exact hz
  · intro p hp
    have := dp p.1 (List.of_mem_zip hp).1
    omega
  · obtain ⟨v1, _⟩ := each_vals e2
    have l2 : ((sortP ds vs).map (·.2)).length = vs.length := by rw [List.length_map, sortP, List.length_mergeSort, hlen]
    exact ⟨.ref _, _, I.laid (t' := s.toks) (o := .lst ((sortP ds vs).map (·.2))) (fun b o => sortedAll_old) (Nat.le_succ _) ⟨by rw [l2]; exact hz, out, _, v1, (sortedAll_at s.heap its out.toArray).choose_spec⟩, rfl, q _ (I.hok.fresh (Nat.le_succ _))⟩
theorem cd_sorted (hu : X.A.units + 64 < cLine) : CallD X cl (.builtin "sorted") sortedD := by
  refine ⟨_, cr_sortD (cl := cl) hu, fun H G xs ds dz Q gh t e k => ?_⟩
  unfold sortedD at e
  split at e
  · split at e
    · rename_i ok
      cases e
      obtain ⟨v, rfl, tv⟩ := topL1 t
      obtain ⟨a, vs, rfl, h1, r⟩ := tv.lst gh
      refine ⟨a, _, vs, rfl, SqL.of h1, r.mono gh, ok, fun p hp => k _ _ _ (.lay .refl hp) (.lst upd_same ?_)⟩
      rw [← sortP_fst r]
      refine (repL_pairs fun p hp => ?_).mono (same_upd (gh.free hp))
      exact repL_zip r p (List.mem_mergeSort.mp hp)
    · cases e
  · cases e
end
end DL

namespace DL
open PySem L2 PySem.Spec PyProof.Rows

/-! ### {k: v for .. in ..} -/
def kD : D → Option Key
  | .int i => some (.inl i)
  | .str s => some (.inr s)
  | _ => none
def putDv (ks : List Key) (l : List D) (k : Key) (d : D) : List Key × List D :=
  if (ks.any fun j => decide (j = k)) = true then (ks, (ks.zip l).map fun p => if p.1 = k then d else p.2) else (ks ++ [k], l ++ [d])
def dcL (vs : List Nat) (g : Tg) (t : M Bool) (fk fv : M R) : List D → List Key → List D → M (List Key × List D)
  | [], ak, al, e => .ok (ak, al) e
  | d :: ds, ak, al, e => match g d (e.wipe vs) with
    | none => .bad
    | some e1 => match t e1 with
      | .ok true e2 => (match fk e2 with
        | .ok r e3 => (match (e3.rd r).bind kD with
          | some k => (match fv e3 with
            | .ok q e4 => (match e4.frz q with
              | some (y, e5) => if ak.length < sizeLine then dcL vs g t fk fv ds (putDv ak al k y).1 (putDv ak al k y).2 e5 else .bad
              | none => .bad)
            | _ => .bad)
          | none => .bad)
        | _ => .bad)
      | .ok false e2 => dcL vs g t fk fv ds ak al e2
      | _ => .bad
def cDc (vs : List Nat) (fi : M (List D)) (g : Tg) (t : M Bool) (fk fv : M R) : M R := fun e => (fi e).bnd fun ds e1 => if plainAt e1 vs then (match dcL vs g t fk fv ds [] [] e1 with
  | .ok out e2 => .ok (.val (.dct out.1 out.2)) (e1.back e2 vs)
  | _ => .bad) else .bad
section
variable {K : PySem.W.Frag} {cl : Str → Addr} {F : Fra} {e e' : Env} {σ : L2.St} {H G H' G' : Hp}
theorem any_zip {k : Key} : ∀ {ks : List Key} {us : List V}, ks.length = us.length → ((ks.zip us).any fun kv => decide (kv.1 = k)) = ks.any fun j => decide (j = k)
  | [], [], _ => rfl
  | [], _ :: _, h =>
                                                                                                              by simp at h
  | _ :: _, [], h =>
                                                                                                              by simp at h
  | a :: ks, u :: us, h => by rw [List.zip_cons_cons, List.any_cons, List.any_cons, any_zip (by simpa using h)]
theorem map_zip {k : Key} {d : D} {v : V} (rv : Rep K cl G d v) : ∀ {ks : List Key} {l : List D} {us : List V}, ks.length = us.length → RepL K cl G l us →
    ∃ us', (ks.zip us).map (fun kv => if kv.1 = k then (kv.1, v) else kv) = ks.zip us' ∧ ks.length = us'.length ∧ RepL K cl G ((ks.zip l).map fun p => if p.1 = k then d else p.2) us'
  | [], [], [], _, _ => ⟨[], rfl, rfl, .nil⟩
  | [], _, _ :: _, h, _ => by simp at h
  | _ :: _, _, [], h, _ => by simp at h
  | [], _ :: _, [], _, t => by cases t
  | a :: ks, x :: l, u :: us, h, .cons r t => by
    obtain ⟨us', h1, h2, h3⟩ := map_zip (k := k) rv (by simpa using h) t
    by_cases ha : a = k
    · refine ⟨v :: us', ?_, by simp [h2], ?_⟩
      · rw [List.zip_cons_cons, List.map_cons, if_pos ha, h1]; rfl
      · rw [List.zip_cons_cons, List.map_cons, if_pos ha]; exact .cons rv h3
    · refine ⟨u :: us', ?_, by simp [h2], ?_⟩
      · rw [List.zip_cons_cons, List.map_cons, if_neg ha, h1]; rfl
      · rw [List.zip_cons_cons, List.map_cons, if_neg ha]; exact .cons r h3
theorem put_zip {k : Key} {d : D} {v : V} (rv : Rep K cl G d v) {ks : List Key} {l : List D} {us : List V} (hl : ks.length = us.length) (r : RepL K cl G l us) :
    ∃ us', putK (ks.zip us) k v = (putDv ks l k d).1.zip us' ∧ (putDv ks l k d).1.length = us'.length ∧ RepL K cl G (putDv ks l k d).2 us' := by
  unfold putK putDv
  rw [any_zip hl]
  by_cases h : (ks.any fun j => decide (j = k)) = true
  · rw [if_pos h, if_pos h]
    exact map_zip rv hl r
  · rw [if_neg h, if_neg h]
    refine ⟨us ++ [v], ?_, by simp [hl], r.append (.cons rv .nil)⟩
    show ks.zip us ++ [(k, v)] = (ks ++ [k]).zip (us ++ [v])
    rw [List.zip_append hl]
    rfl
theorem kD_top {d : D} {v : V} {k : Key} (t : Top K cl H G d v) (h : kD d = some k) : v = kV k := by
  cases d with
  | int i => cases h; rcases t with t | ⟨_, _, _, t⟩; · cases t; rfl
             exact t.elim
  | str s => cases h; rcases t with t | ⟨_, _, _, t⟩; · cases t; rfl
             exact t.elim
  | _ => cases h
/-- through the turns of a comprehension: e1 at the beginning, e now -/
structure DcI (K : PySem.W.Frag) (cl : Str → Addr) (F : Fra) (σ : L2.St) (vs : List Nat) (p : Addr) (e1 : Env) (H1 G1 : Hp) (e : Env) (ak : List Key) (al : List D) (H G : Hp) : Prop where
  st : Stt K cl F (e.wipe vs) (L2.wipe σ vs) H G
  gg : Same G1 G
  hd : ∃ us, H p = some (.dK (ak.zip us)) ∧ ak.length = us.length ∧ RepL K cl G al us
  gd : G p = none
  kp : ∀ a o, H1 a = some o → Loose F e1 σ a → H a = some o ∧ (G1 a = none → G a = none)
  ow : ∀ (i : Nat) (d : D), i ∉ vs → e.s[i]? = some (.own d) → ∃ d', e1.s[i]? = some (.own d')
/-- one turn's target: the state within the turn -/
theorem DcI.turn {vs ws : List Nat} {p : Addr} {e1 e3 : Env} {H1 G1 H2 G2 : Hp} {ak : List Key} {al : List D} {σ2 : L2.St} (L : DcI K cl F σ vs p e1 H1 G1 e ak al H G) (hp : Loose F e1 σ p) (sp : Step H G H2 G2) (hw : ∀ i ∈ ws, i ∈ vs)
    (ag : Agr ws (L2.wipe σ vs) σ2) (ea : EAgr ws (e.wipe vs) e3) :
    Sub vs e1 σ e3 σ2 ∧ Same G1 G2 ∧ (∃ us, H2 p = some (.dK (ak.zip us)) ∧ ak.length = us.length ∧ RepL K cl G2 al us) ∧ G2 p = none ∧ (∀ a o, H1 a = some o → Loose F e1 σ a → H2 a = some o ∧ (G1 a = none → G2 a = none)) := by
  obtain ⟨a1, a2, a3⟩ := sp.same L.st.ret.gh
  obtain ⟨us, h1, hln, h2⟩ := L.hd
  refine ⟨⟨fun i d h => ?_, fun i hi => ?_⟩, L.gg.trans a2, ⟨us, a1 _ _ h1, hln, h2.mono a2⟩, sp.none L.st.ret.gh h1 L.gd, fun a o q l => ?_⟩
  · by_cases hiw : i ∈ ws
    · have := ea.pl i hiw _ h; cases this
    · rw [ea.out i hiw] at h
      by_cases hiv : i ∈ vs
      · cases wipe_in vs e hiv h
      · rw [wipe_out vs e hiv] at h
        exact ⟨hiv, L.ow i d hiv h⟩
  · rw [ag.2 i (fun z => hi (hw i z)), wipeσ_out vs σ hi]
  · obtain ⟨q1, q2⟩ := L.kp a o q l
    exact ⟨a1 _ _ q1, fun g => sp.none L.st.ret.gh q1 (q2 g)⟩
theorem dc_D {W : WX} {vs ws : List Nat} {fi : M (List D)} {g : Tg} {ft : M Bool} {fk fv : M R} {Q : VK} (hw : ∀ i ∈ ws, i ∈ vs) (hfr : ∀ d e e', g d e = some e' → EAgr ws e e') (h : tD K cl F W (cDc vs fi g ft fk fv) σ H Q) :
    tDc (fun σ H Q => ∃ e G, Stt K cl F e σ H G ∧ Post K cl F W σ (fi e) fun ds e' => ∀ J H' G', Stt K cl F e' σ H' G' → Kp F σ e H G e' H' G' → ItOk K cl G' J ds → Q J H') (tG K cl F ws g) (tB' K cl F W0 ft) (tD K cl F W0 fk) (tD K cl F W0 fv) vs σ H Q := by
  obtain ⟨e0, G0, st, q⟩ := h
  refine tI_then st q fun ds e1 J H1 G1 s1 k1 it z p hp => ?_
  by_cases pl : plainAt e1 vs = true
  · rw [if_pos pl] at z
    cases hl : dcL vs g ft fk fv ds [] [] e1 with
    | bad => rw [hl] at z; exact z.elim
    | exn x e2 => rw [hl] at z; exact z.elim
    | ok out e2 =>
      rw [hl] at z
      obtain ⟨lp, hp0⟩ := s1.fresh hp
      refine ⟨fun i m H => ∃ e ak al G, DcI K cl F σ vs p e1 H1 G1 e ak al H G ∧ m = ds.length - i ∧ i ≤ ds.length ∧ dcL vs g ft fk fv (ds.drop i) ak al e = .ok out e2, ⟨ds.length, e1, [], [], G1, ?_, by omega, Nat.zero_le _, by simpa using hl⟩, ?_⟩
      · have g1p : G1 p = none := s1.ret.gh.free hp
        exact ⟨(s1.layL hp).wipe vs, .refl _, ⟨[], upd_same, rfl, .nil⟩, g1p, fun a o h1 _ => ⟨by rw [upd_ne (ne_of_none h1 hp)]; exact h1, fun g => g⟩, fun i d _ h => ⟨d, h⟩⟩
      · rintro i m H ⟨e, ak, al, G, L, rfl, hi, hl⟩
        obtain ⟨it1, it2⟩ := it H G L.gg L.st.ret.gh
        by_cases hlt : i < ds.length
        · have hd : ds[i]? = some ds[i] := List.getElem?_eq_getElem hlt
          obtain ⟨hgo, hy⟩ := it1 i _ hd
          refine .inr ⟨hgo, fun H' => ∃ e ak al G, DcI K cl F σ vs p e1 H1 G1 e ak al H' G ∧ dcL vs g ft fk fv (ds.drop (i + 1)) ak al e = .ok out e2, fun H' ⟨e', ak', al', G', L', hl'⟩ => ⟨ds.length - (i + 1), by omega, e', ak', al', G', L', rfl, hlt, hl'⟩, fun x H2 y => ?_⟩
          obtain ⟨G2, sp, rx⟩ := hy x H2 y
          rw [List.drop_eq_getElem_cons hlt] at hl
          have hl : (match g ds[i] (e.wipe vs) with
            | none => Out.bad
            | some e1 => match ft e1 with
              | .ok true e2 => (match fk e2 with
                | .ok r e3 => (match (e3.rd r).bind kD with
                  | some k => (match fv e3 with
                    | .ok q e4 => (match e4.frz q with
                      | some (y, e5) => if ak.length < sizeLine then dcL vs g ft fk fv (ds.drop (i + 1)) (putDv ak al k y).1 (putDv ak al k y).2 e5 else .bad
                      | none => .bad)
                    | _ => .bad)
                  | none => .bad)
                | _ => .bad)
              | .ok false e2 => dcL vs g ft fk fv (ds.drop (i + 1)) ak al e2
              | _ => .bad) = .ok out e2 := hl
          cases hg : g ds[i] (e.wipe vs) with
          | none => rw [hg] at hl; cases hl
          | some e3 =>
            rw [hg] at hl
            refine ⟨e.wipe vs, e3, G2, _, L.st.step sp, rx, hg, fun σ2 ag s2 => ⟨wipe_agr ag hw, e3, G2, s2, ?_⟩⟩
            obtain ⟨sub, gg2, ⟨us, hu1, hul, hu2⟩, gp2, kp2⟩ := L.turn lp sp hw ag (hfr _ _ _ hg)
            have wag := wipe_agr ag hw
            cases ht : ft e3 with
            | bad => simp only [ht] at hl; cases hl
            | exn x e4 => simp only [ht] at hl; cases hl
            | ok b e4 =>
              simp only [ht] at hl
              cases b with
              | false =>
                intro H3 G3 s3 k3
                refine iteF ⟨e4, ak, al, G3, ⟨?_, gg2.trans k3.gg, ⟨us, (k3.kp p _ hu1 (lp.sub sub)).1, hul, hu2.mono k3.gg⟩, (k3.kp p _ hu1 (lp.sub sub)).2 gp2, fun a o h1 l => ?_, fun j d _ h => ?_⟩, hl⟩
                · have := s3.wipe vs; rw [wag] at this; exact this
                · obtain ⟨q1, q2⟩ := kp2 a o h1 l
                  obtain ⟨q3, q4⟩ := k3.kp a o q1 (l.sub sub)
                  exact ⟨q3, fun g => q4 (q2 g)⟩
                · obtain ⟨d', h'⟩ := k3.ow j d h
                  exact (sub.ow j d' h').2
              | true =>
                intro H3 G3 s3 k3
                refine iteT ⟨e4, G3, s3, ?_⟩
                cases hf : fk e4 with
                | bad => simp only [hf] at hl; cases hl
                | exn x e5 => simp only [hf] at hl; cases hl
                | ok r e5 =>
                  simp only [hf] at hl
                  intro y H4 G4 s4 k4 r4
                  cases hk : (e5.rd r).bind kD with
                  | none => simp only [hk] at hl; cases hl
                  | some k =>
                    simp only [hk] at hl
                    obtain ⟨dk, hk1, hk2⟩ := Option.bind_eq_some_iff.mp hk
                    have ek := kD_top (s4.top r4 hk1) hk2
                    refine ⟨e5, G4, s4, ?_⟩
                    cases hf2 : fv e5 with
                    | bad => simp only [hf2] at hl; cases hl
                    | exn x e6 => simp only [hf2] at hl; cases hl
                    | ok q e6 =>
                      simp only [hf2] at hl
                      intro z H5 G5 s5 k5 r5
                      cases hz : e6.frz q with
                      | none => simp only [hz] at hl; cases hl
                      | some py =>
                        obtain ⟨dy, e7⟩ := py
                        simp only [hz] at hl
                        by_cases hsz : ak.length < sizeLine
                        · rw [if_pos hsz] at hl
                          obtain ⟨G6, s6, k6, r6⟩ := frz_ok s5 r5 hz
                          have kk := ((k3.trans k4).trans k5).trans k6
                          obtain ⟨h5p, g6p⟩ := kk.kp p _ hu1 (lp.sub sub)
                          have g6p := g6p gp2
                          obtain ⟨us', p1, p2, p3⟩ := put_zip (k := k) r6 hul (hu2.mono kk.gg)
                          refine ⟨ak.zip us, k, ek, h5p, by rw [List.length_zip, ← hul, Nat.min_self]; exact hsz, e7, _, _, G6, ⟨?_, gg2.trans kk.gg, ⟨us', by rw [upd_same, p1], p2, p3⟩, g6p, fun a o h1 l => ?_, fun j d _ h => ?_⟩, hl⟩
                          · have := s6.wipe vs
                            rw [wag] at this
                            refine this.updL h5p g6p hp0 ⟨lp.1, fun j d hj => ?_⟩
                            by_cases hjv : j ∈ vs
                            · cases wipe_in vs e7 hjv hj
                            · rw [wipe_out vs e7 hjv] at hj
                              obtain ⟨d', h'⟩ := kk.ow j d hj
                              obtain ⟨_, d2, h2⟩ := sub.ow j d' h'
                              rw [wipeσ_out vs σ hjv]
                              exact lp.2 j d2 h2
                          · obtain ⟨q1, q2⟩ := kp2 a o h1 l
                            obtain ⟨q3, q4⟩ := kk.kp a o q1 (l.sub sub)
                            exact ⟨by rw [upd_ne (ne_of_none h1 hp)]; exact q3, fun g => q4 (q2 g)⟩
                          · obtain ⟨d', h'⟩ := kk.ow j d h
                            exact (sub.ow j d' h').2
                        · rw [if_neg hsz] at hl; cases hl
        · have e3 : i = ds.length := by omega
          subst e3
          rw [List.drop_length] at hl
          cases hl
          obtain ⟨us, hu1, hul, hu2⟩ := L.hd
          have sb : Stt K cl F (e1.back e2 vs) σ H G := s1.back pl L.gg L.st
          have lb : Loose F (e1.back e2 vs) σ p := ⟨lp.1, fun j d hj => by
            by_cases hjv : j ∈ vs
            · rw [back_in vs e1 e2 (by rw [← s1.len, ← wipe_len vs e2, ← L.st.len, wipe_length]) hjv] at hj
              exact lp.2 j d hj
            · rw [back_out vs e1 e2 hjv] at hj
              obtain ⟨d', h'⟩ := L.ow j d hjv hj
              exact lp.2 j d' h'⟩
          refine .inl ⟨it2, z _ H _ (sb.addG hu1 L.gd hp0 lb) (k1.trans ⟨L.gg.trans (same_upd L.gd), fun a o h1 l => ?_, fun j d hj => ?_⟩) (Rep.dct (.inl upd_same) hul (hu2.mono (same_upd L.gd)))⟩
          · obtain ⟨q1, q2⟩ := L.kp a o h1 l
            exact ⟨q1, fun g => by rw [upd_ne (ne_of_none h1 hp)]; exact q2 g⟩
          · by_cases hjv : j ∈ vs
            · rw [back_in vs e1 e2 (by rw [← s1.len, ← wipe_len vs e2, ← L.st.len, wipe_length]) hjv] at hj
              exact ⟨d, hj⟩
            · rw [back_out vs e1 e2 hjv] at hj
              exact L.ow j d hjv hj
  · rw [if_neg pl] at z; exact z.elim
end
section
variable {X : Cx} {cl : Str → Addr} {F : Fra} {W : WX}
theorem re_dc {kx vx tg iter : Expr} {ifs : List Expr} {scope : Scope} {own : List (Str × Nat)} {ws : List Nat} {pos : Pos} {fi : M (List D)} {g : Tg} {ft : M Bool} {fk fv : M R} (hc : X.calm = true) (hN : X.N.Nodup) (hi : RI X cl F W tg iter fi) (ok : BlkOk X.N X.env.scope scope own)
    (hg : ∀ (s : Shared) (H : Hp) (C : Addr) (cs : List (Str × Addr)) (fp : List Addr), RG (X.blk s H scope (compEnvC scope cs C X.env) fp) cl F ws tg g)
    (ht : ∀ (s : Shared) (H : Hp) (C : Addr) (cs : List (Str × Addr)) (fp : List Addr), RTs (X.blk s H scope (compEnvC scope cs C X.env) fp) cl F W0 ifs ft)
    (hk : ∀ (s : Shared) (H : Hp) (C : Addr) (cs : List (Str × Addr)) (fp : List Addr), RE (X.blk s H scope (compEnvC scope cs C X.env) fp) cl F W0 kx fk)
    (he : ∀ (s : Shared) (H : Hp) (C : Addr) (cs : List (Str × Addr)) (fp : List Addr), RE (X.blk s H scope (compEnvC scope cs C X.env) fp) cl F W0 vx fv)
    (hw : ∀ i ∈ ws, i ∈ own.map (·.2) := by decide) (hs : ∀ x, foldedSetIterable iter X.env x = pure x := by intro _; rfl) : RE X cl F W (.DictComp kx vx [⟨tg, iter, ifs, 0⟩] scope pos) (cDc (own.map (·.2)) fi g ft fk fv) :=
  ⟨⟨fun pins s σ H Q I h => (pe_dc hc hN hi.pi ok (fun s H C cs fp => (hg s H C cs fp).pg) (fun s H C cs fp => (ht s H C cs fp).pts) (fun s H C cs fp => (hk s H C cs fp).pe) (fun s H C cs fp => (he s H C cs fp).pe) hs).run pins s σ H Q I (dc_D hw (hg s H 0 [] []).fr h)⟩⟩
end
end DL

namespace DL
open PySem L2 PySem.Spec PyProof.Rows

/-! ### repr: within a call by a caller that is in no repr -/
/-- a def's promise at such calls -/
structure FnG (P : Program) (w : World) (K : PySem.W.Frag) (mg : Str → Option Value) (base : Heap)
    (k : Nat) (f : Addr) (fd : FuncData) (ps : List Str) (sp : Sp) : Prop where
  len : ∀ ys H Q E, sp ys H Q E → ys.length = ps.length
  run : ∀ (A : Around) (out : List PySem.Env) (s : Shared) (H : Hp) (g : Args) (us : List Value) (ys : List V) (Q : VK) (E : XK),
    Room k A → A.guards = some [] → Env0 P w K mg base A out s H → BindsTo s fd g (ps.zip us) → Vals ys us → sp ys H Q E →
    codeAny (model P w) A (.call (.ref f) g) (CR (L2N.CX P w) out P w H s Q E) s
section
variable {P : Program} {w : World} {K : PySem.W.Frag} {mg : Str → Option Value} {base : Heap} {k : Nat} {f : Addr} {fd : FuncData} {ps : List Str} {sp sp' : Sp} {cl : Str → Addr}
theorem FnG.of (Fn : FnOk P w K mg base (L2N.CX P w) k f fd ps sp) : FnG P w K mg base k f fd ps sp :=
  ⟨Fn.len, fun A out s H g us ys Q E hr _ => Fn.run A out s H g us ys Q E hr⟩
theorem FnG.mono {j : Nat} (Fn : FnG P w K mg base j f fd ps sp) (h : j ≤ k) : FnG P w K mg base k f fd ps sp :=
  ⟨Fn.len, fun A out s H g us ys Q E hr => Fn.run A out s H g us ys Q E (hr.mono h)⟩
theorem FnG.imp (Fn : FnG P w K mg base k f fd ps sp) (i : ∀ ys H Q E, sp' ys H Q E → sp ys H Q E) : FnG P w K mg base k f fd ps sp' :=
  ⟨fun ys H Q E q => Fn.len ys H Q E (i _ _ _ _ q), fun A out s H g us ys Q E hr hg e0 b r q => Fn.run A out s H g us ys Q E hr hg e0 b r (i _ _ _ _ q)⟩
theorem FnG.by {Φ Ψ : Fn} (h : FnG P w K mg base k f fd ps (spD K cl Φ)) (e : ∀ as j, Ψ as j ≠ .bad → Φ as j = Ψ as j) : FnG P w K mg base k f fd ps (spD K cl Ψ) :=
  h.imp fun vs H Q E ⟨as, j, js, G, gh, ao, jr, q⟩ => ⟨as, j, js, G, gh, ao, jr, by
    rw [e as j fun z => by rw [z] at q; exact q]
    exact q⟩
/-- the def's rule, by the body's own wish -/
theorem fnG_of {x qual : Str} {params : Arguments} {body : List Stmt} {scope : Scope} {dV kV doc pm cdv ct oc : Value} {an od : Option Addr} {osl : Array (Option Value)} {N : List Str}
    (look : K.lookup f = some ⟨oc, od, .func (PySem.W.fnOf x qual params body scope dV kV doc pm an cdv ct), osl⟩) (hcode : PySem.W.codeIn K cdv qual = true) (S : FnScope N ps scope) (len : ∀ ys H Q E, sp ys H Q E → ys.length = ps.length)
    (walk : ∀ (A : Around) (out : List PySem.Env) (s : Shared) (H : Hp) (ys : List V) (Q : VK) (E : XK),
      Room k (A.deeper (envOfC qual scope s.heap.objs.size f cdv)) → (A.deeper (envOfC qual scope s.heap.objs.size f cdv)).guards = some [] → sp ys H Q E →
      ∃ t, PSs (cxOf (L2N.CX P w) P w K mg base N qual scope f cdv A out s H E) body t ∧ t { nx := fun _ H' => Q .non H', rt := Q } (start N ys) H) :
    FnG P w K mg base (k + 1) f (PySem.W.fnOf x qual params body scope dV kV doc pm an cdv ct) ps sp := by
  refine ⟨len, fun A out s H g us ys Q E hr hg env bnd rel pr => ?_⟩
  have hlen := len _ _ _ _ pr
  have frag : K.In s.heap := env.mod.kin.keeps fun p o z => (env.bs p o z).1
  have nolim : s.heap.NoLimit := env.mod.nolimit.keeps fun p o z => (env.bs p o z).1
  have kinds : ∀ y ∈ ps.zip us, scope.names.lookup y.1 = some .local ∨
      (scope.names.lookup y.1 = some .cell ∧ ((cellsFrom (s.heap.objs.size + 1) scope.names []).lookup y.1).isSome = true) := by
    rintro ⟨n, v⟩ hy
    cases S.par n (List.of_mem_zip hy).1 with
    | inl q => exact .inl q
    | inr q => exact .inr ⟨q, PySem.W.cellsFrom_some _ _ _ (.inl q)⟩
  refine codeAny_call_function hr.depth (frag _ _ look) rfl S.co S.gen rfl (PySem.W.codeRec_of frag hcode) (bnd _ _ _ _ ?_)
  refine wpAny_newFunctionEnv_cells S.kind kinds fun env' ee s1 new => ?_
  subst ee
  refine ⟨nolim.keeps new.toInCall.keep, codeAny_func ?_⟩
  obtain ⟨t, walked, hq⟩ := walk A out s H ys Q E (hr.deeper _) hg pr
  have inv : Inv (cxOf (L2N.CX P w) P w K mg base N qual scope f cdv A out s H E) [] (start N ys) H s1 := inv_start S hr.hd env hlen rel new
  refine wpAny_mono (walked.run [] s1 (start N ys) H _ inv hq) (fun fl s' ends => ?_) fun _ _ z => z
  have back : ∀ {σ' : L2.St} {H' : Hp} {v : V} {u : Value}, Inv (cxOf (L2N.CX P w) P w K mg base N qual scope f cdv A out s H E) [] σ' H' s' → RelV v u → Q v H' → CE out P w H s Q u s' :=
    fun {σ' H' v u} J rv q => ⟨v, H',
                                                                                                              J.os, J.bare, J.base, J.hok, rv, q⟩
  cases fl with
  | brk => obtain ⟨_, _, _, q⟩ := ends; exact q.elim
  | cont => obtain ⟨_, _, _, q⟩ := ends; exact q.elim
  | next => obtain ⟨σ', H', J, q⟩ := ends; exact back (v := .non) (u := .none) J rfl q
  | ret u => obtain ⟨v, σ', H', J, rv, q⟩ := ends; exact back J rv q
/-- THE RULE for a def that uses repr -/
theorem fnG_D {x qual : Str} {params : Arguments} {body : List Stmt} {scope : Scope} {kws : List (Str × V)} {dvs : List V} {N : List Str} {g : M Fl}
    (Fn : FunD K x qual params body scope dvs kws f fd) (S : FnScope N ps scope)
    (hbody : ∀ (F : Fra) (cdv : Value) (A : Around) (out : List PySem.Env) (s : Shared) (H : Hp) (E : XK), Room k (A.deeper (envOfC qual scope s.heap.objs.size f cdv)) →
      (A.deeper (envOfC qual scope s.heap.objs.size f cdv)).guards = some [] →
      RSs (cxOf (L2N.CX P w) P w K mg base N qual scope f cdv A out s H E) cl F (fun c d _ H => E c d H) body g) :
    FnG P w K mg base (k + 1) f fd ps (spD K cl (fnOf N.length ps.length g)) := by
  obtain ⟨oc, od, dV, kV, doc, pm, an, cdv, ct, osl, rfl, lk, hcd, _, _⟩ := Fn.ex
  refine fnG_of lk hcd S (fun ys H Q E h => ?_) fun A out s H ys Q E hr hg h => ?_
  · obtain ⟨as, j, js, G, gh, ao, jr, q⟩ := h
    unfold fnOf at q
    split at q
    · rename_i hl; rw [← ao.length, hl]
    · exact q.elim
  · obtain ⟨as, j, js, G, gh, ao, jr, q⟩ := h
    refine ⟨_, (hbody ⟨H, G, js, 0⟩ cdv A out s H E hr hg).pss, _, _, stt_start gh ao jr, ?_⟩
    unfold fnOf at q
    split at q
    · exact PostFn.of (K := K) q
    · exact q.elim
end
section
variable {X : Cx} {cl : Str → Addr} {F : Fra} {W : WX} {k : Nat} {f : Addr} {fd : FuncData} {ps : List Str} {Φ : Fn} {x : Str} {p pos : Pos} {a : Expr} {es : List Expr} {fs : M (List R)} {sp : Sp} {t : TA} {E : L2.St → XK}
theorem pe_callG (Fn : FnG X.prog X.w X.K X.mg X.base k f fd ps sp) (hG : X.A.guards = some []) (hr : Room k X.A) (hg : Gl X x) (hm : X.mg x = some (.ref f)) (hk : PySem.W.keepIn X.K (.ref f) = true) (hb : Binds X.K fd ps [])
    (hx : ∀ σ, PassesAt (L2N.CX X.prog X.w) X σ (E σ)) (ha : PA X (a :: es) t) (hdb : (x == ("__debug__" : Str)) = false)
    (he : starEach (a :: es) X.env = (false, eval a X.env) :: starEach es X.env) (hpl : (backTo pos (starEach es X.env)).any (·.1) = false) : PE X (.Call (.Name x p) (a :: es) [] pos) (tCallS sp E t) := by
  refine ⟨fun pins s σ H Q inv h => wpAny_Call_Name_kw (ld_glob inv hg hm ?_ hdb)⟩
  refine PySem.W.callWith_K (h₀ := X.base) inv.ok.mod.kin hk (thn (ha.run pos pins s σ H _ inv h) fun us s1 ⟨ys, H1, J, r, q⟩ => ⟨J.kIn, ?_⟩) he hpl
  have hlen : us.length = ps.length := by rw [← r.length]; exact Fn.len _ _ _ _ q
  have bnd := hb s1 us J.kIn (by rw [List.append_nil]; exact hlen)
  rw [List.append_nil] at bnd
  refine wpAny_call (codeAny_mono (Fn.run X.A X.stack s1 H1 ⟨us, []⟩ us ys Q (E σ) hr hG J.env0 bnd r q) fun res s' z => ?_)
  cases res with
  | error er => exact hx σ pins H1 s1 er s' J z
  | ok fl =>
    cases fl with
    | next => exact z.elim
    | brk => exact z.elim
    | cont => exact z.elim
    | ret u => exact J.after z
theorem re_callG (Fn : FnG X.prog X.w X.K X.mg X.base k f fd ps (spD X.K cl Φ)) (hG : X.A.guards = some []) (hr : Room k X.A) (tk : L2N.Takes X W) (hg : Gl X x) (hm : X.mg x = some (.ref f)) (hk : PySem.W.keepIn X.K (.ref f) = true) (hb : Binds X.K fd ps [])
    (ha : RA X cl F W (a :: es) fs) (hdb : (x == ("__debug__" : Str)) = false := by decide) (he : starEach (a :: es) X.env = (false, eval a X.env) :: starEach es X.env := by rfl) (hpl : (backTo pos (starEach es X.env)).any (·.1) = false := by rfl) :
    RE X cl F W (.Call (.Name x p) (a :: es) [] pos) (cCall Φ fs) :=
  ⟨PE.imp (pe_callG Fn hG hr hg hm hk hb (fun σ => passN tk σ) ha.pa hdb he hpl) fun σ H Q h => call_D h⟩
theorem re_callGJ (Fn : FnG X.prog X.w X.K X.mg X.base k f fd ps (spD X.K cl Φ)) (hG : X.A.guards = some []) (hr : Room k X.A) (tk : L2N.Takes X W) (hg : Gl X x) (hm : X.mg x = some (.ref f)) (hk : PySem.W.keepIn X.K (.ref f) = true) (hb : Binds X.K fd ps [])
    (ha : RA X cl F W (a :: es) fs) (hdb : (x == ("__debug__" : Str)) = false := by decide) (he : starEach (a :: es) X.env = (false, eval a X.env) :: starEach es X.env := by rfl) (hpl : (backTo pos (starEach es X.env)).any (·.1) = false := by rfl) :
    RE X cl F W (.Call (.Name x p) (a :: es) [] pos) (cCallJ Φ fs) :=
  ⟨PE.imp (pe_callG Fn hG hr hg hm hk hb (fun σ => passN tk σ) ha.pa hdb he hpl) fun σ H Q h => callJ_D h⟩
def isSeqD : D → Bool
  | .tup _ | .lst _ => true
  | _ => false
def reprD : List D → Option D
  | [d] => if isSeqD d && d.pl && d.py.showable && decide (d.py.depth ≤ 60) && decide (d.py.shown.length ≤ sizeLine) && !d.py.hasDict then some (.str d.py.shown) else none
  | _ => none
theorem cd_repr (hG : X.A.guards = some []) (hu : X.A.units + 64 < cLine) : CallD X cl (.builtin "repr") reprD := by
  refine ⟨fun xs H Q => ∃ a d, xs = [V.ref a] ∧ Dp X.K H (.ref a) d ∧ d.showable = true ∧ d.depth ≤ 60 ∧ d.shown.length ≤ sizeLine ∧ d.hasDict = false ∧ Q (.str d.shown) H, ?_, fun H G xs ds dz Q gh t e k => ?_⟩
  · intro pins s σ H xs us Q I r h
    obtain ⟨a, d, rfl, hd, h1, h2, h3, h4, q⟩ := h
    rw [Vals.ref1 r]
    obtain ⟨as, rd⟩ := Dp.reads I d _ (.ref a) hd rfl
    exact repr_of_reads' rd h1 (PyData.noDict_hsm h4) hG (by omega) (fun _ _ z => z) (fun h' u tk kp => ⟨.str d.shown, H, I.kept kp, ⟨u, rfl⟩, q⟩) h3
  · unfold reprD at e
    split at e
    · rename_i d
      split at e
      · rename_i hc
        cases e
        simp only [Bool.and_eq_true, decide_eq_true_eq, Bool.not_eq_true'] at hc
        obtain ⟨⟨⟨⟨⟨c0, c1⟩, c2⟩, c3⟩, c4⟩, c5⟩ := hc
        obtain ⟨v, rfl, tv⟩ := topL1 t
        have rv := tv.rep gh
        cases d with
        | tup l => cases rv with
          | tup h1 h2 => exact ⟨_, _, rfl, Rep.dp (.tup h1 h2) c1, c2, c3, c4, c5, k _ H G .refl .str⟩
        | lst l => cases rv with
          | lst h1 h2 => exact ⟨_, _, rfl, Rep.dp (.lst h1 h2) c1, c2, c3, c4, c5, k _ H G .refl .str⟩
        | _ => cases c0
      · cases e
    · cases e
end
end DL

namespace DL
open PySem L2 PySem.Spec PyProof.Rows

/-! ### defs that tell a new list, their callers' own -/
def PostNew (K : PySem.W.Frag) (cl : Str → Addr) (F : Fra) (Q : VK) (E : XK) (o : OutF) : Prop := match o with
  | .ok d j => ∀ a H' G', Ret K cl F H' G' j → Own K cl H' G' a d → G' a = none → F.H0 a = none → Q (.ref a) H'
  | .exn x j => ∀ cls dd H' G', Ret K cl F H' G' j → ExcAt K cl x cls dd H' G' → E cls dd H'
  | .bad => False
def spN (K : PySem.W.Frag) (cl : Str → Addr) (Φ : Fn) : Sp := fun vs H Q E => ∃ (as : List A) (j : List D) (js : List Addr) (G : Hp),
  Same G H ∧ ArgsOk K cl js G as vs ∧ Jars K cl js H G j ∧ PostNew K cl ⟨H, G, js, 0⟩ Q E (Φ as j)
def outN (o : Out D) : OutF := match o with
  | .ok d e => .ok d e.j
  | .exn x e => .exn x e.j
  | .bad => .bad
def newOf (n np : Nat) (g : M D) : Fn := fun as j => if as.length = np then outN (g (env0 n as j)) else .bad
/-- statements that end by the return of a new list -/
def tNw (K : PySem.W.Frag) (cl : Str → Addr) (F : Fra) (W : WX) (g : M D) : TS := fun D σ H => ∃ e G, Stt K cl F e σ H G ∧ match g e with
  | .ok d e' => ∀ a H' G', Ret K cl F H' G' e'.j → Own K cl H' G' a d → G' a = none → F.H0 a = none → D.rt (.ref a) H'
  | .exn x e' => ∀ cls dd σ' H' G', Stt K cl F e' σ' H' G' → ExcAt K cl x cls dd H' G' → W cls dd σ' H'
  | .bad => False
structure RN (X : Cx) (cl : Str → Addr) (F : Fra) (W : WX) (xs : List Stmt) (g : M D) : Prop where
  pss : PSs X xs (tNw X.K cl F W g)
def nSeq (f : M Fl) (g : M D) : M D := fun e => (f e).bnd fun fl e1 => match fl with
  | .nx => g e1
  | _ => .bad
def callN (e : Env) (o : OutF) : Out D := match o with
  | .ok d [] => .ok d e
  | .exn x [] => .exn x e
  | _ => .bad
def nCallO (Φ : Fn) (o : Option (List D × Env)) : Out D := match o with
  | some (ds, e) => callN e (Φ (ds.map A.dat) [])
  | none => .bad
def nCall (Φ : Fn) (fs : M (List R)) : M D := fun e => (fs e).bnd fun rs e1 => nCallO Φ (e1.frzs rs)
def callT (e : Env) (o : OutF) : Out R := match o with
  | .ok d [_] => .ok (.val d) e
  | .exn x [_] => .exn x e
  | _ => .bad
def cCallT (Φ : Fn) (f : M D) : M R := fun e => (f e).bnd fun d e1 => callT e1 (Φ [.jar 0] [d])
section
variable {X : Cx} {cl : Str → Addr} {F : Fra} {W : WX}
theorem rn_ret {x : Expr} {f : M D} {pos : Pos} (h : RF X cl F W x f) : RN X cl F W [.Return (some x) pos] f := by
  refine ⟨pss_one (PS.imp (ps_ret h.pe) fun D σ H ⟨e, G, st, q⟩ => ⟨e, G, st, ?_⟩)⟩
  cases o : f e with
  | bad => rw [o] at q; exact q
  | exn x e1 => rw [o] at q; exact fun cls dd H' G' s z => q cls dd σ H' G' s z
  | ok d e1 => rw [o] at q; exact fun a H' G' s k ow g h0 l n => q a H' G' s.ret ow g h0
theorem rn_cons {s : Stmt} {ss : List Stmt} {f : M Fl} {g : M D} (h : RS X cl F W s f) (t : RN X cl F W ss g) : RN X cl F W (s :: ss) (nSeq f g) := by
  refine ⟨PSs.imp (pss_cons h.ps t.pss) fun D σ H ⟨e, G, st, q⟩ => ⟨e, G, st, ?_⟩⟩
  unfold nSeq at q
  cases o : f e with
  | bad => rw [o] at q; exact q
  | exn x e1 => rw [o] at q; exact q
  | ok fl e1 =>
    rw [o] at q
    cases fl with
    | nx => exact fun σ' H' G' s _ => ⟨e1, G', s, q⟩
    | rt d => exact q.elim
    | bk => exact q.elim
    | ct => exact q.elim
theorem fn_N {K : PySem.W.Frag} {P : Program} {w : World} {mg : Str → Option Value} {base : Heap} {x qual : Str} {params : Arguments} {body : List Stmt} {scope : Scope} {kws : List (Str × V)} {dvs : List V} {f : Addr} {fd : FuncData} {N ps : List Str} {k : Nat} {g : M D}
    (Fn : FunD K x qual params body scope dvs kws f fd) (S : FnScope N ps scope)
    (hbody : ∀ (F : Fra) (cdv : Value) (A : Around) (outer : List PySem.Env) (s : Shared) (H : Hp) (E : XK), Room k (A.deeper (envOfC qual scope s.heap.objs.size f cdv)) →
      RN (cxOf (L2N.CX P w) P w K mg base N qual scope f cdv A outer s H E) cl F (fun c d _ H => E c d H) body g) :
    FnOk P w K mg base (L2N.CX P w) (k + 1) f fd ps (spN K cl (newOf N.length ps.length g)) := by
  refine FunD.ok Fn S (fun vs H Q E h => ?_) fun cdv A outer s H vs Q E hr h => ?_
  · obtain ⟨as, j, js, G, gh, ao, jr, q⟩ := h
    unfold newOf at q
    split at q
    · rename_i hl; rw [← ao.length, hl]
    · exact q.elim
  · obtain ⟨as, j, js, G, gh, ao, jr, q⟩ := h
    refine ⟨_, (hbody ⟨H, G, js, 0⟩ cdv A outer s H E hr).pss, _, _, stt_start gh ao jr, ?_⟩
    unfold newOf at q
    split at q
    · cases o : g (env0 N.length as j) with
      | bad => rw [o] at q; exact q
      | exn x e => rw [o] at q; exact fun cls dd σ' H' G' s z => q cls dd H' G' s.ret z
      | ok d e => rw [o] at q; exact q
    · exact q.elim
variable {k : Nat} {f : Addr} {fd : FuncData} {ps : List Str} {Φ : Fn} {x : Str} {p pos : Pos} {a : Expr} {es : List Expr} {fs : M (List R)} {fx : M D}
theorem rf_call (Fn : FnOk X.prog X.w X.K X.mg X.base (L2N.CX X.prog X.w) k f fd ps (spN X.K cl Φ)) (hr : Room k X.A) (tk : L2N.Takes X W) (hg : Gl X x) (hm : X.mg x = some (.ref f)) (hk : PySem.W.keepIn X.K (.ref f) = true) (hb : Binds X.K fd ps [])
    (ha : RA X cl F W (a :: es) fs) (hdb : (x == ("__debug__" : Str)) = false := by decide) (he : starEach (a :: es) X.env = (false, eval a X.env) :: starEach es X.env := by rfl) (hpl : (backTo pos (starEach es X.env)).any (·.1) = false := by rfl) :
    RF X cl F W (.Call (.Name x p) (a :: es) [] pos) (nCall Φ fs) := by
  refine ⟨PE.imp (pe_callS Fn hr hg hm hk hb (fun σ => passN tk σ) ha.pa hdb he hpl) fun σ H Q ⟨e, G, st, q⟩ => tA_then st q fun rs e1 vs H1 G1 s1 k1 r1 z => ?_⟩
  cases y : e1.frzs rs with
  | none => rw [y] at z; exact z.elim
  | some pr =>
    obtain ⟨ds, e2⟩ := pr
    rw [y] at z
    obtain ⟨G2, s2, k2, r2⟩ := frzs_ok s1 r1 y
    have z : Post X.K cl F W σ (callN e2 (Φ (ds.map A.dat) [])) _ := z
    refine ⟨ds.map A.dat, [], [], G2, s2.ret.gh, argsOk_dat r2, ⟨rfl, List.nodup_nil, fun k a d h => by simp at h⟩, ?_⟩
    cases o : Φ (ds.map A.dat) [] with
    | bad => rw [o] at z; exact z.elim
    | ok d j =>
      rw [o] at z
      cases j with
      | cons => exact z.elim
      | nil =>
        intro a H' G' r ow ga h0
        obtain ⟨s3, k3⟩ := s2.called r
        obtain ⟨l, h00⟩ := s2.fresh h0
        exact z a H' G' s3 ((k1.trans k2).trans k3) ow ga h00 l fun b o q lb => ne_of_none ((k1.trans k2).kp b o q lb).1 h0
    | exn y j =>
      rw [o] at z
      cases j with
      | cons => exact z.elim
      | nil =>
        intro cls dd H' G' r ex
        obtain ⟨s3, k3⟩ := s2.called r
        exact z cls dd H' G' s3 ex
theorem callT_D {σ : L2.St} {H : Hp} {Q : VK} (h : tD X.K cl F W (cCallT Φ fx) σ H Q) : tCons (tFr X.K cl F W fx) tNil σ H fun vs H1 => spD X.K cl Φ vs H1 Q (fun c d H => W c d σ H) := by
  obtain ⟨e, G, st, q⟩ := h
  refine ⟨e, G, st, ?_⟩
  unfold cCallT at q
  cases o : fx e with
  | bad => rw [o] at q; exact q
  | exn y e1 => rw [o] at q; exact q
  | ok d e1 =>
    rw [o] at q
    intro a H1 G1 s1 k1 ow ga h0 l n
    refine ⟨[.jar 0], [d], [a], G1, s1.ret.gh, .jar rfl .nil, ⟨rfl, by simp, fun k b d' e1 e2 => ?_⟩, ?_⟩
    · cases k with
      | zero => cases e1; cases e2; exact ⟨ga, ow⟩
      | succ k => simp at e1
    have q : Post X.K cl F W σ (callT e1 (Φ [.jar 0] [d])) _ := q
    cases o2 : Φ [.jar 0] [d] with
    | bad => rw [o2] at q; exact q
    | ok r j =>
      rw [o2] at q
      match j, q with
      | [d'], q =>
        intro v H' G' rt rv
        obtain ⟨s2, k2⟩ := s1.calledL l h0 rt
        refine q v H' G' s2 ⟨fun b u z => rt.g0 b u (k1.gg b u z), fun b u z lb => ?_, fun i d h => k1.ow i d h⟩ rv
        obtain ⟨z1, z2⟩ := k1.kp b u z lb
        obtain ⟨z3, z4⟩ := k2 b u (n b u z lb) z1
        exact ⟨z3, fun g => z4 (z2 g)⟩
      | [], q => exact q.elim
      | _ :: _ :: _, q => exact q.elim
    | exn y j =>
      rw [o2] at q
      match j, q with
      | [d'], q =>
        intro cls dd H' G' rt ex
        obtain ⟨s2, k2⟩ := s1.calledL l h0 rt
        exact q cls dd H' G' s2 ex
      | [], q => exact q.elim
      | _ :: _ :: _, q => exact q.elim
theorem re_callT (Fn : FnOk X.prog X.w X.K X.mg X.base (L2N.CX X.prog X.w) k f fd ps (spD X.K cl Φ)) (hr : Room k X.A) (tk : L2N.Takes X W) (hg : Gl X x) (hm : X.mg x = some (.ref f)) (hk : PySem.W.keepIn X.K (.ref f) = true) (hb : Binds X.K fd ps [])
    (ha : RF X cl F W a fx) (hdb : (x == ("__debug__" : Str)) = false := by decide) (he : starEach [a] X.env = (false, eval a X.env) :: starEach [] X.env := by rfl) (hpl : (backTo pos (starEach [] X.env)).any (·.1) = false := by rfl) :
    RE X cl F W (.Call (.Name x p) [a] [] pos) (cCallT Φ fx) :=
  ⟨PE.imp (pe_callS Fn hr hg hm hk hb (fun σ => passN tk σ) (pa_cons ha.pe pa_nil he) hdb he hpl) fun σ H Q h => callT_D h⟩
theorem re_callGT (Fn : FnG X.prog X.w X.K X.mg X.base k f fd ps (spD X.K cl Φ)) (hG : X.A.guards = some []) (hr : Room k X.A) (tk : L2N.Takes X W) (hg : Gl X x) (hm : X.mg x = some (.ref f)) (hk : PySem.W.keepIn X.K (.ref f) = true) (hb : Binds X.K fd ps [])
    (ha : RF X cl F W a fx) (hdb : (x == ("__debug__" : Str)) = false := by decide) (he : starEach [a] X.env = (false, eval a X.env) :: starEach [] X.env := by rfl) (hpl : (backTo pos (starEach [] X.env)).any (·.1) = false := by rfl) :
    RE X cl F W (.Call (.Name x p) [a] [] pos) (cCallT Φ fx) :=
  ⟨PE.imp (pe_callG Fn hG hr hg hm hk hb (fun σ => passN tk σ) (pa_cons ha.pe pa_nil he) hdb he hpl) fun σ H Q h => callT_D h⟩
/-- -i -/
def cNeg (f : M R) : M R := fun e => (f e).bnd fun r e1 => match r with
  | .val (.int i) => .ok (.val (.int (-i))) e1
  | _ => .bad
theorem re_neg {f : M R} (h : RE X cl F W a f) : RE X cl F W (.UnaryOp .USub a pos) (cNeg f) := by
  refine ⟨PE.imp (pe_un un_neg h.pe) fun σ H Q ⟨e, G, st, q⟩ => tD_then st q fun r e1 v H1 G1 s1 k1 r1 z => ?_⟩
  cases r with
  | whole i => exact z.elim
  | val d =>
    cases d with
    | int i => cases r1; exact ⟨i, rfl, z _ H1 G1 s1 k1 .int⟩
    | _ => exact z.elim
end

/-! ### the head -/
section
variable {P : Program} {w : World} {K : PySem.W.Frag} {mg mb : Str → Option Value} {cl : Str → Addr}
/-- the law's call, from its def's promise at such calls -/
theorem law_run {k : Nat} {fa a : Addr} {fd : FuncData} {x : Str} {Φ : Fn} {s₁ : Shared} {vs : List Value} {ns : List Int}
    (KX : K.In s₁.heap) (hns : s₁.heap.Ns mainGlobals mg) (hbu : s₁.heap.Ns builtinsNs mb) (hbb : ∀ x : Str, x ≠ "__name__" → mb x = bootBuiltins x) (hlim : s₁.heap.NoLimit) (hgen : s₁.gens = #[])
    (obj : s₁.heap.get? a = some { cls := .type "list", data := .seq vs.toArray }) (whole : IntsAre vs ns) (hl : ns.length ≤ sizeLine) (hr : Room k callerA)
    (Fn : ∀ base : Heap, K.In base → base.Ns mainGlobals mg → FnG P w K mg base k fa fd [x] (spD K cl Φ)) (hbind : ∀ (s : Shared) (u : Value), BindsTo s fd ⟨[u], []⟩ [(x, u)])
    (holds : Φ [.dat (.scr ns)] [] = .ok (.bl true) []) :
    codeAny (model P w) callerA (.call (.ref fa) ⟨[.ref a], []⟩) (fun r s' => r = .ok
                                                                                                              (.ret (.bool true)) ∧ OldK s₁.heap s'.heap ∧ s'.os = s₁.os ∧ AllBare s'.gens) s₁ := by
  have rel := vals_ints whole
  have len := whole.length
  have mid : ∀ H : Hp, Only H → SqL K H a (ns.map V.int) → HOk P w H s₁.heap → (∀ p, H p ≠ none → p = a) → (H a ≠ none → K.lookup a = none) →
      codeAny (model P w) callerA (.call (.ref fa) ⟨[.ref a], []⟩) (fun r s' => r = .ok
                                                                                                              (.ret (.bool true)) ∧ OldK s₁.heap s'.heap ∧ s'.os = s₁.os ∧ AllBare s'.gens) s₁ := by
    intro H only script hok one away
    have free_of : ∀ {p : Addr} {o : Obj}, s₁.heap.get? p = some o → H p = none → (hidT s₁.heap H).get? p = some o := fun z n => hidT_get z n
    have untold : ∀ {p : Addr} {o : Obj} {es : Array DictEntry} {ep : Nat}, s₁.heap.get? p = some o → o.data = .dict es ep → H p = none := by
      intro p o es ep z d
      cases q : H p with
      | none => rfl
      | some u =>
        obtain rfl : p = a := one p (by rw [q]; simp)
        rw [obj] at z
        cases z
        cases (show Data.seq vs.toArray _ = Data.dict es ep from d)
    have names : ∀ {p : Addr} {m : Str → Option Value}, s₁.heap.Ns p m → (hidT s₁.heap H).Ns p m := fun {p m} ⟨o, es, ep, z, d, r⟩ => ⟨o, es, ep, free_of z (untold z d), d, r⟩
    have frag : K.In (hidT s₁.heap H) := fun p o z => free_of (KX p o z) (by
      cases q : H p with
      | none => rfl
      | some u =>
        obtain rfl : p = a := one p (by rw [q]; simp)
        rw [away (by rw [q]; simp)] at z
        cases z)
    have md : Mod K mg (hidT s₁.heap H) := ⟨frag, names hns, ⟨mb, names hbu, hbb⟩, by obtain ⟨mc, h1, h2⟩ := hlim; exact ⟨mc, names h1, h2⟩⟩
    have env : Env0 P w K mg (hidT s₁.heap H) callerA [] s₁ H :=
      ⟨rfl, md, fun p o z => of_hidT z, Nat.le_of_eq (hidT_size _ _), trivial, fun p hp => absurd (show p ∈ ([] : List Addr) from hp) (by simp), hok, .of_eq hgen⟩
    have pr : spD K cl Φ [.ref a] H (fun v _ => v = .bl true) fun _ _ _ => False := by
      refine ⟨[.dat (.scr ns)], [], [], H, .refl _, .dat (.scr script) .nil, ⟨rfl, List.nodup_nil, fun k p d z => by simp at z⟩, ?_⟩
      rw [holds]
      intro v H' G' _ rv
      cases rv
      rfl
    refine codeAny_mono ((Fn _ frag (names hns)).run callerA [] s₁ H ⟨[.ref a], []⟩ [.ref a] [.ref a] _ _ hr rfl env (hbind s₁ (.ref a)) (.cons rfl .nil) pr) fun r s' z => ?_
    cases r with
    | error er => obtain ⟨_, _, _, _, _, _, _, _, _, _, _, _, z⟩ := z; exact z.elim
    | ok fl =>
      cases fl with
      | next => exact z.elim
      | brk => exact z.elim
      | cont => exact z.elim
      | ret u =>
        obtain ⟨v, H', os, bare, un, hok', rv, q⟩ := z
        obtain rfl : v = .bl true := q
        obtain rfl : u = Value.bool true := rv
        refine ⟨rfl, OldK.of_keep fun p o z => ?_, os, bare⟩
        cases q : H p with
        | none => exact un.keep p o z q (by intro z; exact absurd (show p ∈ ([] : List Addr) from z) (by simp)) (by simp)
        | some u =>
          rcases only p with y | ⟨ob, xs, y⟩
          · rw [q] at y; cases y
          · have y2 := un.frzs p ob _ y
            obtain ⟨e1, _⟩ := hok p _ y
            obtain ⟨e2, _⟩ := hok' p _ y2
            rw [z] at e1
            cases e1
            exact e2
  cases own : K.lookup a with
  | some o =>
    have z := KX a o own
    rw [obj] at z
    cases z
    exact mid (fun _ => none) (fun _ => .inl rfl) (.inr ⟨_, vs.toArray, _, own, rfl, rfl, rfl, by rw [List.size_toArray, len]; exact hl, by simpa using rel⟩)
      (fun p u z => by cases (show (none : Option HO) = some u from z)) (fun p z => absurd rfl z) fun z => absurd rfl z
  | none =>
    refine mid (fun p => if p = a then some (.frz { cls := .type "list", data := .seq vs.toArray } (.lst (ns.map V.int))) else none) (fun p => ?_)
      (.inl (.inr ⟨{ cls := .type "list", data := .seq vs.toArray }, if_pos rfl⟩)) (fun p u z => ?_) (fun p z => ?_) fun _ => own
    · by_cases hp : p = a
      · exact .inr ⟨_, _, if_pos hp⟩
      · exact .inl (if_neg hp)
    · by_cases hp : p = a
      · cases (if_pos hp).symm.trans z
        subst hp
        exact ⟨obj, by rw [List.length_map]; exact hl, vs, _, rel, obj⟩
      · cases (if_neg hp).symm.trans z
    · by_cases hp : p = a
      · exact hp
      · exact absurd (if_neg hp) z
end
/-- the goal that the head leaves -/
theorem walk_D {l : PySem.W.OpenLaw} {n k : Nat} {q : Program} {loose : List Str} {XP : (Str → Option Value) → Heap → Prop} {YP : World → Heap → Prop} {d : DefRec} {x : Str} {Φ : Fn} (hn : l.most = some n) (hn2 : n ≤ sizeLine) (hdf : d.params.defaults = []) (hr : Room k callerA)
    (Fn : ∀ (w : World) (mg : Str → Option Value) (fa : Addr) (h : Heap), YP w h → h.Ns mainGlobals mg → mg d.name = some (.ref fa) →
      ∃ (K : PySem.W.Frag) (fd : FuncData) (cl : Str → Addr), K.In h ∧ (∀ (s : Shared) (u : Value), BindsTo s fd ⟨[u], []⟩ [(x, u)]) ∧
        ∀ base : Heap, K.In base → base.Ns mainGlobals mg → FnG l.prog w K mg base k fa fd [x] (spD K cl Φ))
    (holds : ∀ ns : List Int, ns.length ≤ n → Φ [.dat (.scr ns)] [] = .ok (.bl true) []) : PySem.W.WalkO q loose XP YP l.row.toRowW d [] (fun f vs => PySem.call f vs) := by
  refine Att.attach_call hn hdf fun w s₀ s₁ mg mb fa o pm
                                                                                                              cd doc a vs ns G Y ho hd hcd hmg hobj hints hlen hg => ?_
  obtain ⟨K, fd, cl, KX, hb, hF⟩ := Fn w mg fa _ Y G.T.g hmg
  exact law_run KX G.T.g G.T.b G.T.builtins G.T.nolimit hg hobj hints (Nat.le_trans hlen hn2) hr hF hb (holds ns hlen)
end DL

namespace DL
open PySem L2 PySem.Spec PyProof.Rows

/-! ### what the head must find -/
/-- where a def stands: a global, a class's method, the getter of a class's property, the def of a classmethod -/
inductive At where
  | g (x : Str) | m (c x : Str) | p (c x : Str)
def recAt (K : PySem.W.Frag) (c x : Str) : Addr := He.ma K (He.ga K c) x
def getterAt (K : PySem.W.Frag) (c x : Str) : Addr := match PySem.W.recIn K (recAt K c x) "property" with
  | some (.ref g :: _) => g
  | _ => 0
def At.ad (K : PySem.W.Frag) : At → Addr
  | .g x => He.ga K x
  | .m c x => He.ma K (He.ga K c) x
  | .p c x => getterAt K c x
structure Df where
  at_ : At
  name : Str
  qual : Str
  params : Arguments
  body : List Stmt
  scope : Scope
abbrev DfV : Type := Option (Str × Str × Arguments × FuncBody × Scope × Addr × List (Str × Addr) × Addr)
def dfV (K : PySem.W.Frag) (a : Addr) : DfV := match K.lookup a with
  | some ⟨_, _, .func fd, _⟩ =>
                                                                                                              some (fd.name, fd.qualname, fd.params, fd.body, fd.scope, fd.globals, fd.closure, fd.builtins)
  | _ => none
def Df.val (d : Df) : DfV := some (d.name, d.qual, d.params, .stmts d.body, d.scope, mainGlobals, [], builtinsNs)
def Df.ok (K : PySem.W.Frag) (d : Df) : Bool := PySem.W.keepIn K (.ref (d.at_.ad K)) && (match K.lookup (d.at_.ad K) with
  | some ⟨_, _, .func fd, _⟩ => PySem.W.codeIn K fd.code d.qual && (He.dflB K fd.defaults [] && He.kwdB K fd.kwdefaults [])
  | _ => false)
theorem Df.funD {K : PySem.W.Frag} {d : Df} (e : dfV K (d.at_.ad K) = d.val) (c : d.ok K = true) : ∃ fd, FunD K d.name d.qual d.params d.body d.scope [] [] (d.at_.ad K) fd := by
  obtain ⟨kp, c2⟩ := Bool.and_eq_true_iff.mp c
  unfold dfV at e
  cases q : K.lookup (d.at_.ad K) with
  | none => rw [q] at c2; cases c2
  | some o =>
    obtain ⟨ocl, odc, dta, slt⟩ := o
    rw [q] at c2 e
    cases dta with
    | func fd =>
      obtain ⟨v1, v2, v3, v4, v5, v6, v7, v8, v9, v10, v11, v12, v13, v14, v15⟩ := fd
      have e : (some (v1, v2, v3, v4, v5, v6, v7, v15) : DfV) = some (d.name, d.qual, d.params, .stmts d.body, d.scope, mainGlobals, [], builtinsNs) := e
      simp only [Option.some.injEq,
                                                                                                              Prod.mk.injEq] at e
      obtain ⟨h1, h2, h3, h4, h5, h6, h7, h8⟩ := e
      subst h1 h2 h3 h4 h5 h6 h7 h8
      obtain ⟨k1, k2⟩ := Bool.and_eq_true_iff.mp (show (PySem.W.codeIn K v13 d.qual && (He.dflB K v8 [] && He.kwdB K v9 [])) = true from c2)
      obtain ⟨k3, k4⟩ := Bool.and_eq_true_iff.mp k2
      exact ⟨_, ⟨ocl, odc, v8, v9, v10, v11, v12, v13, v14, slt, rfl, q, k1, He.dflB_ok k3, He.kwdB_ok k4⟩, kp⟩
    | _ => cases c2
/-- more facts: a property; the classes that isinstance is asked of -/
inductive Fc where
  | prp (c x : Str)
  | ins (c : Str)
  | own (c c' : Str) (b : Bool)
  | ne (c : Str)
def Fc.ok (K : PySem.W.Frag) : Fc → Bool
  | .prp c x => He.eqO (PySem.W.findIn K (.ref (He.ga K c)) x) (some (some (.ref (recAt K c x)))) && (He.eqO (PySem.W.specialIn K (.ref (recAt K c x)) "__get__") (some (some (.builtin "property.__get__"))) &&
    (decide (PySem.W.takesIn K (.ref (recAt K c x)) = some true) && (match PySem.W.recIn K (recAt K c x) "property" with
      | some (.ref _ :: _) => true
      | _ => false)))
  | .ins c => He.eqO (PySem.W.findIn K (.ref (He.ga K c)) "__class__") (some (some (.builtin "object.__class__"))) && (He.eqO (PySem.W.specialIn K (.builtin "object.__class__") "__get__") (some (some (.builtin "getset_descriptor.__get__"))) &&
    (decide (PySem.W.takesIn K (.builtin "object.__class__") = some true) && (decide (PySem.W.mroIn K (He.ga K c) (.type "object") = some true) &&
    ((["str", "int", "bool", "tuple", "list", "dict"].all fun T => decide (PySem.W.kitOne K (.ref (He.ga K c)) (.type T) = some false)) && kinds.all fun n => decide (PySem.W.kitOne K (.type n) (.ref (He.ga K c)) = some false)))))
  | .own c c' b => decide (PySem.W.kitOne K (.ref (He.ga K c)) (.ref (He.ga K c')) = some b)
  | .ne c => He.eqO (PySem.W.findIn K (.ref (He.ga K c)) "__ne__") (some (some (.builtin "object.__ne__"))) && decide (PySem.W.mroIn K (He.ga K c) (.type "object") = some true)
section
variable {K : PySem.W.Frag}
theorem and2 {a b : Bool} (h : (a && b) = true) : a = true ∧ b = true := Bool.and_eq_true_iff.mp h
theorem Fc.prp_ok {c x : Str} (h : (Fc.prp c x).ok K = true) : PropOf K (He.ga K c) x (recAt K c x) (getterAt K c x) := by
  obtain ⟨h1, h⟩ := and2 h
  obtain ⟨h2, h⟩ := and2 h
  obtain ⟨h3, h4⟩ := and2 h
  refine ⟨He.eqO_ok h1, He.eqO_ok h2, of_decide_eq_true h3, ?_⟩
  unfold getterAt
  split at h4
  · rename_i g r e
    rw [e]
    exact ⟨r, rfl⟩
  · cases h4
theorem Fc.ins_ok {c : Str} (h : (Fc.ins c).ok K = true) (hc : Cls K (He.ga K c)) : InsOk K (He.ga K c) ∧ (∀ T ∈ ["str", "int", "bool", "tuple", "list", "dict"], PySem.W.kitOne K (.ref (He.ga K c)) (.type T) = some false) ∧
    ∀ n ∈ kinds, PySem.W.kitOne K (.type n) (.ref (He.ga K c)) = some false := by
  obtain ⟨h1, h⟩ := and2 h
  obtain ⟨h2, h⟩ := and2 h
  obtain ⟨h3, h⟩ := and2 h
  obtain ⟨h4, h⟩ := and2 h
  obtain ⟨h5, h6⟩ := and2 h
  exact ⟨⟨hc, He.eqO_ok h1, He.eqO_ok h2, of_decide_eq_true h3, of_decide_eq_true h4⟩, fun T hT => of_decide_eq_true (List.all_eq_true.mp h5 T hT), fun n hn => of_decide_eq_true (List.all_eq_true.mp h6 n hn)⟩
end
/-- the class has the language's own != -/
def NeOk (K : PySem.W.Frag) (C : Addr) : Prop := PySem.W.findIn K (.ref C) "__ne__" = some (some (.builtin "object.__ne__")) ∧ PySem.W.mroIn K C (.type "object") = some true
theorem Fc.ne_ok {K : PySem.W.Frag} {c : Str} (h : (Fc.ne c).ok K = true) : NeOk K (He.ga K c) := by
  obtain ⟨h1, h2⟩ := and2 h
  exact ⟨He.eqO_ok h1, of_decide_eq_true h2⟩
abbrev AlX : Type := Bool × List DfV
def obsX (fa : List He.Fa) (fc : List Fc) (fn : List Df) (K : PySem.W.Frag) : AlX := ((fa.all fun f => f.ok K) && ((fc.all fun f => f.ok K) && fn.all fun d => d.ok K), fn.map fun d => dfV K (d.at_.ad K))
def valX (fn : List Df) : AlX := (true, fn.map Df.val)
def SaysX (fa : List He.Fa) (fc : List Fc) (fn : List Df) (K : PySem.W.Frag) : Prop := obsX fa fc fn K = valX fn
def obsXG (n : Nat) (fa : List He.Fa) (fc : List Fc) (fn : List Df) (g : Addr → Option Obj) : AlX := obsX fa fc fn (He.frG g (He.asD g n))
def hookX (n : Nat) (fa : List He.Fa) (fc : List Fc) (fn : List Df) : PySem.W.Hook where
  α := AlX
  obs := fun s => obsXG n fa fc fn s.heap.get?
  val := fun _ => valX fn
  says := fun _ h => ∃ K : PySem.W.Frag, K.In h ∧ SaysX fa fc fn K
  of := fun _ _ e => ⟨_, He.frG_in, e⟩
  keeps := fun _ _ _ ⟨K, hK, c⟩ k =>
                                                                                                              ⟨K, PySem.W.Frag.In.keeps hK k, c⟩
theorem obsXG_eq {n : Nat} {fa : List He.Fa} {fc : List Fc} {fn : List Df} {g : Addr → Option Obj} {s : Shared} (h : ∀ a, g a = s.heap.get? a) : obsXG n fa fc fn g = (hookX n fa fc fn).obs s := by
  obtain rfl : g = s.heap.get? := funext h
  rfl
section
variable {fa : List He.Fa} {fc : List Fc} {fn : List Df} {K : PySem.W.Frag}
theorem SaysX.fact (c : SaysX fa fc fn K) (i : Nat) {f : He.Fa} (h : fa[i]? = some f := by rfl) : f.ok K = true :=
  List.all_eq_true.mp (and2 (show ((fa.all fun f => f.ok K) && ((fc.all fun f => f.ok K) && fn.all fun d => d.ok K)) = true from congrArg (fun z : AlX => z.1) c)).1 f (List.mem_of_getElem? h)
theorem SaysX.more (c : SaysX fa fc fn K) (i : Nat) {f : Fc} (h : fc[i]? = some f := by rfl) : f.ok K = true :=
  List.all_eq_true.mp (and2 (and2 (show ((fa.all fun f => f.ok K) && ((fc.all fun f => f.ok K) && fn.all fun d => d.ok K)) = true from congrArg (fun z : AlX => z.1) c)).2).1 f (List.mem_of_getElem? h)
theorem SaysX.df (c : SaysX fa fc fn K) (i : Nat) {d : Df} (h : fn[i]? = some d := by rfl) : ∃ fd, FunD K d.name d.qual d.params d.body d.scope [] [] (d.at_.ad K) fd := by
  have c2 := (and2 (and2 (show ((fa.all fun f => f.ok K) && ((fc.all fun f => f.ok K) && fn.all fun d => d.ok K)) = true from congrArg (fun z : AlX => z.1) c)).2).2
  have e : fn.map (fun d => dfV K (d.at_.ad K)) = fn.map Df.val := congrArg (fun z : AlX => z.2) c
  have e2 : (fn.map fun d => dfV K (d.at_.ad K))[i]? = (fn.map Df.val)[i]? := by rw [e]
  rw [List.getElem?_map,
                                                                                                              List.getElem?_map, h] at e2
  exact Df.funD (Option.some.inj e2) (List.all_eq_true.mp c2 d (List.mem_of_getElem? h))
end
end DL

namespace DL
open PySem L2 PySem.Spec PyProof.Rows

/-! ### small things for the printed proofs -/
def bodyOf (s : Stmt) : List Stmt := match s with
  | .ClassDef _ _ _ b _ _ _ _ _ _ _ => b
  | _ => []
theorem room64 {k : Nat} {A : Around} (r : Room k A) : A.units + 64 < cLine := r.units
theorem room65 {k : Nat} {A : Around} (r : Room k A) : A.units + 65 < cLine := by have := r.un; omega
theorem room1 {k : Nat} {A : Around} (r : Room k A) : A.units + 1 < cLine := by have := r.un; omega
theorem si0 {E : XK} : SI fun c d _ H => E c d H := fun _ _ _ _ _ z => z
theorem fn_bad {P : Program} {w : World} {K : PySem.W.Frag} {mg : Str → Option Value} {base : Heap} {cl : Str → Addr} {k : Nat} {f : Addr} {fd : FuncData} {ps : List Str} : FnOk P w K mg base (L2N.CX P w) k f fd ps (spD K cl fun _ _ => .bad) :=
  ⟨fun _ _ _ _ ⟨_, _, _, _, _, _, _, z⟩ => z.elim, fun _ _ _ _ _ _ _ _ _ _ _ _ _ ⟨_, _, _, _, _, _, _, z⟩ => z.elim⟩
/-- it raises nothing -/
def NX {α : Type} (f : M α) : Prop := ∀ e x e', f e ≠ .exn x e'
theorem nx_bnd {α β : Type} {f : M α} {k : α → Env → Out β} (h : NX f) (hk : ∀ a e x e', k a e ≠ .exn x e') : NX fun e => (f e).bnd k := fun e x e' z => by
  have z : (f e).bnd k = .exn x e' := z
  cases q : f e with
  | ok a e1 => rw [q] at z; exact hk a e1 x e' z
  | exn y e1 => exact h _ _ _ q
  | bad => rw [q] at z; cases z
theorem nx_var {i : Nat} : NX (cVar i) := fun e x e' z => by
  unfold cVar at z
  split at z <;> cases z
theorem nx_c {d : D} : NX (cC d) := fun e x e' z => by cases z
theorem nx_opt {o : Option D} {e : Env} {x : Exc} {e' : Env} : opt o e ≠ .exn x e' := fun z => by cases o <;> cases z
theorem nx_op {g : D → D → Option D} {f1 f2 : M R} (h1 : NX f1) (h2 : NX f2) : NX (cOp g f1 f2) := nx_bnd h1 fun a e x e' z => nx_bnd h2 (fun b e x e' z => nx_opt z) e x e' z
theorem nx_fld {cs : List Str} {n : Str} {f : M R} (h : NX f) : NX (cFld cs n f) := nx_bnd h fun a e x e' z => nx_opt z
theorem nx_ret {f : M R} (h : NX f) : NX (sRet f) := nx_bnd h fun a e x e' z => by
  unfold retF at z
  split at z <;> cases z
theorem nx_fn {n np : Nat} {g : M Fl} (h : NX g) : ∀ d x j, fnOf n np g [.dat d] [] ≠ .exn x j := fun d x j z => by
  unfold fnOf at z
  split at z
  · cases q : g (env0 n [A.dat d] []) with
    | ok fl e => rw [q] at z; cases fl <;> cases z
    | exn y e => exact h _ _ _ q
    | bad => rw [q] at z; cases z
  · cases z
end DL

namespace DL
open PySem L2 PySem.Spec PyProof.Rows

/-! ### what the mirrors do, for simp -/
section
variable {α β : Type} {e e' : Env} {s : List S} {j : List D} {i : Nat} {d : D}
@[simp] theorem v_bnd {a : α} {k : α → Env → Out β} : (Out.ok a e).bnd k = k a e := rfl
@[simp] theorem v_bad {k : α → Env → Out β} : (Out.bad : Out α).bnd k = .bad := rfl
@[simp] theorem v_nx {k : Env → Out Fl} : (Out.ok Fl.nx e).bndF k = k e := rfl
@[simp] theorem v_rt {k : Env → Out Fl} : (Out.ok (Fl.rt d) e).bndF k = .ok (.rt d) e := rfl
@[simp] theorem v_bk {k : Env → Out Fl} : (Out.ok Fl.bk e).bndF k = .ok .bk e := rfl
@[simp] theorem v_ct {k : Env → Out Fl} : (Out.ok Fl.ct e).bndF k = .ok .ct e := rfl
@[simp] theorem v_badF {k : Env → Out Fl} : (Out.bad : Out Fl).bndF k = .bad := rfl
@[simp] theorem v_seq {f g : M Fl} : sSeq f g e = (f e).bndF g := rfl
def varO (i : Nat) (e : Env) : Option S → Out R
  | some (.dat d) => .ok (.val d) e
  | some (.own _) => .ok (.whole i) e
  | some (.jar _) => .ok (.whole i) e
  | _ => .bad
@[simp] theorem v_var : cVar i e = varO i e e.s[i]? := by unfold cVar varO; first | rfl | (split <;> simp_all)
@[simp] theorem v_varD : varO i e (some (.dat d)) = .ok (.val d) e := rfl
@[simp] theorem v_varO : varO i e (some (.own d)) = .ok (.whole i) e := rfl
@[simp] theorem v_varJ {k : Nat} : varO i e (some (.jar k)) = .ok (.whole i) e := rfl
@[simp] theorem v_c : cC d e = .ok (.val d) e := rfl
def rdO (e : Env) : Option S → Option D
  | some (.own d) => some d
  | some (.jar k) => e.j[k]?
  | _ => none
@[simp] theorem v_rdV : e.rd (.val d) = some d := rfl
@[simp] theorem v_rdW : e.rd (.whole i) = rdO e e.s[i]? := by unfold Env.rd rdO; first | rfl | (simp only; done) | (simp only; split <;> simp_all)
@[simp] theorem v_rdOo : rdO e (some (.own d)) = some d := rfl
@[simp] theorem v_rdOj {k : Nat} : rdO e (some (.jar k)) = e.j[k]? := rfl
@[simp] theorem v_rdOd : rdO e (some (.dat d)) = none := rfl
@[simp] theorem v_frzV : e.frz (.val d) = some (d, e) := rfl
def frzO (i : Nat) (e : Env) : Option S → Option (D × Env)
  | some (.own d) => some (d, e.setS i (.dat d))
  | _ => none
@[simp] theorem v_frzW : e.frz (.whole i) = frzO i e e.s[i]? := by unfold Env.frz frzO; first | rfl | (simp only; done) | (simp only; split <;> simp_all)
@[simp] theorem v_frzOo : frzO i e (some (.own d)) = some (d, e.setS i (.dat d)) := rfl
@[simp] theorem v_frzs0 : e.frzs [] = some ([], e) := rfl
def frzC (d : D) : Option (List D × Env) → Option (List D × Env)
  | some (ds, e) => some (d :: ds, e)
  | none => none
def frz2 (rs : List R) : Option (D × Env) → Option (List D × Env)
  | some (d, e) => frzC d (e.frzs rs)
  | none => none
@[simp] theorem v_frzs {r : R} {rs : List R} : e.frzs (r :: rs) = frz2 rs (e.frz r) := by
  unfold frz2 frzC
  show (match e.frz r with | some (d, e1) => _ | none => none) = _
  split <;> rfl
@[simp] theorem v_frz2 {rs : List R} : frz2 rs (some (d, e)) = frzC d (e.frzs rs) := rfl
@[simp] theorem v_frzC {ds : List D} : frzC d (some (ds, e)) = some (d :: ds, e) := rfl
@[simp] theorem v_set {x : S} : Env.setS ⟨s, j⟩ i x = ⟨s.set i x, j⟩ := rfl
@[simp] theorem v_nil : cNil e = .ok [] e := rfl
@[simp] theorem v_cons {f : M R} {g : M (List R)} : cCons f g e = (f e).bnd fun r e1 => (g e1).bnd fun rs e2 => .ok (r :: rs) e2 := rfl
@[simp] theorem v_opt : opt (some d) e = .ok (.val d) e := rfl
@[simp] theorem v_opt0 : opt none e = .bad := rfl
@[simp] theorem v_opt2 {g : D → D → Option D} {a b : D} : opt2 g (some a) (some b) = g a b := rfl
@[simp] theorem v_optB {a : α} : optB (some a) e = .ok a e := rfl
@[simp] theorem v_op {g : D → D → Option D} {f1 f2 : M R} : cOp g f1 f2 e = (f1 e).bnd fun x e1 => (f2 e1).bnd fun y e2 => opt (opt2 g (e2.rd x) (e2.rd y)) e2 := rfl
@[simp] theorem v_rds0 : e.rds [] = some [] := rfl
def rds2 : Option D → Option (List D) → Option (List D)
  | some d, some ds =>
                                                                                                              some (d :: ds)
  | _, _ => none
@[simp] theorem v_rds {r : R} {rs : List R} : e.rds (r :: rs) = rds2 (e.rd r) (e.rds rs) := by
  show (match e.rd r, e.rds rs with | some d, some ds => some (d :: ds) | _, _ => none) = _
  unfold rds2
  cases e.rd r <;> cases e.rds rs <;> rfl
@[simp] theorem v_rds2 {ds : List D} : rds2 (some d) (some ds) = some (d :: ds) := rfl
@[simp] theorem v_cb {g : List D → Option D} {fs : M (List R)} : cCB g fs e = (fs e).bnd fun rs e1 => opt ((e1.rds rs).bind g) e1 := rfl
def tstO (e : Env) : R → Out Bool
  | .val (.bl b) => .ok b e
  | _ => .bad
@[simp] theorem v_tst {f : M R} : cTest f e = (f e).bnd fun r e1 => tstO e1 r := by first | rfl | (unfold cTest tstO; rfl)
@[simp] theorem v_tstO {b : Bool} : tstO e (.val (.bl b)) = .ok b e := rfl
@[simp] theorem v_tru {f : M R} : cTru f e = (f e).bnd fun r e1 => optB ((e1.rd r).bind tru) e1 := rfl
@[simp] theorem v_truB {b : Bool} : tru (.bl b) = some b := rfl
@[simp] theorem v_not {f : M Bool} : cNot f e = (f e).bnd fun b e1 => .ok (!b) e1 := rfl
@[simp] theorem v_and {f g : M Bool} : cAnd f g e = (f e).bnd fun b e1 => if b then g e1 else .ok false e1 := rfl
@[simp] theorem v_or {f g : M Bool} : cOr f g e = (f e).bnd fun b e1 => if b then .ok true e1 else g e1 := rfl
def andO (g : M R) (e : Env) : R → Out R
  | .val (.bl b) => if b then g e else .ok (.val (.bl false)) e
  | _ => .bad
@[simp] theorem v_andV {f g : M R} : cAndV f g e = (f e).bnd fun r e1 => andO g e1 r := rfl
@[simp] theorem v_andO {b : Bool} {g : M R} : andO g e (.val (.bl b)) = if b then g e else .ok (.val (.bl false)) e := rfl
def orO (g : M R) (e : Env) : R → Out R
  | .val (.bl b) => if b then .ok (.val (.bl true)) e else g e
  | _ => .bad
@[simp] theorem v_orV {f g : M R} : cOrV f g e = (f e).bnd fun r e1 => orO g e1 r := rfl
@[simp] theorem v_orO {b : Bool} {g : M R} : orO g e (.val (.bl b)) = if b then .ok (.val (.bl true)) e else g e := rfl
def notO (e : Env) : R → Out R
  | .val (.bl b) => .ok (.val (.bl (!b))) e
  | _ => .bad
@[simp] theorem v_notV {f : M R} : cNotV f e = (f e).bnd fun r e1 => notO e1 r := rfl
@[simp] theorem v_notO {b : Bool} : notO e (.val (.bl b)) = .ok (.val (.bl (!b))) e := rfl
def negO (e : Env) : R → Out R
  | .val (.int i) => .ok (.val (.int (-i))) e
  | _ => .bad
@[simp] theorem v_neg {f : M R} : cNeg f e = (f e).bnd fun r e1 => negO e1 r := rfl
@[simp] theorem v_negO {k : Int} : negO e (.val (.int k)) = .ok (.val (.int (-k))) e := rfl
@[simp] theorem v_if {c : M Bool} {f g : M R} : cIf c f g e = (c e).bnd fun b e1 => if b then f e1 else g e1 := rfl
def chO (g' : D → D → Option D) (fc : M R) (y : R) (e : Env) : Option D → Out R
  | some (.bl true) => (fc e).bnd fun z e3 => opt (opt2 g' (e3.rd y) (e3.rd z)) e3
  | some (.bl false) => .ok (.val (.bl false)) e
  | _ => .bad
@[simp] theorem v_ch {g g' : D → D → Option D} {fa fb fc : M R} : cChain g g' fa fb fc e = (fa e).bnd fun x e1 => (fb e1).bnd fun y e2 => chO g' fc y e2 (opt2 g (e2.rd x) (e2.rd y)) := by first | rfl | (unfold cChain chO; rfl)
@[simp] theorem v_chT {g' : D → D → Option D} {fc : M R} {y : R} : chO g' fc y e (some (.bl true)) = (fc e).bnd fun z e3 => opt (opt2 g' (e3.rd y) (e3.rd z)) e3 := rfl
@[simp] theorem v_chF {g' : D → D → Option D} {fc : M R} {y : R} : chO g' fc y e (some (.bl false)) = .ok (.val (.bl false)) e := rfl
@[simp] theorem v_sNx : sNx e = .ok .nx e := rfl
@[simp] theorem v_sBad : sBad e = .bad := rfl
@[simp] theorem v_sBk : sBk e = .ok .bk e := rfl
@[simp] theorem v_sCt : sCt e = .ok .ct e := rfl
@[simp] theorem v_sExpr {f : M R} : sExpr f e = (f e).bnd fun _ e1 => .ok .nx e1 := rfl
@[simp] theorem v_sIf {c : M Bool} {f g : M Fl} : sIf c f g e = (c e).bnd fun b e1 => if b then f e1 else g e1 := rfl
@[simp] theorem v_ret {f : M R} : sRet f e = (f e).bnd fun r e1 => retF (e1.frz r) := rfl
@[simp] theorem v_retF : retF (some (d, e)) = .ok (.rt d) e := rfl
@[simp] theorem v_retN : sRetN e = .ok (.rt .non) e := rfl
@[simp] theorem v_asg {f : M R} : sAsg i f e = (f e).bnd fun r e1 => asgF i (e1.frz r) := rfl
@[simp] theorem v_asgF : asgF i (some (d, e)) = .ok .nx (e.setS i (.dat d)) := rfl
@[simp] theorem v_own {f : M D} : sOwn i f e = (f e).bnd fun d e1 => .ok .nx (e1.setS i (.own d)) := rfl
@[simp] theorem v_setIx {fk fv : M R} : sSetIx i fk fv e = (fv e).bnd fun r e1 => setV i fk (e1.frz r) := rfl
@[simp] theorem v_setV {fk : M R} : setV i fk (some (d, e)) = if isLst (e.rd (.whole i)) then (fk e).bnd fun rk e3 => setK i d rk e3 else .bad := rfl
@[simp] theorem v_isLst {l : List D} : isLst (some (.lst l)) = true := rfl
@[simp] theorem v_setK {k : Int} : setK i d (.val (.int k)) e = setO i k d e := rfl
def setI (i : Nat) (l : List D) (d : D) (e : Env) : Option Nat → Out Fl
  | some j => outE (e.put i (.lst (l.set j d))) fun e3 => .ok .nx e3
  | none => .bad
def setL (i : Nat) (k : Int) (d : D) (e : Env) : Option D → Out Fl
  | some (.lst l) => setI i l d e (ixN l.length k)
  | _ => .bad
@[simp] theorem v_setO {k : Int} : setO i k d e = setL i k d e (e.rd (.whole i)) := rfl
@[simp] theorem v_setL {k : Int} {l : List D} : setL i k d e (some (.lst l)) = setI i l d e (ixN l.length k) := rfl
@[simp] theorem v_setI {l : List D} {k : Nat} : setI i l d e (some k) = outE (e.put i (.lst (l.set k d))) fun e3 => .ok .nx e3 := rfl
@[simp] theorem v_outE {k : Env → Out α} : outE (some e) k = k e := rfl
def putO (i : Nat) (d : D) (e : Env) : Option S → Option Env
  | some (.own _) => some (e.setS i (.own d))
  | some (.jar k) => some ⟨e.s, e.j.set k d⟩
  | _ => none
@[simp] theorem v_put : e.put i d = putO i d e e.s[i]? := by unfold Env.put putO; first | rfl | (split <;> simp_all)
@[simp] theorem v_putOo {x : D} : putO i d e (some (.own x)) = some (e.setS i (.own d)) := rfl
@[simp] theorem v_putOj {k : Nat} : putO i d e (some (.jar k)) = some ⟨e.s, e.j.set k d⟩ := rfl
def callF (Φ : Fn) : Option (List D × Env) → Out R
  | some (ds, e) => callO e (Φ (ds.map A.dat) [])
  | none => .bad
@[simp] theorem v_call {Φ : Fn} {fs : M (List R)} : cCall Φ fs e = (fs e).bnd fun rs e1 => callF Φ (e1.frzs rs) := by first | rfl | (unfold cCall callF; rfl)
@[simp] theorem v_callF {Φ : Fn} {ds : List D} : callF Φ (some (ds, e)) = callO e (Φ (ds.map A.dat) []) := rfl
@[simp] theorem v_callO : callO e (.ok d []) = .ok (.val d) e := rfl
def callV (Φ : Fn) (i : Nat) (e : Env) (ds : List D) : Option D → Out R
  | some x => callJ e i (Φ (.jar 0 :: ds.map A.dat) [x])
  | none => .bad
def callW (Φ : Fn) (i : Nat) : Option (List D × Env) → Out R
  | some (ds, e) => callV Φ i e ds (e.rd (.whole i))
  | none => .bad
def callY (Φ : Fn) (i : Nat) (e : Env) (rs : List R) : Option D → Out R
  | some _ => callW Φ i (e.frzs rs)
  | none => .bad
def callX (Φ : Fn) (e : Env) : List R → Out R
  | .whole i :: rs => callY Φ i e rs (e.rd (.whole i))
  | _ => .bad
@[simp] theorem v_callJ {Φ : Fn} {fs : M (List R)} : cCallJ Φ fs e = (fs e).bnd fun rs e1 => callX Φ e1 rs := by
  unfold cCallJ
  congr 1
  funext rs e1
  cases rs with
  | nil => rfl
  | cons r rs =>
    cases r with
    | val d => rfl
    | whole i =>
      unfold callX callY callW callV
      simp only
      cases e1.rd (.whole i) with
      | none => rfl
      | some x =>
        cases e1.frzs rs with
        | none => rfl
        | some p => obtain ⟨ds, e2⟩ := p; first | rfl | (simp only; cases e2.rd (.whole i) <;> rfl)
@[simp] theorem v_callX {Φ : Fn} {rs : List R} : callX Φ e (.whole i :: rs) = callY Φ i e rs (e.rd (.whole i)) := rfl
@[simp] theorem v_callY {Φ : Fn} {rs : List R} {x : D} : callY Φ i e rs (some x) = callW Φ i (e.frzs rs) := rfl
@[simp] theorem v_callW {Φ : Fn} {ds : List D} : callW Φ i (some (ds, e)) = callV Φ i e ds (e.rd (.whole i)) := rfl
@[simp] theorem v_callV {Φ : Fn} {ds : List D} {x : D} : callV Φ i e ds (some x) = callJ e i (Φ (.jar 0 :: ds.map A.dat) [x]) := rfl
@[simp] theorem v_callJo {x : D} : callJ e i (.ok d [x]) = outE (e.put i x) fun e' => .ok (.val d) e' := rfl
@[simp] theorem v_cAt {k : Nat} : (A.jar k).s = .jar k := rfl
@[simp] theorem v_dAt : (A.dat d).s = .dat d := rfl
@[simp] theorem v_fn {n np : Nat} {g : M Fl} {as : List A} {js : List D} : fnOf n np g as js = if as.length = np then outF (g (env0 n as js)) else .bad := rfl
@[simp] theorem v_new {n np : Nat} {g : M D} {as : List A} {js : List D} : newOf n np g as js = if as.length = np then outN (g (env0 n as js)) else .bad := rfl
@[simp] theorem v_outN : outN (.ok d e) = .ok d e.j := rfl
@[simp] theorem v_outR : outF (.ok (.rt d) e) = .ok d e.j := rfl
@[simp] theorem v_outX : outF (.ok .nx e) = .ok .non e.j := rfl
@[simp] theorem v_env0 {n : Nat} {as : List A} {js : List D} : env0 n as js = ⟨as.map A.s ++ List.replicate (n - as.length) .un, js⟩ := rfl
@[simp] theorem v_int {k : Int} : intFnD [.int k] = some (.int k) := rfl
@[simp] theorem v_addI {a b : Int} : addD (.int a) (.int b) = some (.int (a + b)) := rfl
@[simp] theorem v_subI {a b : Int} : subD (.int a) (.int b) = some (.int (a - b)) := rfl
theorem v_mulI {a b : Int} (h1 : -18446744073709551616 < b) (h2 : b < 18446744073709551616) : mulD (.int a) (.int b) = some (.int (a * b)) := by
  have : mulOk a b = true := by unfold mulOk; simp; omega
  exact if_pos this
theorem v_mulL {a b : Int} (h1 : -18446744073709551616 < a) (h2 : a < 18446744073709551616) : mulD (.int a) (.int b) = some (.int (a * b)) := by
  have : mulOk a b = true := by unfold mulOk; simp; omega
  exact if_pos this
theorem v_modI {a b : Int} (h : 0 < b) : modD (.int a) (.int b) = some (.int (a % b)) := by unfold modD intOp; simp [h]
theorem v_divI {a b : Int} (h : 0 < b) (h2 : b < 1073741824) : fdivD (.int a) (.int b) = some (.int (a / b)) := by unfold fdivD intOp; simp [h, h2]
@[simp] theorem v_gtI {a b : Int} : gtD (.int a) (.int b) = some (.bl (decide (b < a))) := rfl
@[simp] theorem v_geI {a b : Int} : geD (.int a) (.int b) = some (.bl (decide (b ≤ a))) := rfl
@[simp] theorem v_ltI {a b : Int} : ltD (.int a) (.int b) = some (.bl (decide (a < b))) := rfl
@[simp] theorem v_leI {a b : Int} : leD (.int a) (.int b) = some (.bl (decide (a ≤ b))) := rfl
@[simp] theorem v_ixL {l : List D} {k : Int} : ixD (.lst l) (.int k) = atI l k := rfl
@[simp] theorem v_ixT {l : List D} {k : Int} : ixD (.tup l) (.int k) = atI l k := rfl
@[simp] theorem v_isN : isNotD d .non = some (.bl (!d.isNon)) := rfl
theorem at_nat {l : List D} {k : Nat} (h : l[k]? = some d) : atI l (k : Int) = some d := by
  obtain ⟨hl, _⟩ := List.getElem?_eq_some_iff.mp h
  unfold L2.atI L2.ixN
  rw [if_pos (by omega),
                                                                                                              if_pos (by omega)]
  simpa using h
@[simp] theorem at0 {l : List D} : atI (d :: l) 0 = some d := at_nat (k := 0) rfl
@[simp] theorem at1 {l : List D} {x : D} : atI (x :: d :: l) 1 = some d := at_nat (k := 1) rfl
@[simp] theorem at2 {l : List D} {x y : D} : atI (x :: y :: d :: l) 2 = some d := at_nat (k := 2) rfl
theorem ix_nat {n k : Nat} (h : k < n) : ixN n (k : Int) = some k := by
  unfold L2.ixN
  rw [if_pos (by omega),
                                                                                                              if_pos (by omega)]
  simp
@[simp] theorem ix0 {n : Nat} : ixN (n + 1) 0 = some 0 := ix_nat (k := 0) (by omega)
@[simp] theorem ix1 {n : Nat} : ixN (n + 2) 1 = some 1 := ix_nat (k := 1) (by omega)
@[simp] theorem ix2 {n : Nat} : ixN (n + 3) 2 = some 2 := ix_nat (k := 2) (by omega)
end
end DL

namespace DL
open PySem L2 PySem.Spec PyProof.Rows

/-! ### loops -/
theorem forL_ok {g : Tg} {body : M Fl} (I : List D → Env → Prop) (step : ∀ d ds e, I (d :: ds) e → ∃ e1 e2, g d e = some e1 ∧ (body e1 = .ok .nx e2 ∨ body e1 = .ok .ct e2) ∧ I ds e2) :
    ∀ {ds : List D} {e : Env}, I ds e → ∃ e', forL g body ds e = .ok .nx e' ∧ I [] e'
  | [], e, h => ⟨e, rfl, h⟩
  | d :: ds, e, h => by
    obtain ⟨e1, e2, h1, h2, h3⟩ := step d ds e h
    obtain ⟨e', h4, h5⟩ := forL_ok I step h3
    refine ⟨e', ?_, h5⟩
    rw [forL, h1]
    rcases h2 with h2 | h2 <;> · simp only [h2, v_bnd]; exact h4
/-- a loop that may return -/
theorem forL_ret {g : Tg} {body : M Fl} (I : List D → Env → Prop) (Rt : D → Env → Prop) (step : ∀ d ds e, I (d :: ds) e → ∃ e1 e2, g d e = some e1 ∧ (((body e1 = .ok .nx e2 ∨ body e1 = .ok .ct e2) ∧ I ds e2) ∨ ∃ r, body e1 = .ok (.rt r) e2 ∧ Rt r e2)) :
    ∀ {ds : List D} {e : Env}, I ds e → (∃ e', forL g body ds e = .ok .nx e' ∧ I [] e') ∨ ∃ r e', forL g body ds e = .ok (.rt r) e' ∧ Rt r e'
  | [], e, h => .inl ⟨e, rfl, h⟩
  | d :: ds, e, h => by
    obtain ⟨e1, e2, h1, h2⟩ := step d ds e h
    rcases h2 with ⟨h2, h3⟩ | ⟨r, h2, h3⟩
    · rcases forL_ret I Rt step h3 with ⟨e', h4, h5⟩ | ⟨r, e', h4, h5⟩
      · refine .inl ⟨e', ?_, h5⟩
        rw [forL, h1]
        rcases h2 with h2 | h2 <;> · simp only [h2, v_bnd]; exact h4
      · refine .inr ⟨r, e', ?_, h5⟩
        rw [forL, h1]
        rcases h2 with h2 | h2 <;> · simp only [h2, v_bnd]; exact h4
    · refine .inr ⟨r, e2, ?_, h3⟩
      rw [forL, h1]
      simp only [h2, v_bnd]
@[simp] theorem v_for {fi : M (List D)} {g : Tg} {body : M Fl} {e : Env} : sFor fi g body e = (fi e).bnd fun ds e1 => forL g body ds e1 := rfl
def iterO : Option (D × Env) → Out (List D)
  | some (d, e) => optB (seqItems d) e
  | none => .bad
@[simp] theorem v_iter {f : M R} {e : Env} : cIter f e = (f e).bnd fun r e1 => iterO (e1.frz r) := by first | rfl | (unfold cIter iterO; rfl)
@[simp] theorem v_iterO {d : D} {e : Env} : iterO (some (d, e)) = optB (seqItems d) e := rfl
@[simp] theorem v_itL {l : List D} : seqItems (.lst l) = some l := rfl
@[simp] theorem v_itT {l : List D} : seqItems (.tup l) = some l := rfl
@[simp] theorem v_itS {l : List Int} : seqItems (.scr l) = some (l.map D.int) := rfl
@[simp] theorem v_range1 {fs : M (List R)} {e : Env} : cRange1 fs e = (fs e).bnd fun rs e1 => optB (rngI1 rs) e1 := rfl
theorem v_rng {k : Int} (h1 : -(2 ^ 62) ≤ k) (h2 : k < 2 ^ 62) : rngI1 [.val (.int k)] = some (rng 0 k.toNat) := if_pos ⟨h1, h2⟩
@[simp] theorem v_gN {i : Nat} {d : D} {e : Env} : gN i d e = some (e.setS i (.dat d)) := rfl
theorem rng_cons {lo : Int} {n : Nat} : rng lo (n + 1) = .int lo :: rng (lo + 1) n := by
  unfold rng
  rw [List.range_succ_eq_map,
                                                                                                              List.map_cons, List.map_map]
  congr 1
  · simp
  · refine List.map_congr_left fun i _ => ?_
    simp only [Function.comp]
    congr 1
    omega
/-! ### comprehensions of a pure part -/
theorem lcL_pure {vs : List Nat} {g : Tg} {t : M Bool} {f : M R} {e0 : Env} (E : D → Env) (p : D → Bool) (h : D → D) :
    ∀ {ds acc : List D} {e : Env}, e.wipe vs = e0 → acc.length + ds.length ≤ sizeLine →
      (∀ d ∈ ds, g d e0 = some (E d) ∧ (E d).wipe vs = e0 ∧ t (E d) = .ok (p d) (E d) ∧ (p d = true → f (E d) = .ok (.val (h d)) (E d))) →
      ∃ e', lcL vs g t f ds acc e = .ok (acc ++ (ds.filter p).map h) e' ∧ e'.wipe vs = e0
  | [], acc, e, hw, _, _ => ⟨e, by simp [lcL], hw⟩
  | d :: ds, acc, e, hw, hl, H => by
    obtain ⟨h1, h2, h3, h4⟩ := H d List.mem_cons_self
    have hl' : acc.length + (ds.length + 1) ≤ sizeLine := hl
    rw [lcL, hw, h1]
    simp only [h3]
    cases hp : p d with
    | false =>
      simp only
      obtain ⟨e', q1, q2⟩ := lcL_pure (g := g) (t := t) (f := f) (acc := acc) E p h h2 (by omega) fun x hx => H x (List.mem_cons_of_mem _ hx)
      exact ⟨e', by rw [List.filter_cons, hp]; exact q1, q2⟩
    | true =>
      simp only [h4 hp, v_frzV]
      rw [if_pos (by omega)]
      obtain ⟨e', q1, q2⟩ := lcL_pure (g := g) (t := t) (f := f) (acc := acc ++ [h d]) E p h h2 (by rw [List.length_append]; simp; omega) fun x hx => H x (List.mem_cons_of_mem _ hx)
      refine ⟨e', ?_, q2⟩
      rw [q1, List.filter_cons, hp]
      simp
theorem wipe_slen (vs : List Nat) (e : Env) : (e.wipe vs).s.length = e.s.length := by
  induction vs with
  | nil => rfl
  | cons v vs ih => show (List.set _ _ _).length = _; rw [List.length_set]; exact ih
theorem back_slen (vs : List Nat) (e e' : Env) : (e.back e' vs).s.length = e'.s.length := by
  induction vs with
  | nil => rfl
  | cons v vs ih =>
    unfold Env.back
    split
    · show (List.set _ _ _).length = _; rw [List.length_set]; exact ih
    · exact ih
/-- the slots come back -/
theorem back_wipe {vs : List Nat} {e e' : Env} (h : e'.wipe vs = e.wipe vs) : e.back e' vs = e := by
  have hj : e'.j = e.j := by rw [← wipe_j vs e', h, wipe_j]
  have hl : e'.s.length = e.s.length := by rw [← wipe_slen vs e', h, wipe_slen]
  have hs : (e.back e' vs).s = e.s := by
    refine List.ext_getElem? fun i => ?_
    by_cases hi : i ∈ vs
    · rw [back_in vs e e' hl.symm hi]
    · rw [back_out vs e e' hi, ← wipe_out vs e' hi, h, wipe_out vs e hi]
  have e1 : (e.back e' vs).j = e.j := by rw [back_j, hj]
  cases e
  cases hb : Env.back _ _ _
  rw [hb] at hs e1
  simp only at hs e1
  rw [hs, e1]
theorem v_lc {vs : List Nat} {fi : M (List D)} {g : Tg} {t : M Bool} {f : M R} {e e1 : Env} {ds : List D} (E : D → Env) (p : D → Bool) (h : D → D) (hi : fi e = .ok ds e1) (pl : plainAt e1 vs = true) (hl : ds.length ≤ sizeLine)
    (H : ∀ d ∈ ds, g d (e1.wipe vs) = some (E d) ∧ (E d).wipe vs = e1.wipe vs ∧ t (E d) = .ok (p d) (E d) ∧ (p d = true → f (E d) = .ok (.val (h d)) (E d))) :
    cLc vs fi g t f e = .ok (.val (.lst ((ds.filter p).map h))) e1 := by
  obtain ⟨e', q1, q2⟩ := lcL_pure (g := g) (t := t) (f := f) (acc := []) (e := e1) E p h rfl (by simpa using hl) H
  unfold cLc
  rw [hi, v_bnd, if_pos pl, q1]
  simp only [List.nil_append]
  rw [back_wipe q2]
@[simp] theorem v_wipe1 {i : Nat} {e : Env} : e.wipe [i] = e.setS i .un := rfl
@[simp] theorem v_plU : S.un.plain = true := rfl
@[simp] theorem v_plD {d : D} : (S.dat d).plain = true := rfl
@[simp] theorem v_yes {e : Env} : tYs e = .ok true e := rfl
/-- the same as an outcome of simp's: one slot, all pure -/
theorem v_lc1 {i : Nat} {fi : M (List D)} {t : M Bool} {f : M R} {e e1 : Env} {ds : List D} (p : D → Bool) (h : D → D) (hi : fi e = .ok ds e1) (pl : plainAt e1 [i] = true) (hl : ds.length ≤ sizeLine)
    (H : ∀ d ∈ ds, t ((e1.setS i .un).setS i (.dat d)) = .ok (p d) ((e1.setS i .un).setS i (.dat d)) ∧ (p d = true → f ((e1.setS i .un).setS i (.dat d)) = .ok (.val (h d)) ((e1.setS i .un).setS i (.dat d)))) :
    cLc [i] fi (gN i) t f e = .ok (.val (.lst ((ds.filter p).map h))) e1 := by
  refine v_lc (fun d => (e1.setS i .un).setS i (.dat d)) p h hi pl hl fun d hd => ⟨rfl, ?_, H d hd⟩
  cases e1
  simp [Env.wipe, Env.setS]
/-! ### slices, sums of lists -/
@[simp] theorem v_sl {f : M R} {lo hi : M (Option Int)} {e : Env} : cSl f lo hi e = (f e).bnd fun r e1 => (lo e1).bnd fun l e2 => (hi e2).bnd fun h e3 => opt ((e3.rd r).bind fun d => slD d l h) e3 := rfl
def partO (e : Env) : R → Out (Option Int)
  | .val (.int i) => .ok (some i) e
  | _ => .bad
@[simp] theorem v_part {f : M R} {e : Env} : cPart f e = (f e).bnd fun r e1 => partO e1 r := rfl
@[simp] theorem v_partO {i : Int} {e : Env} : partO e (.val (.int i)) = .ok (some i) e := rfl
@[simp] theorem v_noPart {e : Env} : cNoPart e = .ok none e := rfl
@[simp] theorem v_slL {l : List D} {a b : Option Int} : slD (.lst l) a b = some (.lst (cutL l a b)) := rfl
@[simp] theorem v_slT {l : List D} {a b : Option Int} : slD (.tup l) a b = some (.tup (cutL l a b)) := rfl
@[simp] theorem v_slS {l : List Int} {a b : Option Int} : slD (.scr l) a b = some (.lst ((cutL l a b).map D.int)) := rfl
theorem cut_from {α : Type} {l : List α} {k : Nat} : cutL l (some (k : Int)) none = l.drop k := by
  unfold cutL
  rw [HT.sIx_nat, HT.sIx_none]
  by_cases h : k ≤ l.length
  · rw [Nat.min_eq_left h, List.take_of_length_le (by rw [List.length_drop]; omega)]
  · rw [Nat.min_eq_right (by omega), List.drop_of_length_le (by omega : l.length ≤ k)]
    simp
theorem cut_to {α : Type} {l : List α} {k : Nat} : cutL l none (some (k : Int)) = l.take k := by
  unfold cutL
  rw [HT.sIx_nat, HT.sIx_none, List.drop_zero, Nat.sub_zero]
  by_cases h : k ≤ l.length
  · rw [Nat.min_eq_left h]
  · rw [Nat.min_eq_right (by omega), List.take_of_length_le (by omega : l.length ≤ k), List.take_of_length_le (Nat.le_refl _)]
theorem v_addL {a b : List D} (h : a.length + b.length ≤ 16777216) : addD (.lst a) (.lst b) = some (.lst (a ++ b)) := if_pos (by rw [sizeLine_eq]; exact h)
theorem v_addT {a b : List D} (h : a.length + b.length ≤ 16777216) : addD (.tup a) (.tup b) = some (.tup (a ++ b)) := if_pos (by rw [sizeLine_eq]; exact h)
def lstO : Option (List D × Env) → Out R
  | some (ds, e) => if ds.length ≤ sizeLine then .ok (.val (.lst ds)) e else .bad
  | none => .bad
def tupO : Option (List D × Env) → Out R
  | some (ds, e) => if ds.length ≤ sizeLine then .ok (.val (.tup ds)) e else .bad
  | none => .bad
@[simp] theorem v_lst {f : M (List R)} {e : Env} : cLst f e = (f e).bnd fun rs e1 => lstO (e1.frzs rs) := rfl
@[simp] theorem v_tup {f : M (List R)} {e : Env} : cTup f e = (f e).bnd fun rs e1 => tupO (e1.frzs rs) := rfl
@[simp] theorem v_fLst {f : M (List R)} {e : Env} : fLst f e = (f e).bnd fun rs e1 => (match e1.frzs rs with
  | some (ds, e2) => if ds.length ≤ sizeLine then .ok (.lst ds) e2 else .bad
  | none => .bad) := rfl
theorem v_lstO {ds : List D} {e : Env} (h : ds.length ≤ 1000) : lstO (some (ds, e)) = .ok (.val (.lst ds)) e := if_pos (by rw [sizeLine_eq]; omega)
theorem v_tupO {ds : List D} {e : Env} (h : ds.length ≤ 1000) : tupO (some (ds, e)) = .ok (.val (.tup ds)) e := if_pos (by rw [sizeLine_eq]; omega)
@[simp] theorem v_lstO0 {e : Env} : lstO (some ([], e)) = .ok (.val (.lst [])) e := v_lstO (by simp)
@[simp] theorem v_tupO0 {e : Env} : tupO (some ([], e)) = .ok (.val (.tup [])) e := v_tupO (by simp)
@[simp] theorem v_tupO1 {a : D} {e : Env} : tupO (some ([a], e)) = .ok (.val (.tup [a])) e := v_tupO (by simp)
@[simp] theorem v_tupO2 {a b : D} {e : Env} : tupO (some ([a, b], e)) = .ok (.val (.tup [a, b])) e := v_tupO (by simp)
@[simp] theorem v_lstO1 {a : D} {e : Env} : lstO (some ([a], e)) = .ok (.val (.lst [a])) e := v_lstO (by simp)
@[simp] theorem v_lstO2 {a b : D} {e : Env} : lstO (some ([a, b], e)) = .ok (.val (.lst [a, b])) e := v_lstO (by simp)
@[simp] theorem v_lstO3 {a b c : D} {e : Env} : lstO (some ([a, b, c], e)) = .ok (.val (.lst [a, b, c])) e := v_lstO (by simp)
@[simp] theorem v_par {i j : Nat} {f g : M P} {e : Env} : sPar i j f g e = (f e).bnd fun p e1 => (g e1).bnd fun q e2 => .ok .nx ((e2.setS i p.s).setS j q.s) := rfl
@[simp] theorem v_pV {f : M R} {e : Env} : pV f e = (f e).bnd fun r e1 => pFrz (e1.frz r) := rfl
@[simp] theorem v_pFrz {d : D} {e : Env} : pFrz (some (d, e)) = .ok (.v d) e := rfl
@[simp] theorem v_pN {f : M D} {e : Env} : pN f e = (f e).bnd fun d e1 => .ok (.n d) e1 := rfl
@[simp] theorem v_pSv {d : D} : (P.v d).s = .dat d := rfl
@[simp] theorem v_pSn {d : D} : (P.n d).s = .own d := rfl
@[simp] theorem v_app {i : Nat} {f : M R} {e : Env} : cApp i f e = if isLst (e.rd (.whole i)) then (f e).bnd fun r e1 => appO i (e1.frz r) else .bad := rfl
def appL (i : Nat) (d : D) (e : Env) : Option D → Out R
  | some (.lst l) => if l.length < sizeLine then outE (e.put i (.lst (l ++ [d]))) fun e3 => .ok (.val .non) e3 else .bad
  | _ => .bad
@[simp] theorem v_appO {i : Nat} {d : D} {e : Env} : appO i (some (d, e)) = appL i d e (e.rd (.whole i)) := rfl
theorem v_appL {i : Nat} {d : D} {e : Env} {l : List D} (h : l.length < 16777216) : appL i d e (some (.lst l)) = outE (e.put i (.lst (l ++ [d]))) fun e3 => .ok (.val .non) e3 := if_pos (by rw [sizeLine_eq]; exact h)
def popL (i : Nat) (e : Env) : Option D → Out R
  | some (.lst l) => (match l.getLast? with
    | some d => outE (e.put i (.lst l.dropLast)) fun e3 => .ok (.val d) e3
    | none => .bad)
  | _ => .bad
@[simp] theorem v_pop {i : Nat} {e : Env} : cPop i e = popL i e (e.rd (.whole i)) := rfl
@[simp] theorem v_popL {i : Nat} {e : Env} {l : List D} {d : D} : popL i e (some (.lst (l ++ [d]))) = outE (e.put i (.lst l)) fun e3 => .ok (.val d) e3 := by
  unfold popL
  simp
@[simp] theorem v_revT {f : M R} {e : Env} : cRevT f e = (f e).bnd fun r e1 => opt ((e1.rd r).bind revD) e1 := rfl
@[simp] theorem v_revD {l : List D} : revD (.tup l) = some (.tup l.reverse) := rfl
@[simp] theorem v_asgT {g : Tg} {f : M R} {e : Env} : sAsgT g f e = (f e).bnd fun r e1 => (match e1.frz r with
  | some (d, e2) => (match g d e2 with
    | some e3 => .ok .nx e3
    | none => .bad)
  | none => .bad) := rfl
@[simp] theorem v_gT {gs : List Tg} {ds : List D} {e : Env} : gT gs (.tup ds) e = gTs gs ds e := rfl
@[simp] theorem v_gTs0 {e : Env} : gTs [] [] e = some e := rfl
@[simp] theorem v_gTs {g : Tg} {gs : List Tg} {d : D} {ds : List D} {e : Env} : gTs (g :: gs) (d :: ds) e = (g d e).bind (gTs gs ds) := rfl
@[simp] theorem v_lenL {l : List D} : lenD [.lst l] = some (.int l.length) := rfl
@[simp] theorem v_lenT {l : List D} : lenD [.tup l] = some (.int l.length) := rfl
@[simp] theorem v_lenS {l : List Int} : lenD [.scr l] = some (.int l.length) := rfl
@[simp] theorem v_min {a b : Int} : min2D [.int a, .int b] = some (.int (if b < a then b else a)) := rfl
@[simp] theorem v_max {a b : Int} : max2D [.int a, .int b] = some (.int (if b > a then b else a)) := rfl
@[simp] theorem v_tplL {l : List D} : tupleD [.lst l] = some (.tup l) := rfl
@[simp] theorem v_tplT {l : List D} : tupleD [.tup l] = some (.tup l) := rfl
end DL

namespace DL
open PySem L2 PySem.Spec PyProof.Rows

/-! ### plain data, by levels -/
inductive Sh : Nat → D → Prop
  | int {k : Nat} {i : Int} : Sh k (.int i)
  | bl {k : Nat} {b : Bool} : Sh k (.bl b)
  | non {k : Nat} : Sh k .non
  | str {k : Nat} {s : Str} : PyData.strOk s = true → Sh k (.str s)
  | tup {k : Nat} {l : List D} : (∀ d ∈ l, Sh k d) → Sh (k + 1) (.tup l)
  | lst {k : Nat} {l : List D} : (∀ d ∈ l, Sh k d) → Sh (k + 1) (.lst l)
theorem pyL_all {q : PyData → Bool} {qa : List PyData → Bool} (h0 : qa [] = true) (hc : ∀ x l, qa (x :: l) = (q x && qa l)) : ∀ {l : List D}, (∀ d ∈ l, q d.py = true) → qa (D.pyL l) = true
  | [], _ => h0
  | d :: l, h => by
    rw [D.pyL, hc, h d List.mem_cons_self, pyL_all h0 hc fun x hx => h x (List.mem_cons_of_mem _ hx)]
    rfl
theorem plL_of : ∀ {l : List D}, (∀ d ∈ l, d.pl = true) → D.plL l = true
  | [], _ => rfl
  | d :: l, h => by
    rw [D.plL, h d List.mem_cons_self, plL_of fun x hx => h x (List.mem_cons_of_mem _ hx)]
    rfl
theorem depth_of {k : Nat} : ∀ {l : List D}, (∀ d ∈ l, d.py.depth ≤ k) → PyData.depthAll (D.pyL l) ≤ k
  | [], _ => Nat.zero_le _
  | d :: l, h => by
    rw [D.pyL, PyData.depthAll]
    exact Nat.max_le.mpr ⟨h d List.mem_cons_self, depth_of fun x hx => h x (List.mem_cons_of_mem _ hx)⟩
theorem Sh.facts : ∀ {k : Nat} {d : D}, Sh k d → d.pl = true ∧ d.py.canLay0 = true ∧ d.py.depth ≤ k ∧ d.py.hasDict = false
  | _, _, .int => ⟨rfl, rfl, Nat.zero_le _, rfl⟩
  | _, _, .bl => ⟨rfl, rfl, Nat.zero_le _, rfl⟩
  | _, _, .non => ⟨rfl, rfl, Nat.zero_le _, rfl⟩
  | _, _, .str h => ⟨rfl, h, Nat.zero_le _, rfl⟩
  | _, _, .tup (l := l) h => by
    have f := fun d hd => Sh.facts (h d hd)
    refine ⟨plL_of fun d hd => (f d hd).1, pyL_all (q := PyData.canLay0) (qa := PyData.canLayAll0) (by simp [PyData.canLayAll0]) (fun x l => by simp [PyData.canLayAll0]) fun d hd => (f d hd).2.1, ?_, ?_⟩
    · rw [D.py, PyData.depth]; exact Nat.succ_le_succ (depth_of fun d hd => (f d hd).2.2.1)
    · have : (!PyData.hasDictAll (D.pyL l)) = true := pyL_all (q := fun d => !d.hasDict) (qa := fun l => !PyData.hasDictAll l) (by simp [PyData.hasDictAll]) (fun x l => by simp [PyData.hasDictAll]) fun d hd => by rw [(f d hd).2.2.2]; rfl
      rw [D.py, PyData.hasDict]; simpa using this
  | _, _, .lst (l := l) h => by
    have f := fun d hd => Sh.facts (h d hd)
    refine ⟨plL_of fun d hd => (f d hd).1, pyL_all (q := PyData.canLay0) (qa := PyData.canLayAll0) (by simp [PyData.canLayAll0]) (fun x l => by simp [PyData.canLayAll0]) fun d hd => (f d hd).2.1, ?_, ?_⟩
    · rw [D.py, PyData.depth]; exact Nat.succ_le_succ (depth_of fun d hd => (f d hd).2.2.1)
    · have : (!PyData.hasDictAll (D.pyL l)) = true := pyL_all (q := fun d => !d.hasDict) (qa := fun l => !PyData.hasDictAll l) (by simp [PyData.hasDictAll]) (fun x l => by simp [PyData.hasDictAll]) fun d hd => by rw [(f d hd).2.2.2]; rfl
      rw [D.py, PyData.hasDict]; simpa using this
theorem Sh.shp {k : Nat} {d : D} (h : Sh k d) (hk : k ≤ 64) : shp d = true := by
  obtain ⟨h1, h2, h3, _⟩ := h.facts
  unfold DL.shp SeqAt.shaped
  simp [h1, h2]
  omega
theorem Sh.mono {k j : Nat} {d : D} (h : Sh k d) (hj : k ≤ j) : Sh j d := by
  induction h generalizing j with
  | int => exact .int
  | bl => exact .bl
  | non => exact .non
  | str h => exact .str h
  | tup h ih =>
    obtain ⟨i, rfl⟩ : ∃ i, j = i + 1 := ⟨j - 1, by omega⟩
    exact .tup fun d hd => ih d hd (by omega)
  | lst h ih =>
    obtain ⟨i, rfl⟩ : ∃ i, j = i + 1 := ⟨j - 1, by omega⟩
    exact .lst fun d hd => ih d hd (by omega)
theorem eqD_of {k : Nat} {a b : D} (ha : Sh k a) (hb : Sh k b) (hk : k ≤ 64) : eqD a b = some (.bl (eqB a b)) := by
  unfold eqD
  rw [ha.shp hk, hb.shp hk]
  rfl
theorem neD_of {k : Nat} {a b : D} (ha : Sh k a) (hb : Sh k b) (hk : k ≤ 64) : neD a b = some (.bl (!eqB a b)) := by
  unfold neD
  rw [ha.shp hk, hb.shp hk]
  rfl
@[simp] theorem v_eqI {a b : Int} : eqD (.int a) (.int b) = some (.bl (decide (a = b))) := by
  rw [eqD_of (k := 0) .int .int (by omega)]
  have : eqB (.int a) (.int b) = decide (a = b) := by
    show (a == b) = _
    by_cases h : a = b <;> simp [h]
  rw [this]
theorem eqB_str {a b : Str} : eqB (.str a) (.str b) = decide (a = b) := by
  show (a == b) = _
  by_cases h : a = b <;> simp [h]
theorem v_eqS {a b : Str} (ha : PyData.strOk a = true) (hb : PyData.strOk b = true) : eqD (.str a) (.str b) = some (.bl (decide (a = b))) := by
  rw [eqD_of (k := 0) (.str ha) (.str hb) (by omega), eqB_str]
theorem v_neS {a b : Str} (ha : PyData.strOk a = true) (hb : PyData.strOk b = true) : neD (.str a) (.str b) = some (.bl (!decide (a = b))) := by
  rw [neD_of (k := 0) (.str ha) (.str hb) (by omega), eqB_str]
theorem eqvAll_cons (x y : D) (l m : List D) : PyData.eqvAll (D.pyL (x :: l)) (D.pyL (y :: m)) = (eqB x y && PyData.eqvAll (D.pyL l) (D.pyL m)) := by
  rw [D.pyL, D.pyL, PyData.eqvAll]
  rfl
theorem eqB_tup (l m : List D) : eqB (.tup l) (.tup m) = PyData.eqvAll (D.pyL l) (D.pyL m) := by
  show PyData.eqv _ _ = _
  rw [D.py, D.py, PyData.eqv]
theorem eqB_lst (l m : List D) : eqB (.lst l) (.lst m) = PyData.eqvAll (D.pyL l) (D.pyL m) := by
  show PyData.eqv _ _ = _
  rw [D.py, D.py, PyData.eqv]
theorem eqvAll_strs : ∀ (l m : List Str), PyData.eqvAll (D.pyL (l.map D.str)) (D.pyL (m.map D.str)) = decide (l = m)
  | [], [] => by simp [D.pyL, PyData.eqvAll]
  | [], _ :: _ => by simp [D.pyL, PyData.eqvAll]
  | _ :: _, [] => by simp [D.pyL, PyData.eqvAll]
  | a :: l, b :: m => by
    rw [List.map_cons, List.map_cons, eqvAll_cons, eqB_str, eqvAll_strs l m]
    by_cases h : a = b <;> by_cases h2 : l = m <;> simp [h, h2]
theorem eqB_row (l m : List Str) : eqB (.tup (l.map D.str)) (.tup (m.map D.str)) = decide (l = m) := by rw [eqB_tup, eqvAll_strs]
theorem Sh.refl : ∀ {k : Nat} {d : D}, Sh k d → eqB d d = true
  | _, _, .int => by simp [eqB, D.py, PyData.eqv]
  | _, _, .bl => by simp [eqB, D.py, PyData.eqv]
  | _, _, .non => by simp [eqB, D.py, PyData.eqv]
  | _, _, .str h => by simp [eqB, D.py, PyData.eqv]
  | _, _, .tup (l := l) h => by
    rw [eqB_tup]
    have r := fun d hd => Sh.refl (h d hd)
    clear h
    induction l with
    | nil => simp [D.pyL, PyData.eqvAll]
    | cons x l ih => rw [eqvAll_cons, r x List.mem_cons_self, ih fun d hd => r d (List.mem_cons_of_mem _ hd)]; rfl
  | _, _, .lst (l := l) h => by
    rw [eqB_lst]
    have r := fun d hd => Sh.refl (h d hd)
    clear h
    induction l with
    | nil => simp [D.pyL, PyData.eqvAll]
    | cons x l ih => rw [eqvAll_cons, r x List.mem_cons_self, ih fun d hd => r d (List.mem_cons_of_mem _ hd)]; rfl
/-- x in a list, a tuple -/
theorem inD_tup {k : Nat} {a : D} {l : List D} (ha : Sh k a) (hl : Sh k (.tup l)) (hk : k ≤ 64) : inD a (.tup l) = some (.bl (memB a l)) := by
  unfold inD inB
  simp only [ha.shp hk, hl.shp hk]
  rfl
theorem inD_lst {k : Nat} {a : D} {l : List D} (ha : Sh k a) (hl : Sh k (.lst l)) (hk : k ≤ 64) : inD a (.lst l) = some (.bl (memB a l)) := by
  unfold inD inB
  simp only [ha.shp hk, hl.shp hk]
  rfl
theorem notInD_tup {k : Nat} {a : D} {l : List D} (ha : Sh k a) (hl : Sh k (.tup l)) (hk : k ≤ 64) : notInD a (.tup l) = some (.bl (!memB a l)) := by
  unfold notInD inB
  simp only [ha.shp hk, hl.shp hk]
  rfl
theorem notInD_lst {k : Nat} {a : D} {l : List D} (ha : Sh k a) (hl : Sh k (.lst l)) (hk : k ≤ 64) : notInD a (.lst l) = some (.bl (!memB a l)) := by
  unfold notInD inB
  simp only [ha.shp hk, hl.shp hk]
  rfl
theorem memB_nil {x : D} : memB x [] = false := by simp [memB, D.pyL]
theorem memB_cons {x y : D} {l : List D} : memB x (y :: l) = (eqB y x || memB x l) := by
  unfold memB
  rw [D.pyL, List.any_cons]
  rfl
theorem memB_str {a : Str} : ∀ {l : List Str}, memB (.str a) (l.map D.str) = decide (a ∈ l)
  | [] => by simp [memB_nil]
  | b :: l => by
    rw [List.map_cons, memB_cons, memB_str, eqB_str]
    by_cases h : b = a
    · simp [h]
    · have h2 : ¬ a = b := fun z => h z.symm
      simp [h, h2]
/-- rows of texts -/
def rowD (l : List Str) : D := .tup (l.map D.str)
theorem sh_row {k : Nat} {l : List Str} (h : ∀ s ∈ l, PyData.strOk s = true) : Sh (k + 1) (rowD l) := .tup fun d hd => by
  obtain ⟨s, hs, rfl⟩ := List.mem_map.mp hd
  exact .str (h s hs)
theorem sh_rows {k : Nat} {l : List (List Str)} (h : ∀ r ∈ l, ∀ s ∈ r, PyData.strOk s = true) : Sh (k + 2) (.lst (l.map rowD)) := .lst fun d hd => by
  obtain ⟨s, hs, rfl⟩ := List.mem_map.mp hd
  exact sh_row (h s hs)
theorem sh_rowsT {k : Nat} {l : List (List Str)} (h : ∀ r ∈ l, ∀ s ∈ r, PyData.strOk s = true) : Sh (k + 2) (.tup (l.map rowD)) := .tup fun d hd => by
  obtain ⟨s, hs, rfl⟩ := List.mem_map.mp hd
  exact sh_row (h s hs)
end DL

namespace DL
open PySem L2 PySem.Spec PyProof.Rows

/-! ### webs, plain -/
def allPairs : List Str → List (Str × Str)
  | [] => []
  | a :: r => r.map (fun o => (a, o)) ++ allPairs r
def tieD (p : Str × Str) : D := .tup [.str p.1, .str p.2]
/-- ties among the places ws: of two different places, no two of the same -/
structure Lk (ws : List Str) (ls : List (Str × Str)) : Prop where
  on : ∀ p ∈ ls, p.1 ∈ ws ∧ p.2 ∈ ws ∧ p.1 ≠ p.2
  dif : ls.Pairwise fun p q => q ≠ p ∧ q ≠ p.swap
theorem dif_symm : ∀ {p q : Str × Str}, (q ≠ p ∧ q ≠ p.swap) → (p ≠ q ∧ p ≠ q.swap) := fun {p q} ⟨h1, h2⟩ => ⟨h1.symm, fun z => h2 (by rw [z, Prod.swap_swap])⟩
theorem Lk.perm {ws : List Str} {ls ms : List (Str × Str)} (h : Lk ws ls) (p : ls.Perm ms) : Lk ws ms :=
  ⟨fun x hx => h.on x (p.mem_iff.mpr hx), (p.pairwise_iff dif_symm).mp h.dif⟩
theorem Lk.swap {ws : List Str} {p : Str × Str} {ls : List (Str × Str)} (h : Lk ws (p :: ls)) : Lk ws (p.swap :: ls) := by
  obtain ⟨h1, h2⟩ := List.pairwise_cons.mp h.dif
  refine ⟨fun x hx => ?_, List.pairwise_cons.mpr ⟨fun q hq => ?_, h2⟩⟩
  · rcases List.mem_cons.mp hx with rfl | hx
    · obtain ⟨a, b, c⟩ := h.on p List.mem_cons_self
      exact ⟨b, a, c.symm⟩
    · exact h.on x (List.mem_cons_of_mem _ hx)
  · obtain ⟨a, b⟩ := h1 q hq
    exact ⟨b, by rw [Prod.swap_swap]; exact a⟩
theorem Lk.sub {ws : List Str} {ls ms : List (Str × Str)} (h : Lk ws ls) (s : ms.Sublist ls) : Lk ws ms := ⟨fun x hx => h.on x (s.subset hx), h.dif.sublist s⟩
theorem allPairs_on : ∀ {l : List Str} {p : Str × Str}, p ∈ allPairs l → p.1 ∈ l ∧ p.2 ∈ l
  | a :: r, p, h => by
    rcases List.mem_append.mp
                                                                                                              h with h | h
    · obtain ⟨o, ho, rfl⟩ := List.mem_map.mp h
      exact ⟨List.mem_cons_self, List.mem_cons_of_mem _ ho⟩
    · obtain ⟨h1, h2⟩ := allPairs_on h
      exact ⟨List.mem_cons_of_mem _ h1, List.mem_cons_of_mem _ h2⟩
theorem allPairs_lk : ∀ {l : List Str}, l.Nodup → Lk l (allPairs l)
  | [], _ => ⟨fun p h => by simp [allPairs] at h, List.Pairwise.nil⟩
  | a :: r, h => by
    obtain ⟨ha, hr⟩ := List.nodup_cons.mp h
    have ih := allPairs_lk hr
    refine ⟨fun p hp => ?_, List.pairwise_append.mpr ⟨?_, ih.dif, fun p hp q hq => ?_⟩⟩
    · rcases List.mem_append.mp
                                                                                                              hp with hp | hp
      · obtain ⟨o, ho, rfl⟩ := List.mem_map.mp hp
        exact ⟨List.mem_cons_self, List.mem_cons_of_mem _ ho, fun z => ha (by have z : a = o := z; rw [z]; exact ho)⟩
      · obtain ⟨h1, h2, h3⟩ := ih.on p hp
        exact ⟨List.mem_cons_of_mem _ h1, List.mem_cons_of_mem _ h2, h3⟩
    · refine List.pairwise_map.mpr (hr.imp_of_mem fun {x y} hx hy n => ?_)
      refine ⟨fun z => n (congrArg Prod.snd z).symm, fun z => ?_⟩
      have z1 : a = x := congrArg Prod.fst z
      exact ha (z1 ▸ hx)
    · obtain ⟨o, ho, rfl⟩ := List.mem_map.mp hp
      obtain ⟨q1, q2⟩ := allPairs_on hq
      refine ⟨fun z => ha ?_, fun z => ha ?_⟩
      · rw [z] at q1; exact q1
      · rw [z] at q2; exact q2
theorem allPairs_len : ∀ {l : List Str}, (allPairs l).length ≤ l.length * l.length
  | [] => Nat.le_refl _
  | a :: r => by
    have := allPairs_len (l := r)
    rw [allPairs, List.length_append, List.length_map, List.length_cons]
    have e : (r.length + 1) * (r.length + 1) = r.length * r.length + 2 * r.length + 1 := by rw [Nat.add_mul, Nat.mul_add]; omega
    omega
theorem allPairs_pos {l : List Str} (h : 2 ≤ l.length) : 0 < (allPairs l).length := by
  match l, h with
  | a :: b :: r, _ => simp [allPairs]
end DL

namespace DL
open PySem L2 PySem.Spec PyProof.Rows

/-! ### the order of texts, of rows -/
def ltS (a b : Str) : Bool := decide (a.cps.toList < b.cps.toList)
def ltR : List Str → List Str → Bool
  | [], [] => false
  | [], _ :: _ => true
  | _ :: _, [] => false
  | a :: l, b :: m => if a = b then ltR l m else ltS a b
theorem srt_tot (a b : D) : (srtLe a b || srtLe b a) = true := by
  rcases (PySem.W.sortLe_total (listOrd itemOrd) false fun d : D => PySem.W.keyToks d.py).total a b with h | h
  · exact Bool.or_eq_true_iff.mpr (.inl h)
  · exact Bool.or_eq_true_iff.mpr (.inr h)
theorem srt_trans (a b c : D) (h1 : srtLe a b = true) (h2 : srtLe b c = true) : srtLe a c = true := (PySem.W.sortLe_total (listOrd itemOrd) false fun d : D => PySem.W.keyToks d.py).trans a b c h1 h2
theorem srt_str (a b : Str) : srtLe (.str a) (.str b) = !ltS b a := by
  show (!PySem.W.dataLt (.str b) (.str a)) = _
  rw [PySem.W.dataLt_str]
  rfl
theorem row_lt : ∀ l m : List Str, PyProof.Rows.lexLt itemOrd (PySem.W.keyToksAll (D.pyL (l.map D.str))) (PySem.W.keyToksAll (D.pyL (m.map D.str))) = ltR l m
  | [], [] => by
    simp only [List.map_nil, D.pyL]
    exact lex_irrefl _
  | [], b :: m => by
    rw [List.map_nil, List.map_cons, D.pyL, D.pyL, PySem.W.keyToksAll, PySem.W.keyToksAll]
    exact lex_true.mpr (.inl (by rfl))
  | a :: l, [] => by
    rw [List.map_nil, List.map_cons, D.pyL, D.pyL, PySem.W.keyToksAll, PySem.W.keyToksAll]
    exact lex_false.mpr ⟨by rfl, .inl (by rfl)⟩
  | a :: l, b :: m => by
    rw [List.map_cons, List.map_cons, D.pyL, D.pyL, PySem.W.dataLt_cons (by rfl), row_lt l m]
    have e1 : PyData.eqv (D.str a).py (D.str b).py = decide (a = b) := eqB_str
    rw [e1]
    have e2 : PySem.W.dataLt (D.str a).py (D.str b).py = ltS a b := PySem.W.dataLt_str a b
    rw [e2]
    by_cases h : a = b <;> simp [ltR, h]
theorem srt_row (l m : List Str) : srtLe (rowD l) (rowD m) = !ltR m l := by
  show (!PySem.W.dataLt (rowD m).py (rowD l).py) = _
  rw [rowD, rowD, D.py, D.py, PySem.W.dataLt_tuple, row_lt]
theorem ltR_pre : ∀ (c a b : List Str), ltR (c ++ a) (c ++ b) = ltR a b
  | [], _, _ => rfl
  | x :: c, a, b => by
    show (if x = x then ltR (c ++ a) (c ++ b) else _) = _
    rw [if_pos rfl, ltR_pre c a b]
theorem ltS_asym {a b : Str} (h : ltS a b = true) : ltS b a = false := by
  unfold ltS at h ⊢
  have h := of_decide_eq_true h
  exact decide_eq_false fun z => absurd (List.lt_trans h z) (List.lt_irrefl _)
theorem ltS_ne {a b : Str} (h : ltS a b = true) : a ≠ b := fun z => by
  subst z
  have := ltS_asym h
  rw [h] at this
  cases this
theorem ltS_tot {a b : Str} (h : a ≠ b) (h2 : ltS b a = false) : ltS a b = true := by
  unfold ltS at h2 ⊢
  have h2 := of_decide_eq_false h2
  refine decide_eq_true ?_
  by_cases q : a.cps.toList < b.cps.toList
  · exact q
  · exact absurd (PySem.W.str_of_cps (List.le_antisymm (show a.cps.toList ≤ b.cps.toList from h2) (show b.cps.toList ≤ a.cps.toList from q))) h
theorem ltR_asym : ∀ {a b : List Str}, ltR a b = true → ltR b a = false
  | [], [], h => by cases h
  | [], _ :: _, _ => rfl
  | _ :: _, [], h => by cases h
  | x :: a, y :: b, h => by
    unfold ltR at h ⊢
    by_cases e : x = y
    · subst e
      rw [if_pos rfl] at h ⊢
      exact ltR_asym h
    · rw [if_neg e] at h
      rw [if_neg fun z => e z.symm]
      exact ltS_asym h
theorem ltR_tot : ∀ {a b : List Str}, ltR a b = false → ltR b a = false → a = b
  | [], [], _, _ => rfl
  | [], _ :: _, h, _ =>
                                                                                                              by cases h
  | _ :: _, [], _, h =>
                                                                                                              by cases h
  | x :: a, y :: b, h, h2 => by
    unfold ltR at h h2
    by_cases e : x = y
    · subst e
      rw [if_pos rfl] at h h2
      rw [ltR_tot h h2]
    · rw [if_neg e] at h
      rw [if_neg fun z => e z.symm] at h2
      rw [ltS_tot e h2] at h
      cases h
theorem ltR_ne {a b : List Str} (h : ltR a b = true) : a ≠ b := fun z => by
  subst z
  have := ltR_asym h
  rw [h] at this
  cases this
/-! ### sorted lists of these -/
def sortS (l : List Str) : List Str := l.mergeSort fun a b => !ltS b a
theorem sortD_str (l : List Str) : sortD (l.map D.str) = (sortS l).map D.str := by
  unfold sortD sortS
  exact (List.map_mergeSort fun a _ b _ => (srt_str a b).symm).symm
theorem sortS_perm (l : List Str) : (sortS l).Perm l := List.mergeSort_perm _ _
theorem sortS_lt {l : List Str} (h : l.Nodup) : (sortS l).Pairwise fun a b => ltS a b = true := by
  have p : (sortS l).Pairwise fun a b => (!ltS b a) = true := by
    refine List.pairwise_mergeSort (fun a b c h1 h2 => ?_) (fun a b => ?_) l
    · rw [← srt_str] at h1 h2 ⊢
      exact srt_trans _ _ _ h1 h2
    · rw [← srt_str, ← srt_str]
      exact srt_tot _ _
  have n : (sortS l).Nodup := (sortS_perm l).nodup_iff.mpr h
  exact (p.and n).imp fun {a b} ⟨h1, h2⟩ => ltS_tot h2 (by simpa using h1)
/-- a sorted row of rows is what sorted tells of any order of them -/
theorem sortD_rows {E fd : List (List Str)} (hE : E.Pairwise fun a b => ltR a b = true) (p : fd.Perm E) : sortD (fd.map rowD) = E.map rowD := by
  have e1 : (E.map rowD).Pairwise fun a b => srtLe a b = true := List.pairwise_map.mpr (hE.imp fun {a b} h => by
    have z := srt_row a b
    rw [ltR_asym h] at z
    exact z)
  have e2 : (sortD (fd.map rowD)).Pairwise fun a b => srtLe a b = true := List.pairwise_mergeSort srt_trans srt_tot _
  refine List.Perm.eq_of_pairwise (le := fun a b => srtLe a b = true) (fun a b ha hb h1 h2 => ?_) e2 e1 ((List.mergeSort_perm _ _).trans (p.map rowD))
  obtain ⟨x, hx, rfl⟩ := List.mem_map.mp (List.mem_mergeSort.mp ha)
  obtain ⟨y, hy, rfl⟩ := List.mem_map.mp hb
  rw [srt_row] at h1 h2
  have z : x = y := ltR_tot (by simpa using h2) (by simpa using h1)
  rw [z]
theorem ltR_nodup {E : List (List Str)} (hE : E.Pairwise fun a b => ltR a b = true) : E.Nodup := hE.imp fun h => ltR_ne h

/-! ### neighbours -/
def nbr (ls : List (Str × Str)) (x : Str) : List Str := (ls.filter fun p => decide (p.1 = x)).map (·.2) ++ (ls.filter fun p => decide (p.2 = x)).map (·.1)
def NB (ls : List (Str × Str)) (x : Str) : List Str := sortS (nbr ls x)
def adj (ls : List (Str × Str)) (x y : Str) : Prop := (x, y) ∈ ls ∨ (y, x) ∈ ls
theorem adj_symm {ls : List (Str × Str)} {x y : Str} (h : adj ls x y) : adj ls y x := h.symm
theorem mem_nbr {ls : List (Str × Str)} {x y : Str} : y ∈ nbr ls x ↔ adj ls x y := by
  unfold nbr adj
  simp only [List.mem_append, List.mem_map, List.mem_filter, decide_eq_true_eq]
  constructor
  · rintro (⟨⟨a, b⟩, ⟨h1, rfl⟩, rfl⟩ | ⟨⟨a, b⟩, ⟨h1, rfl⟩, rfl⟩)
    · exact .inl h1
    · exact .inr h1
  · rintro (h | h)
    · exact .inl ⟨(x, y), ⟨h, rfl⟩, rfl⟩
    · exact .inr ⟨(y, x), ⟨h, rfl⟩, rfl⟩
theorem mem_NB {ls : List (Str × Str)} {x y : Str} : y ∈ NB ls x ↔ adj ls x y := (sortS_perm _).mem_iff.trans mem_nbr
theorem nbr_nodup {ws : List Str} {ls : List (Str × Str)} (h : Lk ws ls) (x : Str) : (nbr ls x).Nodup := by
  unfold nbr
  refine List.pairwise_append.mpr ⟨?_, ?_, ?_⟩
  · refine List.pairwise_map.mpr (((h.dif.sublist List.filter_sublist)).imp_of_mem fun {p q} hp hq n z => n.1 ?_)
    have h1 := of_decide_eq_true (List.mem_filter.mp hp).2
    have h2 := of_decide_eq_true (List.mem_filter.mp hq).2
    exact Prod.ext (h2.trans h1.symm) z.symm
  · refine List.pairwise_map.mpr (((h.dif.sublist List.filter_sublist)).imp_of_mem fun {p q} hp hq n z => n.1 ?_)
    have h1 := of_decide_eq_true (List.mem_filter.mp hp).2
    have h2 := of_decide_eq_true (List.mem_filter.mp hq).2
    exact Prod.ext z.symm (h2.trans h1.symm)
  · intro a ha b hb z
    subst z
    obtain ⟨p, hp, rfl⟩ := List.mem_map.mp ha
    obtain ⟨q, hq, e⟩ := List.mem_map.mp hb
    obtain ⟨p1, p2⟩ := List.mem_filter.mp hp
    obtain ⟨q1, q2⟩ := List.mem_filter.mp hq
    have p2 := of_decide_eq_true p2
    have q2 := of_decide_eq_true q2
    have es : q = p.swap := Prod.ext e (q2.trans p2.symm)
    have dd := h.dif
    have hne : p ≠ q := fun z => by
      have := h.on p p1
      rw [z] at p2
      exact (h.on q q1).2.2 (p2.trans q2.symm)
    have key : ∀ {l : List (Str × Str)}, l.Pairwise (fun p q => q ≠ p ∧ q ≠ p.swap) → p ∈ l → q ∈ l → False := by
      intro l hl
      induction l with
      | nil => intro a; cases a
      | cons c l ih =>
        obtain ⟨k1, k2⟩ := List.pairwise_cons.mp hl
        intro a b
        rcases List.mem_cons.mp a with ea | a
        · rcases List.mem_cons.mp b with eb | b
          · exact hne (ea.trans eb.symm)
          · exact (k1 q b).2 (by rw [← ea]; exact es)
        · rcases List.mem_cons.mp b with eb | b
          · exact (k1 p a).2 (by rw [← eb, es, Prod.swap_swap])
          · exact ih k2 a b
    exact key dd p1 q1
theorem NB_lt {ws : List Str} {ls : List (Str × Str)} (h : Lk ws ls) (x : Str) : (NB ls x).Pairwise fun a b => ltS a b = true := sortS_lt (nbr_nodup h x)
theorem NB_nodup {ws : List Str} {ls : List (Str × Str)} (h : Lk ws ls) (x : Str) : (NB ls x).Nodup := (NB_lt h x).imp fun h => ltS_ne h
theorem NB_in {ws : List Str} {ls : List (Str × Str)} (h : Lk ws ls) {x y : Str} (hy : y ∈ NB ls x) : y ∈ ws := by
  rcases mem_NB.mp hy with q | q
  · exact (h.on _ q).2.1
  · exact (h.on _ q).1
theorem nd_len : ∀ {l ws : List Str}, l.Nodup → (∀ x ∈ l, x ∈ ws) → l.length ≤ ws.length
  | [], _, _, _ =>
                                                                                                              Nat.zero_le _
  | a :: l, ws, h, hs => by
    obtain ⟨h1, h2⟩ :=
                                                                                                              List.nodup_cons.mp h
    have ha : a ∈ ws := hs a List.mem_cons_self
    have := nd_len (ws := ws.erase a) h2 fun x hx => (List.mem_erase_of_ne (a := x) (b := a) fun z => h1 (by rw [← z]; exact hx)).mpr (hs x (List.mem_cons_of_mem _ hx))
    rw [List.length_erase_of_mem ha] at this
    have := List.length_pos_of_mem ha
    rw [List.length_cons]
    omega

/-! ### rows, by depth -/
section
variable (nb : Str → List Str) (g : Str)
def kids (pre : List Str) (x p : Str) (rest : List (List Str)) : List (List Str) := if p = g then [pre ++ [x] ++ [g]] else if p ∈ pre ++ [x] then [] else rest
def ext : Nat → List Str → Str → List (List Str)
  | 0, _, _ => []
  | n + 1, pre, x => (nb x).flatMap fun p => kids g pre x p (ext n (pre ++ [x]) p)
/-- what is left of a row from x to g, vis already in it -/
inductive Wk : List Str → Str → List Str → Prop
  | goal {vis : List Str} {x : Str} : g ∈ nb x → Wk vis x [g]
  | step {vis : List Str} {x p : Str} {t : List Str} : p ∈ nb x → p ≠ g → p ∉ vis → Wk (vis ++ [p]) p t → Wk vis x (p :: t)
end
variable {nb : Str → List Str} {g : Str}
theorem mem_ext : ∀ {n : Nat} {pre : List Str} {x : Str} {r : List Str}, r ∈ ext nb g n pre x ↔ ∃ t, t.length ≤ n ∧ r = pre ++ [x] ++ t ∧ Wk nb g (pre ++ [x]) x t
  | 0, pre, x, r => by
    refine Iff.intro (fun h => by cases h) fun h => ?_
    obtain ⟨t, h1, h2, h3⟩ := h
    cases h3 <;> simp at h1
  | n + 1, pre, x, r => by
    unfold ext kids
    rw [List.mem_flatMap]
    constructor
    · rintro ⟨p, hp, h⟩
      by_cases e : p = g
      · rw [if_pos e] at h
        subst e
        exact ⟨[p], by simp, List.mem_singleton.mp h, .goal hp⟩
      · rw [if_neg e] at h
        by_cases e2 : p ∈ pre ++ [x]
        · rw [if_pos e2] at h; cases h
        · rw [if_neg e2] at h
          obtain ⟨t, h1, h2, h3⟩ := mem_ext.mp h
          exact ⟨p :: t, by simpa using h1, by rw [h2]; simp, .step hp e e2 h3⟩
    · rintro ⟨t, h1, rfl, h3⟩
      cases h3 with
      | goal hp => exact ⟨g, hp, by rw [if_pos rfl]; simp⟩
      | step hp e e2 h4 =>
        rename_i p t
        refine ⟨p, hp, ?_⟩
        rw [if_neg e, if_neg e2]
        exact mem_ext.mpr ⟨t, by simpa using h1, by simp, h4⟩
theorem ext_lt (hs : ∀ x, (nb x).Pairwise fun a b => ltS a b = true) : ∀ {n : Nat} {pre : List Str} {x : Str}, (ext nb g n pre x).Pairwise fun a b => ltR a b = true
  | 0, _, _ => List.Pairwise.nil
  | n + 1, pre, x => by
    have pref : ∀ p r, r ∈ kids g pre x p (ext nb g n (pre ++ [x]) p) → ∃ t, r = pre ++ [x] ++ p :: t := by
      intro p r h
      unfold kids at h
      split at h
      · rename_i e
        exact ⟨[], by rw [List.mem_singleton.mp h, e]⟩
      · split at h
        · cases h
        · obtain ⟨t, _, h2, _⟩ := mem_ext.mp h
          exact ⟨t, by rw [h2]; simp⟩
    refine List.pairwise_flatMap.mpr ⟨fun p hp => ?_, (hs x).imp fun {p q} hpq r hr r' hr' => ?_⟩
    · unfold kids
      split
      · exact List.pairwise_singleton _ _
      · split
        · exact List.Pairwise.nil
        · exact ext_lt hs
    · obtain ⟨t, rfl⟩ := pref p r hr
      obtain ⟨t', rfl⟩ := pref q r' hr'
      rw [ltR_pre]
      show (if p = q then _ else ltS p q) = true
      rw [if_neg (ltS_ne hpq)]
      exact hpq
end DL

namespace DL
open PySem L2 PySem.Spec PyProof.Rows

/-! ### rows without depth -/
section
variable {nb : Str → List Str} {g b : Str}
def Ch (nb : Str → List Str) (l : List Str) : Prop := ∀ l1 a c l2, l = l1 ++ a :: c :: l2 → c ∈ nb a
theorem ch_one {x : Str} : Ch nb [x] := fun l1 a c l2 h => by
  have := congrArg
                                                                                                              List.length h
  simp at this
  omega
theorem ch_cons {x y : Str} {t : List Str} : Ch nb (x :: y :: t) ↔ y ∈ nb x ∧ Ch nb (y :: t) := by
  constructor
  · intro h
    refine ⟨h [] x y t rfl, fun l1 a c l2 e => h (x :: l1) a c l2 (by rw [e]; rfl)⟩
  · rintro ⟨h1, h2⟩ l1 a c l2 e
    cases l1 with
    | nil => cases e; exact h1
    | cons z l1 =>
      have e : x :: (y :: t) = z :: (l1 ++ a :: c :: l2) := e
      exact h2 l1 a c l2 (List.cons.inj e).2
theorem ch_rev {l : List Str} (hs : ∀ x y, y ∈ nb x → x ∈ nb y) (h : Ch nb l) : Ch nb l.reverse := fun l1 a c l2 e => by
  have e2 := congrArg List.reverse e
  rw [List.reverse_reverse] at e2
  simp only [List.reverse_append, List.reverse_cons, List.append_assoc, List.cons_append, List.nil_append] at e2
  exact hs _ _ (h l2.reverse c a l1.reverse (by rw [e2]))
theorem wk_to {vis : List Str} {x : Str} {t : List Str} (h : Wk nb g vis x t) : ∃ s, t = s ++ [g] ∧ g ∉ s ∧ s.Nodup ∧ (∀ p ∈ s, p ∉ vis) ∧ Ch nb (x :: t) := by
  induction h with
  | goal hg => exact ⟨[], rfl, by simp, List.nodup_nil, by simp, ch_cons.mpr ⟨hg, ch_one⟩⟩
  | step hp hg hv hw ih =>
    obtain ⟨s, rfl, h2, h3, h4, h5⟩ := ih
    rename_i vis x p
    refine ⟨p :: s, rfl, fun z => ?_, List.nodup_cons.mpr ⟨fun z => h4 p z (by simp), h3⟩, fun q hq => ?_, ch_cons.mpr ⟨hp, h5⟩⟩
    · rcases List.mem_cons.mp
                                                                                                              z with z | z
      · exact hg z.symm
      · exact h2 z
    · rcases List.mem_cons.mp
                                                                                                              hq with rfl | hq
      · exact hv
      · exact fun z => h4 q hq (List.mem_append_left _ z)
theorem wk_of : ∀ {s : List Str} {vis : List Str} {x : Str}, g ∉ s → s.Nodup → (∀ p ∈ s, p ∉ vis) → Ch nb (x :: (s ++ [g])) → Wk nb g vis x (s ++ [g])
  | [], vis, x, _, _, _, hc => .goal (ch_cons.mp hc).1
  | p :: s, vis, x, hg, hn, hv, hc => by
    obtain ⟨h1, h2⟩ := ch_cons.mp hc
    obtain ⟨n1, n2⟩ := List.nodup_cons.mp hn
    refine .step h1 (fun z => hg (by rw [z]; exact List.mem_cons_self)) (hv p List.mem_cons_self) (wk_of (fun z => hg (List.mem_cons_of_mem _ z)) n2 (fun q hq z => ?_) h2)
    rcases List.mem_append.mp z with z | z
    · exact hv q (List.mem_cons_of_mem _ hq) z
    · rw [List.mem_singleton.mp z] at hq
      exact n1 hq
/-- a row from b to g -/
def SP (nb : Str → List Str) (b g : Str) (r : List Str) : Prop := ∃ s, r = b :: (s ++ [g]) ∧ r.Nodup ∧ Ch nb r
theorem sp_wk (hb : b ≠ g) {t : List Str} : Wk nb g [b] b t ↔ SP nb b g (b :: t) := by
  constructor
  · intro h
    obtain ⟨s, rfl, h2, h3, h4, h5⟩ := wk_to h
    refine ⟨s, rfl, List.nodup_cons.mpr ⟨fun z => ?_, List.nodup_append.mpr ⟨h3, by simp, fun a ha c hc z => ?_⟩⟩, h5⟩
    · rcases List.mem_append.mp z with z | z
      · exact h4 b z (by simp)
      · exact hb (List.mem_singleton.mp z)
    · rw [List.mem_singleton.mp hc] at z
      exact h2 (z ▸ ha)
  · rintro ⟨s, h1, h2, h3⟩
    have h1 : t = s ++ [g] := (List.cons.inj h1).2
    subst h1
    obtain ⟨n1, n2⟩ := List.nodup_cons.mp h2
    obtain ⟨m1, m2, m3⟩ := List.nodup_append.mp n2
    refine wk_of (fun z => m3 g z g (by simp) rfl) m1 (fun p hp z => ?_) h3
    rw [List.mem_singleton.mp z] at hp
    exact n1 (List.mem_append_left _ hp)
theorem sp_rev (hs : ∀ x y, y ∈ nb x → x ∈ nb y) {r : List Str} (h : SP nb b g r) : SP nb g b r.reverse := by
  obtain ⟨s, rfl, h2, h3⟩ := h
  exact ⟨s.reverse, by simp, (List.reverse_perm _).nodup_iff.mpr h2, ch_rev hs h3⟩
theorem sp_in {ws : List Str} (hn : ∀ x y, y ∈ nb x → y ∈ ws) (hb : b ∈ ws) {r : List Str} (h : SP nb b g r) : ∀ x ∈ r, x ∈ ws := by
  obtain ⟨s, rfl, h2, h3⟩ := h
  intro x hx
  rcases List.mem_cons.mp
                                                                                                              hx with rfl | hx
  · exact hb
  · obtain ⟨l1, l2, e⟩ := List.append_of_mem hx
    have e3 : b :: (s ++ [g]) = (b :: l1) ++ x :: l2 := by rw [e]; rfl
    obtain ⟨l3, c, e4⟩ : ∃ l3 c, b :: l1 = l3 ++ [c] := ⟨(b :: l1).dropLast, (b :: l1).getLast (by simp), (List.dropLast_concat_getLast (by simp)).symm⟩
    refine hn c x (h3 l3 c x l2 ?_)
    rw [e3, e4]
    simp
theorem ext_sp {ws : List Str} (hn : ∀ x y, y ∈ nb x → y ∈ ws) (hb : b ∈ ws) (hbg : b ≠ g) {n : Nat} (hl : ws.length ≤ n) {r : List Str} : r ∈ ext nb g n [] b ↔ SP nb b g r := by
  rw [mem_ext]
  constructor
  · rintro ⟨t, _, rfl, h⟩
    exact (sp_wk hbg).mp h
  · intro h
    obtain ⟨s, e, h2, h3⟩ := id h
    have := nd_len h2 (sp_in hn hb h)
    subst e
    exact ⟨s ++ [g], by simp only [List.length_cons] at this; omega, rfl, (sp_wk hbg).mpr h⟩
/-- the rows the other way round -/
theorem ext_turn {ws : List Str} (hn : ∀ x y, y ∈ nb x → y ∈ ws) (hs : ∀ x y, y ∈ nb x → x ∈ nb y) (hlt : ∀ x, (nb x).Pairwise fun a b => ltS a b = true) (hb : b ∈ ws) (hg : g ∈ ws) (hbg : b ≠ g) {n : Nat} (hl : ws.length ≤ n) :
    ((ext nb b n [] g).map List.reverse).Perm (ext nb g n [] b) := by
  have n1 : (ext nb g n [] b).Nodup := ltR_nodup (ext_lt hlt)
  have n2 : ((ext nb b n [] g).map List.reverse).Nodup := List.pairwise_map.mpr ((ltR_nodup (ext_lt hlt)).imp fun h z => h (List.reverse_inj.mp z))
  refine (List.perm_ext_iff_of_nodup n2 n1).mpr fun r => ?_
  rw [ext_sp hn hb hbg hl, List.mem_map]
  constructor
  · rintro ⟨q, hq, rfl⟩
    exact sp_rev hs ((ext_sp hn hg hbg.symm hl).mp hq)
  · intro h
    exact ⟨r.reverse, (ext_sp hn hg hbg.symm hl).mpr (sp_rev hs h), List.reverse_reverse _⟩
end

/-! ### how many -/
def fct : Nat → Nat
  | 0 => 1
  | m + 1 => 1 + (m + 1) * fct m
def nds (nb : Str → List Str) (g : Str) : Nat → List Str → Str → Nat
  | 0, _, _ => 1
  | n + 1, pre, x => 1 + ((nb x).map fun p => if p = g ∨ p ∈ pre ++ [x] then 0 else nds nb g n (pre ++ [x]) p).sum
section
variable {nb : Str → List Str} {g : Str} {ws : List Str}
theorem fct_mono {a b : Nat} (h : a ≤ b) : fct a ≤ fct b := by
  induction h with
  | refl => exact Nat.le_refl _
  | step _ ih =>
    refine Nat.le_trans ih ?_
    rename_i m _
    show fct m ≤ 1 + (m + 1) * fct m
    rw [Nat.add_mul]
    omega
theorem sum_le {p : Str → Prop} [DecidablePred p] {f : Str → Nat} {B : Nat} : ∀ {l : List Str}, (∀ x ∈ l, ¬ p x → f x ≤ B) → (l.map fun x => if p x then 0 else f x).sum ≤ (l.filter fun x => !decide (p x)).length * B
  | [], _ => by simp
  | x :: l, h => by
    have ih := sum_le (p := p) (f := f) (B := B) (l := l) fun y hy => h y (List.mem_cons_of_mem _ hy)
    rw [List.map_cons, List.sum_cons, List.filter_cons]
    by_cases hp : p x
    · rw [if_pos hp]
      simp only [hp, decide_true, Bool.not_true, Bool.false_eq_true, if_false]
      omega
    · rw [if_neg hp]
      have := h x List.mem_cons_self hp
      simp only [hp, decide_false, Bool.not_false, if_true, List.length_cons, Nat.add_mul]
      omega
theorem nds_le (hn : ∀ x y, y ∈ nb x → y ∈ ws) (hd : ∀ x, (nb x).Nodup) (hg : g ∈ ws) : ∀ {n : Nat} {pre : List Str} {x : Str}, (pre ++ [x]).Nodup → (∀ y ∈ pre ++ [x], y ∈ ws) → g ∉ pre ++ [x] → nds nb g n pre x ≤ fct (ws.length - pre.length - 2)
  | 0, pre, x, _, _, _ => by
    show 1 ≤ _
    exact Nat.le_trans (by decide : 1 ≤ fct 0) (fct_mono (Nat.zero_le _))
  | n + 1, pre, x, h1, h2, h3 => by
    have hk : ((nb x).filter fun p => !decide (p = g ∨ p ∈ pre ++ [x])).length + pre.length + 2 ≤ ws.length := by
      have nd : (((nb x).filter fun p => !decide (p = g ∨ p ∈ pre ++ [x])) ++ (g :: (pre ++ [x]))).Nodup := by
        refine List.nodup_append.mpr ⟨(hd x).sublist List.filter_sublist, List.nodup_cons.mpr ⟨h3, h1⟩, fun a ha c hc z => ?_⟩
        subst z
        have q := (List.mem_filter.mp ha).2
        have q : ¬ (a = g ∨ a ∈ pre ++ [x]) := by simpa using q
        exact q (List.mem_cons.mp hc)
      have := nd_len (ws := ws) nd fun y hy => by
        rcases List.mem_append.mp
                                                                                                              hy with hy | hy
        · exact hn x y (List.mem_filter.mp hy).1
        · rcases List.mem_cons.mp
                                                                                                              hy with rfl | hy
          · exact hg
          · exact h2 y hy
      simp only [List.length_append, List.length_cons, List.length_nil] at this
      omega
    unfold nds
    have s := sum_le (p := fun p => p = g ∨ p ∈ pre ++ [x]) (f := fun p => nds nb g n (pre ++ [x]) p) (B := fct (ws.length - (pre ++ [x]).length - 2)) (l := nb x) fun p hp hq => by
      have hq1 : p ∉ pre ++ [x] := fun z => hq (.inr z)
      refine nds_le hn hd hg (List.nodup_append.mpr ⟨h1, by simp, fun a ha c hc z => ?_⟩) (fun y hy => ?_) fun z => ?_
      · rw [List.mem_singleton.mp hc] at z
        exact hq1 (z ▸ ha)
      · rcases List.mem_append.mp hy with hy | hy
        · exact h2 y hy
        · rw [List.mem_singleton.mp hy]; exact hn x p hp
      · rcases List.mem_append.mp z with z | z
        · exact h3 z
        · exact hq (.inl (List.mem_singleton.mp z).symm)
    obtain ⟨m, hm⟩ : ∃ m, m = ws.length - pre.length - 2 := ⟨_, rfl⟩
    rw [← hm]
    rw [show ws.length - (pre ++ [x]).length - 2 = m - 1 by rw [List.length_append]; simp only [List.length_cons, List.length_nil]; omega] at s
    generalize ((nb x).filter fun p => !decide (p = g ∨ p ∈ pre ++ [x])).length = K at s hk
    cases m with
    | zero =>
      have : K = 0 := by omega
      subst this
      rw [Nat.zero_mul] at s
      exact Nat.add_le_add_left s 1
    | succ m =>
      have : K ≤ m + 1 := by omega
      exact Nat.add_le_add_left (Nat.le_trans s (Nat.mul_le_mul_right _ this)) 1
theorem ext_len (hd : ∀ x, (nb x).Nodup) : ∀ {n : Nat} {pre : List Str} {x : Str}, (ext nb g n pre x).length ≤ nds nb g n pre x
  | 0, _, _ => Nat.zero_le _
  | n + 1, pre, x => by
    unfold ext nds
    rw [List.length_flatMap]
    have key : ∀ {l : List Str}, l.Nodup → (l.map fun p => (kids g pre x p (ext nb g n (pre ++ [x]) p)).length).sum ≤ (if g ∈ l then 1 else 0) + (l.map fun p => if p = g ∨ p ∈ pre ++ [x] then 0 else nds nb g n (pre ++ [x]) p).sum := by
      intro l hl
      induction l with
      | nil => simp
      | cons p l ih =>
        obtain ⟨h1, h2⟩ := List.nodup_cons.mp hl
        have ih := ih h2
        rw [List.map_cons, List.map_cons, List.sum_cons, List.sum_cons]
        by_cases e : p = g
        · subst e
          have e1 : (kids p pre x p (ext nb p n (pre ++ [x]) p)).length = 1 := by unfold kids; rw [if_pos rfl]; rfl
          rw [e1, if_pos List.mem_cons_self, if_pos (.inl rfl)]
          rw [if_neg h1] at ih
          omega
        · have hm : (g ∈ p :: l) ↔ g ∈ l := by rw [List.mem_cons]; exact ⟨fun z => z.resolve_left fun y => e y.symm, .inr⟩
          have e2 : (if g ∈ p :: l then 1 else 0) = (if g ∈ l then 1 else 0) := by by_cases q : g ∈ l <;> simp [hm, q]
          rw [e2]
          by_cases e3 : p ∈ pre ++ [x]
          · have e1 : (kids g pre x p (ext nb g n (pre ++ [x]) p)).length = 0 := by unfold kids; rw [if_neg e, if_pos e3]; rfl
            have e4 : (if p = g ∨ p ∈ pre ++ [x] then 0 else nds nb g n (pre ++ [x]) p) = 0 := if_pos (.inr e3)
            rw [e1, e4]
            omega
          · have e1 : (kids g pre x p (ext nb g n (pre ++ [x]) p)).length ≤ nds nb g n (pre ++ [x]) p := by unfold kids; rw [if_neg e, if_neg e3]; exact ext_len hd
            have e4 : (if p = g ∨ p ∈ pre ++ [x] then 0 else nds nb g n (pre ++ [x]) p) = nds nb g n (pre ++ [x]) p := if_neg fun z => z.elim e e3
            rw [e4]
            omega
    have := key (hd x)
    refine Nat.le_trans this (Nat.add_le_add_right ?_ _)
    split <;> omega
end
end DL

namespace DL
open PySem L2 PySem.Spec PyProof.Rows

/-! ### more of what the mirrors do -/
section
variable {e : Env} {d : D} {cs : List Str}
@[simp] theorem v_isT {T : String} {f : M R} : cIsT cs T f e = (f e).bnd fun r e1 => opt (((e1.rd r).bind (isiTy cs T)).map D.bl) e1 := rfl
@[simp] theorem v_isC {T : Str} {f : M R} : cIsC cs T f e = (f e).bnd fun r e1 => opt (((e1.rd r).bind (isiC cs T)).map D.bl) e1 := rfl
@[simp] theorem v_tyT {l : List D} : isiTy cs "tuple" (.tup l) = some true := rfl
@[simp] theorem v_tyS {s : Str} : isiTy cs "str" (.str s) = some true := rfl
@[simp] theorem v_fld {n : Str} {f : M R} : cFld cs n f e = (f e).bnd fun r e1 => opt ((e1.rd r).bind (fldD cs n)) e1 := rfl
@[simp] theorem v_prop {c : Str} {Φ : Fn} {f : M R} : cProp c Φ f e = (f e).bnd fun r e1 => propO c Φ (e1.frz r) := rfl
@[simp] theorem v_propO {c : Str} {Φ : Fn} : propO c Φ (some (d, e)) = if isObjC c d then callO e (Φ [.dat d] []) else .bad := rfl
@[simp] theorem v_isObj {c : Str} {ns : List Str} {l : List D} : isObjC c (.obj c ns l) = true := by unfold isObjC; simp
def makF (c : Str) (Φ : Fn) : Option (List D × Env) → Out R
  | some (ds, e) => makeO c e (Φ (.jar 0 :: ds.map A.dat) [.obj c [] []])
  | none => .bad
@[simp] theorem v_make {c : Str} {Φ : Fn} {fs : M (List R)} : cMake c Φ fs e = (fs e).bnd fun rs e1 => makF c Φ (e1.frzs rs) := by first | rfl | (unfold cMake makF makeD; rfl)
@[simp] theorem v_makF {c : Str} {Φ : Fn} {ds : List D} : makF c Φ (some (ds, e)) = makeO c e (Φ (.jar 0 :: ds.map A.dat) [.obj c [] []]) := rfl
@[simp] theorem v_makeO {c : Str} {ns : List Str} {l : List D} : makeO c e (.ok .non [.obj c ns l]) = .ok (.val (.obj c ns l)) e := by unfold makeO; simp
@[simp] theorem v_sFld {i : Nat} {f : Str} {g : M R} : sFldSet cs i f g e = (g e).bnd fun r e1 => fldSetO cs i f (e1.frz r) := rfl
def fldS (cs : List Str) (i : Nat) (f : Str) (d : D) (e : Env) : Option D → Out Fl
  | some (.obj c ns l) => if c ∈ cs ∧ ns.length < 1000 then outE (e.put i (.obj c (putN f d ns l).1 (putN f d ns l).2)) fun e3 => .ok .nx e3 else .bad
  | _ => .bad
@[simp] theorem v_fldSetO {i : Nat} {f : Str} : fldSetO cs i f (some (d, e)) = fldS cs i f d e (e.rd (.whole i)) := rfl
@[simp] theorem v_fldS {i : Nat} {f c : Str} {ns : List Str} {l : List D} : fldS cs i f d e (some (.obj c ns l)) = if c ∈ cs ∧ ns.length < 1000 then outE (e.put i (.obj c (putN f d ns l).1 (putN f d ns l).2)) fun e3 => .ok .nx e3 else .bad := rfl
@[simp] theorem v_meth {c m : Str} {Φ : Fn} {g : M R} {fs : M (List R)} : cMeth c m Φ g fs e = (g e).bnd fun r e1 => methO c m Φ (e1.frz r) fs := rfl
def methF (Φ : Fn) (d : D) : Option (List D × Env) → Out R
  | some (ds, e) => callO e (Φ (.dat d :: ds.map A.dat) [])
  | none => .bad
@[simp] theorem v_methO {c m : Str} {Φ : Fn} {fs : M (List R)} : methO c m Φ (some (d, e)) fs = if isObjC c d && !hasN m d then (fs e).bnd fun rs e1 => methF Φ d (e1.frzs rs) else .bad := by first | rfl | (unfold methO methF; rfl)
@[simp] theorem v_methF {Φ : Fn} {ds : List D} : methF Φ d (some (ds, e)) = callO e (Φ (.dat d :: ds.map A.dat) []) := rfl
@[simp] theorem v_cbBl {b : Bool} : (some b).map D.bl = some (.bl b) := rfl
theorem bls_all {l : List D} (h : ∀ d ∈ l, d = .bl true) : allD [.lst l] = some (.bl true) := by
  have : blsOf l = some (l.map fun _ => true) := by
    induction l with
    | nil => rfl
    | cons x l ih =>
      have hx := h x List.mem_cons_self
      subst hx
      unfold blsOf
      rw [ih fun d hd => h d (List.mem_cons_of_mem _ hd)]
      rfl
  unfold allD
  simp only [this]
  simp
end
/-! ### sorted texts and rows -/
theorem alike_strs : ∀ l m : List Str, PySem.W.alikeAll (D.pyL (l.map D.str)) (D.pyL (m.map D.str)) = true
  | [], _ => by simp [D.pyL, PySem.W.alikeAll]
  | _ :: _, [] => by simp [D.pyL, PySem.W.alikeAll]
  | a :: l, b :: m => by
    rw [List.map_cons, List.map_cons, D.pyL, D.pyL, PySem.W.alikeAll, alike_strs l m]
    rfl
theorem sorted_strs (l : List Str) : sortedD [.lst (l.map D.str)] = some (.lst ((sortS l).map D.str)) := by
  have ok : srtOk (l.map D.str) = true := by
    unfold srtOk
    simp only [Bool.and_eq_true, Bool.or_eq_true, List.all_eq_true, decide_eq_true_eq]
    refine ⟨⟨⟨plL_of fun d hd => ?_, fun x hx y hy => ?_⟩, .inr fun d hd => ?_⟩, fun d hd => ?_⟩
    · obtain ⟨s, _, rfl⟩ := List.mem_map.mp hd; rfl
    · obtain ⟨s, _, rfl⟩ := List.mem_map.mp hx
      obtain ⟨t, _, rfl⟩ := List.mem_map.mp hy
      rfl
    · obtain ⟨s, _, rfl⟩ := List.mem_map.mp hd; rfl
    · obtain ⟨s, _, rfl⟩ := List.mem_map.mp hd; exact Nat.zero_le _
  unfold sortedD
  simp only [ok, if_true, sortD_str]
theorem sorted_rows {fd : List (List Str)} (hn : ∀ r ∈ fd, r ≠ []) : sortedD [.lst (fd.map rowD)] = some (.lst (sortD (fd.map rowD))) := by
  have ok : srtOk (fd.map rowD) = true := by
    unfold srtOk
    simp only [Bool.and_eq_true, Bool.or_eq_true, List.all_eq_true, decide_eq_true_eq]
    refine ⟨⟨⟨plL_of fun d hd => ?_, fun x hx y hy => ?_⟩, .inl fun d hd => ?_⟩, fun d hd => ?_⟩
    · obtain ⟨s, _, rfl⟩ := List.mem_map.mp hd
      exact plL_of fun d hd => by obtain ⟨s, _, rfl⟩ := List.mem_map.mp hd; rfl
    · obtain ⟨s, _, rfl⟩ := List.mem_map.mp hx
      obtain ⟨t, _, rfl⟩ := List.mem_map.mp hy
      rw [rowD, rowD, D.py, D.py, PySem.W.alike, alike_strs]
    · obtain ⟨s, hs, rfl⟩ := List.mem_map.mp hd
      match s, hn s hs with
      | _ :: _, _ => rfl
    · obtain ⟨s, _, rfl⟩ := List.mem_map.mp hd
      have : (rowD s).py.depth ≤ 1 := by
        rw [rowD, D.py, PyData.depth]
        exact Nat.succ_le_succ (depth_of fun d hd => by obtain ⟨s, _, rfl⟩ := List.mem_map.mp hd; exact Nat.le_refl _)
      omega
  unfold sortedD
  simp only [ok, if_true]
end DL

namespace DL
open PySem L2 PySem.Spec PyProof.Rows

theorem at_last {l : List D} {x : D} : atI (l ++ [x]) (-1) = some x := by
  unfold L2.atI L2.ixN
  rw [if_neg (by omega), if_pos (by rw [List.length_append]; simp only [List.length_cons, List.length_nil]; omega)]
  have e : ((-1 : Int) + ((l ++ [x]).length : Nat)).toNat = l.length := by rw [List.length_append]; simp only [List.length_cons, List.length_nil]; omega
  rw [e]
  simp
theorem dcL_pure {i : Nat} {fk fv : M R} {e0 : Env} (k : D → Key) (h : D → D) :
    ∀ {ds : List D} {ak : List Key} {al : List D} {e : Env}, e.setS i .un = e0 → ak.length + ds.length ≤ sizeLine → (ak ++ ds.map k).Nodup →
      (∀ d ∈ ds, fk (e0.setS i (.dat d)) = .ok (.val d) (e0.setS i (.dat d)) ∧ kD d = some (k d) ∧ fv (e0.setS i (.dat d)) = .ok (.val (h d)) (e0.setS i (.dat d))) →
      ∃ e', dcL [i] (gN i) tYs fk fv ds ak al e = .ok (ak ++ ds.map k, al ++ ds.map h) e' ∧ e'.setS i .un = e0
  | [], ak, al, e, hw, _, _, _ => ⟨e, by simp [dcL], hw⟩
  | d :: ds, ak, al, e, hw, hl, hn, H => by
    obtain ⟨h1, h2, h3⟩ := H d List.mem_cons_self
    have hl' : ak.length + (ds.length + 1) ≤ sizeLine := hl
    have hnew : ¬ (ak.any fun j => decide (j = k d)) = true := by
      intro z
      obtain ⟨j, hj, e⟩ := List.any_eq_true.mp z
      have e := of_decide_eq_true e
      obtain ⟨_, _, n3⟩ := List.nodup_append.mp hn
      exact n3 j hj (k d) (by simp) e
    have ep : putDv ak al (k d) (h d) = (ak ++ [k d], al ++ [h d]) := if_neg hnew
    rw [dcL, v_wipe1, hw]
    simp only [v_gN, v_yes, h1, v_rdV, Option.bind_some, h2, h3, v_frzV, ep]
    rw [if_pos (by omega)]
    obtain ⟨e', q1, q2⟩ := dcL_pure (fk := fk) (fv := fv) (ak := ak ++ [k d]) (al := al ++ [h d]) (e := e0.setS i (.dat d)) k h (by subst hw; cases e; simp [Env.setS]) (by rw [List.length_append]; simp only [List.length_cons, List.length_nil]; omega) (by rw [List.append_assoc]; exact hn) fun x hx => H x (List.mem_cons_of_mem _ hx)
    refine ⟨e', ?_, q2⟩
    rw [q1]
    simp
theorem v_dc1 {i : Nat} {fi : M (List D)} {fk fv : M R} {e e1 : Env} {ds : List D} (k : D → Key) (h : D → D) (hi : fi e = .ok ds e1) (pl : plainAt e1 [i] = true) (hl : ds.length ≤ sizeLine) (hn : (ds.map k).Nodup)
    (H : ∀ d ∈ ds, fk ((e1.setS i .un).setS i (.dat d)) = .ok (.val d) ((e1.setS i .un).setS i (.dat d)) ∧ kD d = some (k d) ∧ fv ((e1.setS i .un).setS i (.dat d)) = .ok (.val (h d)) ((e1.setS i .un).setS i (.dat d))) :
    cDc [i] fi (gN i) tYs fk fv e = .ok (.val (.dct (ds.map k) (ds.map h))) e1 := by
  obtain ⟨e', q1, q2⟩ := dcL_pure (fk := fk) (fv := fv) (ak := []) (al := []) (e := e1) k h rfl (by simpa using hl) (by simpa using hn) H
  unfold cDc
  rw [hi, v_bnd, if_pos pl, q1]
  simp only [List.nil_append]
  rw [back_wipe (by rw [v_wipe1, v_wipe1]; exact q2)]
theorem ix_dct {ws : List Str} {f : Str → D} {x : Str} (hx : x ∈ ws) : ixD (.dct (ws.map fun w => .inr w) (ws.map f)) (.str x) = some (f x) := by
  show ((keyOf (.str x)).bind fun k => (((ws.map fun w => (.inr w : Key)).zip (ws.map f)).find? fun kv => decide (kv.1 = k)).map (·.2)) = _
  have e : keyOf (.str x) = some (.inr x) := rfl
  rw [e, Option.bind_some]
  induction ws with
  | nil => cases hx
  | cons w ws ih =>
    rw [List.map_cons, List.map_cons, List.zip_cons_cons, List.find?_cons]
    by_cases h : w = x
    · subst h; simp
    · have : (decide ((.inr w : Key) = .inr x)) = false := decide_eq_false fun z => h (Sum.inr.inj z)
      rw [this]
      exact ih ((List.mem_cons.mp hx).resolve_left fun z => h z.symm)
/-- the part of the ties at x, on data -/
def isAt1 (x : Str) : D → Bool
  | .tup [.str a, .str _] => decide (a = x)
  | _ => false
def isAt2 (x : Str) : D → Bool
  | .tup [.str _, .str b] => decide (b = x)
  | _ => false
def end1 : D → D
  | .tup [a, _] => a
  | d => d
def end2 : D → D
  | .tup [_, b] => b
  | d => d
theorem at1_map {ls : List (Str × Str)} {x : Str} : (((ls.map tieD).filter (isAt1 x)).map end2) = ((ls.filter fun p => decide (p.1 = x)).map (·.2)).map D.str := by
  rw [List.filter_map, List.map_map, List.map_map]
  rfl
theorem at2_map {ls : List (Str × Str)} {x : Str} : (((ls.map tieD).filter (isAt2 x)).map end1) = ((ls.filter fun p => decide (p.2 = x)).map (·.1)).map D.str := by
  rw [List.filter_map, List.map_map, List.map_map]
  rfl
@[simp] theorem v_fAdd {fa fb : M R} {e : Env} : fAdd fa fb e = (fa e).bnd fun x e1 => (fb e1).bnd fun y e2 => fAddO (e2.rd x) (e2.rd y) e2 := rfl
theorem v_fAddO {a b : List D} {e : Env} (h : a.length + b.length ≤ 16777216) : fAddO (some (.lst a)) (some (.lst b)) e = .ok (.lst (a ++ b)) e := if_pos (by rw [sizeLine_eq]; exact h)
theorem row_app {l : List Str} {s : Str} (h : l.length ≤ 100) : addD (rowD l) (.tup [.str s]) = some (rowD (l ++ [s])) := by
  unfold rowD
  rw [v_addT (by simp only [List.length_map, List.length_cons, List.length_nil]; omega)]
  simp
theorem notIn_row {l : List Str} {s : Str} (hs : PyData.strOk s = true) (hl : ∀ x ∈ l, PyData.strOk x = true) : notInD (.str s) (rowD l) = some (.bl (!decide (s ∈ l))) := by
  unfold rowD
  rw [notInD_tup (k := 1) (.str hs) (sh_row hl) (by omega), memB_str]
theorem row_last {l : List Str} {s : Str} : ixD (rowD (l ++ [s])) (.int (-1)) = some (.str s) := by
  unfold rowD
  rw [v_ixT, List.map_append]
  exact at_last
end DL

namespace DL
open PySem L2 PySem.Spec PyProof.Rows

/-! ### how long a repr is -/
theorem ok_app {a b : Str} (ha : PyData.strOk a = true) (hb : PyData.strOk b = true) : PyData.strOk (a ++ b) = true := by
  unfold PyData.strOk at ha hb ⊢
  show (a.cps ++ b.cps).all _ = true
  rw [Array.all_append, ha, hb]
  rfl
theorem ok_join : ∀ {ts : List Str}, (∀ t ∈ ts, PyData.strOk t = true) → PyData.strOk (Str.join ", " ts) = true
  | [], _ => by decide +kernel
  | [x], h => h x List.mem_cons_self
  | x :: y :: r, h => ok_app (ok_app (h x List.mem_cons_self) (by decide +kernel)) (ok_join fun t ht => h t (List.mem_cons_of_mem _ ht))
theorem ok_listText {ts : List Str} (h : ∀ t ∈ ts, PyData.strOk t = true) : PyData.strOk (listText ts) = true := by
  rw [listText_eq_join]
  exact ok_app (ok_app (by decide +kernel) (ok_join h)) (by decide +kernel)
theorem ok_tupleText {ts : List Str} (h : ∀ t ∈ ts, PyData.strOk t = true) : PyData.strOk (tupleText ts) = true := by
  unfold tupleText
  refine ok_app (ok_app (by decide +kernel) (ok_join h)) ?_
  split <;> decide +kernel
structure Txt (n : Nat) (d : D) : Prop where
  sh : d.py.showable = true
  len : d.py.shown.length ≤ n
  ok : PyData.strOk d.py.shown = true
theorem shown_all : ∀ l : List D, PyData.shownAll (D.pyL l) = l.map fun d => d.py.shown
  | [] => by rw [D.pyL, PyData.shownAll]; rfl
  | d :: l => by rw [D.pyL, PyData.shownAll, shown_all l]; rfl
theorem sum_len {n : Nat} : ∀ {l : List D}, (∀ d ∈ l, Txt n d) → (((l.map fun d => d.py.shown).map fun t => t.length).sum) ≤ l.length * n
  | [], _ => Nat.zero_le _
  | d :: l, h => by
    have ih := sum_len fun x hx => h x (List.mem_cons_of_mem _ hx)
    have := (h d List.mem_cons_self).len
    rw [List.map_cons, List.map_cons, List.sum_cons, List.length_cons, Nat.add_mul]
    omega
theorem Txt.tup {n : Nat} {l : List D} (h : ∀ d ∈ l, Txt n d) : Txt (l.length * n + 2 * l.length + 3) (.tup l) := by
  have e : (D.tup l).py.shown = tupleText (l.map fun d => d.py.shown) := by rw [D.py, PyData.shown, shown_all]
  refine ⟨?_, ?_, ?_⟩
  · rw [D.py, PyData.showable]
    exact pyL_all (q := PyData.showable) (qa := PyData.showableAll) (by simp [PyData.showableAll]) (fun x l => by simp [PyData.showableAll]) fun d hd => (h d hd).sh
  · rw [e]
    refine Nat.le_trans (tupleText_len_le _) ?_
    have := sum_len h
    rw [List.length_map]
    omega
  · rw [e]
    exact ok_tupleText fun t ht => by obtain ⟨d, hd, rfl⟩ := List.mem_map.mp ht; exact (h d hd).ok
theorem Txt.lst {n : Nat} {l : List D} (h : ∀ d ∈ l, Txt n d) : Txt (l.length * n + 2 * l.length + 3) (.lst l) := by
  have e : (D.lst l).py.shown = listText (l.map fun d => d.py.shown) := by rw [D.py, PyData.shown, shown_all]
  refine ⟨?_, ?_, ?_⟩
  · rw [D.py, PyData.showable]
    exact pyL_all (q := PyData.showable) (qa := PyData.showableAll) (by simp [PyData.showableAll]) (fun x l => by simp [PyData.showableAll]) fun d hd => (h d hd).sh
  · rw [e]
    refine Nat.le_trans (listText_len_le _) ?_
    have := sum_len h
    rw [List.length_map]
    omega
  · rw [e]
    exact ok_listText fun t ht => by obtain ⟨d, hd, rfl⟩ := List.mem_map.mp ht; exact (h d hd).ok
theorem Txt.mono {n m : Nat} {d : D} (h : Txt n d) (hm : n ≤ m) : Txt m d := ⟨h.sh, Nat.le_trans h.len hm, h.ok⟩
theorem repr_of {k n : Nat} {d : D} (hs : isSeqD d = true) (h : Sh k d) (hk : k ≤ 60) (t : Txt n d) (hn : n ≤ 16777216) : reprD [d] = some (.str d.py.shown) := by
  obtain ⟨h1, h2, h3, h4⟩ := h.facts
  have c : (isSeqD d && d.pl && d.py.showable && decide (d.py.depth ≤ 60) && decide (d.py.shown.length ≤ sizeLine) && !d.py.hasDict) = true := by
    rw [hs, h1, t.sh, h4, decide_eq_true (by omega : d.py.depth ≤ 60), decide_eq_true (by rw [sizeLine_eq]; have := t.len; omega : d.py.shown.length ≤ sizeLine)]
    rfl
  unfold reprD
  simp only [c, if_true]
/-- rows of short words -/
theorem txt_row {l : List Str} (h : ∀ s ∈ l, Txt 10 (.str s)) (hl : l.length ≤ 9) : Txt 111 (rowD l) := by
  refine (Txt.tup (n := 10) fun d hd => ?_).mono (by rw [List.length_map]; omega)
  obtain ⟨s, hs, rfl⟩ := List.mem_map.mp hd
  exact h s hs
theorem txt_rows {E : List (List Str)} (h : ∀ r ∈ E, r.length ≤ 9 ∧ ∀ s ∈ r, Txt 10 (.str s)) (hE : E.length ≤ 13700) : Txt 1548103 (.tup (E.map rowD)) := by
  refine (Txt.tup (n := 111) fun d hd => ?_).mono (by rw [List.length_map]; omega)
  obtain ⟨r, hr, rfl⟩ := List.mem_map.mp hd
  exact txt_row (h r hr).2 (h r hr).1
end DL

namespace DL
open PySem L2 PySem.Spec PyProof.Rows

section
variable {e : Env} {d : D}
@[simp] theorem v_nCall {Φ : Fn} {fs : M (List R)} : nCall Φ fs e = (fs e).bnd fun rs e1 => nCallO Φ (e1.frzs rs) := rfl
@[simp] theorem v_nCallO {Φ : Fn} {ds : List D} : nCallO Φ (some (ds, e)) = callN e (Φ (ds.map A.dat) []) := rfl
@[simp] theorem v_callN : callN e (.ok d []) = .ok d e := rfl
@[simp] theorem v_callT {Φ : Fn} {f : M D} : cCallT Φ f e = (f e).bnd fun d e1 => DL.callT e1 (Φ [.jar 0] [d]) := rfl
@[simp] theorem v_callTo {x : D} : DL.callT e (.ok d [x]) = .ok (.val d) e := rfl
@[simp] theorem v_nSeq {f : M Fl} {g : M D} : nSeq f g e = (f e).bnd fun fl e1 => (match fl with
  | .nx => g e1
  | _ => .bad) := rfl
def methK2 (Φ : Fn) (n nk : Nat) (p : List Nat) (d : D) (ds : List D) : Option (List D × Env) → Out R
  | some (zs, e) => if ds.length = n ∧ zs.length = nk then callO e (Φ ((prm p (d :: ds ++ zs)).map A.dat) []) else .bad
  | none => .bad
def methK1 (Φ : Fn) (n nk : Nat) (p : List Nat) (d : D) (gs : M (List R)) : Option (List D × Env) → Out R
  | some (ds, e) => (gs e).bnd fun qs e3 => methK2 Φ n nk p d ds (e3.frzs qs)
  | none => .bad
@[simp] theorem v_methK {c m : Str} {Φ : Fn} {n nk : Nat} {p : List Nat} {g : M R} {fs gs : M (List R)} : cMethK c m Φ n nk p g fs gs e = (g e).bnd fun r e1 => methKO c m Φ n nk p (e1.frz r) fs gs := rfl
@[simp] theorem v_methKO {c m : Str} {Φ : Fn} {n nk : Nat} {p : List Nat} {fs gs : M (List R)} : methKO c m Φ n nk p (some (d, e)) fs gs = if isObjC c d && !hasN m d then (fs e).bnd fun rs e1 => methK1 Φ n nk p d gs (e1.frzs rs) else .bad := by first | rfl | (unfold methKO methK1 methK2; rfl)
@[simp] theorem v_methK1 {Φ : Fn} {n nk : Nat} {p : List Nat} {gs : M (List R)} {ds : List D} : methK1 Φ n nk p d gs (some (ds, e)) = (gs e).bnd fun qs e3 => methK2 Φ n nk p d ds (e3.frzs qs) := rfl
@[simp] theorem v_methK2 {Φ : Fn} {n nk : Nat} {p : List Nat} {ds zs : List D} : methK2 Φ n nk p d ds (some (zs, e)) = if ds.length = n ∧ zs.length = nk then callO e (Φ ((prm p (d :: ds ++ zs)).map A.dat) []) else .bad := rfl
end
theorem neD_self {k : Nat} {a : D} (ha : Sh k a) (hk : k ≤ 64) : neD a a = some (.bl false) := by
  rw [neD_of ha ha hk, ha.refl]
  rfl
/-- the spot is another one -/
def isNot (x : Str) : D → Bool
  | .str a => !decide (a = x)
  | _ => false
theorem not_map {ws : List Str} {x : Str} : ((ws.map D.str).filter (isNot x)) = (ws.filter fun s => !decide (s = x)).map D.str := by
  rw [List.filter_map]
  rfl
end DL

namespace DL
open PySem L2 PySem.Spec PyProof.Rows

/-! ### a dict that a name owns -/
def fDct : M D := fun e => .ok (.dct [] []) e
def isDct : Option D → Bool
  | some (.dct _ _) => true
  | _ => false
def dputO (i : Nat) (d : D) (k : Key) (e : Env) : Option D → Out Fl
  | some (.dct ks l) => if ks.length < sizeLine then outE (e.put i (.dct (putDv ks l k d).1 (putDv ks l k d).2)) fun e3 => .ok .nx e3 else .bad
  | _ => .bad
def dputK (i : Nat) (d : D) (e : Env) : Option Key → Out Fl
  | some k => dputO i d k e (e.rd (.whole i))
  | none => .bad
def dputV (i : Nat) (fk : M R) : Option (D × Env) → Out Fl
  | some (d, e) => if isDct (e.rd (.whole i)) then (fk e).bnd fun rk e3 => dputK i d e3 ((e3.rd rk).bind kD) else .bad
  | none => .bad
def sDput (i : Nat) (fk fv : M R) : M Fl := fun e => (fv e).bnd fun r e1 => dputV i fk (e1.frz r)
section
variable {X : Cx} {cl : Str → Addr} {F : Fra} {W : WX}
theorem rf_dct {pos : Pos} : RF X cl F W (.Dict [] [] pos) fDct := by
  refine ⟨PE.imp pe_dnewK fun σ H Q ⟨e, G, st, q⟩ p hp => ?_⟩
  have z : ∀ a H' G', Stt X.K cl F e σ H' G' → Kp F σ e H G e H' G' → Own X.K cl H' G' a (.dct [] []) → G' a = none → F.H0 a = none → Loose F e σ a → (∀ b o, H b = some o → Loose F e σ b → b ≠ a) → Q (.ref a) H' := q
  obtain ⟨a1, a2, a3, a4, a5, a6⟩ := st.new (o := .dK []) .refl hp
  exact z p _ G a1 a2 ⟨[], upd_same, rfl, .nil⟩ a3 a4 a5 a6
theorem rs_dput (i : Nat) {x : Str} {a b : Expr} {fk fv : M R} {p pos pos' : Pos} (hu : X.A.units + 1 < cLine) (hk : RE X cl F W a fk) (hv : RE X cl F W b fv) (hN : X.N[i]? = some x := by rfl) (hvis : Vis X.env.scope x := by first | exact Or.inl rfl | exact Or.inr (Or.inl rfl) | exact Or.inr (Or.inr rfl)) (hd : (x == ("__debug__" : Str)) = false := by decide)
    (hcd : (x == ("__classdict__" : Str)) = false := by decide) (hs : swapsWith b (some (.Subscript (.Name x p) a pos')) pos.line X.env = pure false := by rfl) :
    RS X cl F W (.Assign [.Subscript (.Name x p) a pos'] b pos) (sDput i fk fv) := by
  refine ⟨PS.imp (ps_dput hu (pe_var hN hvis hd hcd) hk.pe hv.pe hs) fun D σ H ⟨e, G, st, q⟩ => tD_st st q fun r e1 v H1 G1 s1 k1 r1 z => ?_⟩
  cases y : e1.frz r with
  | none => rw [y] at z; exact z.elim
  | some pr =>
    obtain ⟨dv, e2⟩ := pr
    rw [y] at z
    obtain ⟨G2, s2, k2, r2⟩ := frz_ok s1 r1 y
    simp only [dputV] at z
    split at z
    · rename_i hl
      cases h0 : e2.rd (.whole i) with
      | none => rw [h0] at hl; cases hl
      | some d0 =>
        obtain ⟨a0, hs0, o0⟩ := s2.ref_at h0
        refine ⟨_, hs0, tD_st s2 (z.mono k2.gg) fun rk e3 vk H3 G3 s3 k3 r3 z => ?_⟩
        cases hkd : (e3.rd rk).bind kD with
        | none => rw [hkd] at z; exact z.elim
        | some k =>
          rw [hkd] at z
          obtain ⟨dk, hk1, hk2⟩ := Option.bind_eq_some_iff.mp hkd
          have ek := kD_top (s3.top r3 hk1) hk2
          simp only [dputK] at z
          cases h3 : e3.rd (.whole i) with
          | none => rw [h3] at z; exact z.elim
          | some d3 =>
            rw [h3] at z
            cases d3 with
            | dct ks l =>
              simp only [dputO] at z
              split at z
              · rename_i hsz
                obtain ⟨a3, hs3, us, hu3, hl3, ru⟩ := s3.ref_at h3
                rw [hs0] at hs3; cases hs3
                obtain ⟨us', p1, p2, p3⟩ := put_zip (k := k) (r2.mono k3.gg) hl3 ru
                cases hp : e3.put i (.dct (putDv ks l k dv).1 (putDv ks l k dv).2) with
                | none => rw [hp] at z; exact z.elim
                | some e4 =>
                  rw [hp] at z
                  obtain ⟨s4, k4⟩ := s3.put (o := .dK ((putDv ks l k dv).1.zip us')) hs0 h3 hp fun H' h => ⟨us', h, p2, p3⟩
                  refine ⟨a0, upd H3 a0 (.dK ((putDv ks l k dv).1.zip us')), rfl, ?_, z σ _ _ s4 (.refl _)⟩
                  rw [ek, ← p1]
                  exact DPut.k hu3 (by rw [List.length_zip, ← hl3, Nat.min_self]; exact hsz)
              · exact z.elim
            | _ => exact z.elim
    · exact z.elim
end
end DL

namespace DL
open PySem L2 PySem.Spec PyProof.Rows

/-! ### a dict of one pair that a name owns -/
def dct1O (fv : M R) (e1 : Env) : Option Key → Out D
  | some k => (fv e1).bnd fun q e2 => (match e2.frz q with
    | some (y, e3) => .ok (.dct [k] [y]) e3
    | none => .bad)
  | none => .bad
def fDct1 (fk fv : M R) : M D := fun e => (fk e).bnd fun r e1 => dct1O fv e1 ((e1.rd r).bind kD)
/-! ### d.get(k, other) -/
def zipAt (ks : List Key) (l : List D) (k : Key) : Option D := ((ks.zip l).find? fun kv => decide (kv.1 = k)).map (·.2)
def get2V (r0 : R) (z : D) (e : Env) : Option Key → Out R
  | some k => (match e.rd r0 with
    | some (.dct ks l) => .ok (.val ((zipAt ks l k).getD z)) e
    | _ => .bad)
  | none => .bad
def get2K (r0 rk : R) : Option (D × Env) → Out R
  | some (z, e) => get2V r0 z e ((e.rd rk).bind kD)
  | none => .bad
def cGet2 (fo fk fv : M R) : M R := fun e => (fo e).bnd fun r0 e1 => if isDct (e1.rd r0) then (fk e1).bnd fun rk e2 => (fv e2).bnd fun rv e3 => get2K r0 rk (e3.frz rv) else .bad
/-! ### f(.., k = v, ..) of a def -/
def cCallK (Φ : Fn) (n nk : Nat) (p : List Nat) (fs gs : M (List R)) : M R := fun e => (fs e).bnd fun rs e1 => match e1.frzs rs with
  | some (ds, e2) => (gs e2).bnd fun qs e3 => (match e3.frzs qs with
    | some (zs, e4) => if ds.length = n ∧ zs.length = nk then callO e4 (Φ ((prm p (ds ++ zs)).map A.dat) []) else .bad
    | none => .bad)
  | none => .bad
section
variable {X : Cx} {cl : Str → Addr} {F : Fra} {W : WX}
theorem rf_dct1 {kx vx : Expr} {pos : Pos} {fk fv : M R} (hk : RE X cl F W kx fk) (hv : RE X cl F W vx fv) : RF X cl F W (.Dict [some kx] [vx] pos) (fDct1 fk fv) := by
  refine ⟨PE.imp (pe_disp (pps_cons hk.pe hv.pe pps_nil) rfl rfl (by simp) (by simp)) fun σ H Q ⟨e, G, st, q⟩ p hp => ?_⟩
  obtain ⟨lp, hp0⟩ := st.fresh hp
  have g0 : G p = none := st.ret.gh.free hp
  refine tD_then (st.layL (o := .dK []) hp) q fun r e1 v H1 G1 s1 k1 r1 z => ?_
  cases hkd : (e1.rd r).bind kD with
  | none => rw [hkd] at z; exact z.elim
  | some k =>
    rw [hkd] at z
    obtain ⟨dk, hk1, hk2⟩ := Option.bind_eq_some_iff.mp hkd
    have ek := kD_top (s1.top r1 hk1) hk2
    refine tD_then s1 z fun q2 e2 y H2 G2 s2 k2 r2 z => ?_
    cases hz : e2.frz q2 with
    | none => rw [hz] at z; exact z.elim
    | some py =>
      obtain ⟨dy, e3⟩ := py
      rw [hz] at z
      obtain ⟨G3, s3, k3, r3⟩ := frz_ok s2 r2 hz
      have kk := (k1.trans k2).trans k3
      obtain ⟨h2p, g2p⟩ := kk.kp p _ upd_same lp
      have g2p := g2p g0
      have le : Loose F e3 σ p := ⟨lp.1, fun j d hj => by
        obtain ⟨d', h'⟩ := kk.ow j d hj
        exact lp.2 j d' h'⟩
      refine ⟨h2p, [(k, y)], by rw [ek]; rfl, by simp, ?_⟩
      refine z p _ G3 (s3.updL h2p g2p hp0 le) ⟨kk.gg, fun a o h l => ?_, kk.ow⟩ ⟨[y], upd_same, rfl, .cons r3 .nil⟩ g2p hp0 le fun b u q lb => ne_of_none q hp
      have ne := ne_of_none h hp
      obtain ⟨q1, q2⟩ := kk.kp a o (by rw [upd_ne ne]; exact h) l
      exact ⟨by rw [upd_ne ne]; exact q1, q2⟩
theorem rep_getD {K : PySem.W.Frag} {G : Hp} {ks : List Key} {l : List D} {vs : List V} {k : Key} {z : D} {w : V} (r : RepL K cl G l vs) (hl : ks.length = vs.length) (rz : Rep K cl G z w) : Rep K cl G ((zipAt ks l k).getD z) ((valV (ks.zip vs) k).getD w) := by
  unfold zipAt
  cases e : ((ks.zip l).find? fun kv => decide (kv.1 = k)).map (·.2) with
  | some d =>
    obtain ⟨v, hv, rv⟩ := r.zipFind e
    have hv : valV (ks.zip vs) k = some v := hv
    rw [hv]
    exact rv
  | none =>
    have h1 := valV_zip_some k ks l (by rw [hl, r.length])
    have h2 := valV_zip_some k ks vs hl
    have h2 : (valV (ks.zip vs) k).isSome = hasK ks k := h2
    rw [e] at h1
    rw [← h1] at h2
    cases e2 : valV (ks.zip vs) k with
    | none => exact rz
    | some v => rw [e2] at h2; cases h2
theorem re_get2 {o a b : Expr} {fo fk fv : M R} {apos pos : Pos} (hu : X.A.units + 1 < cLine) (ho : RE X cl F W o fo) (hk : RE X cl F W a fk) (hv : RE X cl F W b fv) (m : M2 X o "get" apos a b pos := by exact ⟨rfl, rfl, rfl, rfl⟩) : RE X cl F W (.Call (.Attribute o "get" apos) [a, b] [] pos) (cGet2 fo fk fv) := by
  refine ⟨PE.imp (pe_dget2 hu ho.pe hk.pe hv.pe m) fun σ H Q ⟨e, G, st, q⟩ => tD_then st q fun r0 e1 x H1 G1 s1 k1 r1 z => ?_⟩
  by_cases hd : isDct (e1.rd r0) = true
  · rw [if_pos hd] at z
    cases h0 : e1.rd r0 with
    | none => rw [h0] at hd; cases hd
    | some d0 =>
      rw [h0] at hd
      cases d0 with
      | dct ks0 l0 =>
        obtain ⟨a0, vs0, rfl, ha0, _, _⟩ := (s1.top r1 h0).dct s1.ret.gh
        refine ⟨a0, rfl, .inl ⟨_, ha0⟩, tD_then s1 z fun rk e2 y H2 G2 s2 k2 r2 z => tD_then s2 z fun rv e3 w H3 G3 s3 k3 r3 z => ?_⟩
        cases hz : e3.frz rv with
        | none => rw [hz] at z; exact z.elim
        | some py =>
          obtain ⟨dz, e4⟩ := py
          rw [hz] at z
          obtain ⟨G4, s4, k4, r4⟩ := frz_ok s3 r3 hz
          simp only [get2K] at z
          cases hkd : (e4.rd rk).bind kD with
          | none => rw [hkd] at z; exact z.elim
          | some k =>
            rw [hkd] at z
            obtain ⟨dk, hk1, hk2⟩ := Option.bind_eq_some_iff.mp hkd
            have ek := kD_top (s4.top ((r2.mono k3.gg).mono k4.gg) hk1) hk2
            simp only [get2V] at z
            cases h4 : e4.rd r0 with
            | none => rw [h4] at z; exact z.elim
            | some d4 =>
              rw [h4] at z
              cases d4 with
              | dct ks l =>
                obtain ⟨a4, vs, e4', ha4, hl, rr⟩ := (s4.top (((r1.mono k2.gg).mono k3.gg).mono k4.gg) h4).dct s4.ret.gh
                cases e4'
                refine ⟨valV (ks.zip vs) k, by rw [ek]; exact .inl ⟨_, _, ha4, rfl, rfl⟩, z _ _ _ s4 (((k1.trans k2).trans k3).trans k4) (rep_getD rr hl r4)⟩
              | _ => exact z.elim
      | _ => cases hd
  · rw [if_neg hd] at z; exact z.elim
variable {k : Nat} {f pr : Addr} {fd : FuncData} {ps ks : List Str} {Φ : Fn} {x : Str} {a : Expr} {es : List Expr} {kws : List Keyword} {fs gs : M (List R)} {pos q : Pos} {n : Nat} {p : List Nat}
theorem pe_callN0 {CX : CXT} {sp : Sp} {E : XK} {tk : TA} {g : List Value → List Value → List Value} {gV : List V → List V → List V} (Fn : FnOk X.prog X.w X.K X.mg X.base CX k f fd ps sp) (hr : Room k X.A) (hg : Gl X x) (hm : X.mg x = some (.ref f)) (hk : PySem.W.keepIn X.K (.ref f) = true) (hb : KBn X.K fd ps 0 ks g gV) (hx : Passes CX X E)
    (hkw : PK X kws tk) (hall : (backToKw pos (keywordEach kws X.env)).all (·.1.isSome) = true := by rfl) (hks : (backToKw pos (keywordEach kws X.env)).filterMap (·.1) = ks := by rfl)
    (hdb : (x == ("__debug__" : Str)) = false := by decide)
    (hpl : ((backTo pos (starEach [] X.env)).any (·.1) || (backToKw pos (keywordEach kws X.env)).any (·.1.isNone)) = false :=
                                                                                                              by rfl) :
    PE X (.Call (.Name x q) [] kws pos) (tCallN 0 ks.length sp gV E tNil tk) := by
  refine ⟨fun pins s
                                                                                                              σ H Q I h => ?_⟩
  refine wpAny_Call_Name_kw
                                                                                                              (ld_glob I hg hm ?_ hdb)
  refine PySem.W.callWith_KW0 (h₀ := X.base) I.ok.mod.kin hk hall ?_ hpl
  refine thn (hkw.run pos pins s σ H _ I h) fun ws
                                                                                                              s2 ⟨zs, H2, I2, rz, l1, l2, q2⟩ => ⟨I2.kIn, ?_⟩
  rw [hks]
  exact run_fnN (us := []) (vs := []) Fn hr hb hx I2 .nil rz rfl l2 q2
theorem callK_D {σ : L2.St} {H : Hp} {Q : VK} (h : tD X.K cl F W (cCallK Φ n ks.length p fs gs) σ H Q) :
    tCallN n ks.length (spD X.K cl Φ) (fun vs zs => prm p (vs ++ zs)) (fun c d H => ∃ σ, W c d σ H) (tA X.K cl F W fs) (tA X.K cl F W gs) σ H Q := by
  obtain ⟨e, G, st, q⟩ := h
  refine tA_then st q fun rs e3 vs H3 G3 s3 k3 r3 z => ?_
  cases y3 : e3.frzs rs with
  | none => rw [y3] at z; exact z.elim
  | some p3 =>
    obtain ⟨ds, e4⟩ := p3
    rw [y3] at z
    obtain ⟨G4, s4, k4, r4⟩ := frzs_ok s3 r3 y3
    refine tA_then s4 z fun qs e5 zs H5 G5 s5 k5 r5 z => ?_
    cases y5 : e5.frzs qs with
    | none => rw [y5] at z; exact z.elim
    | some p5 =>
      obtain ⟨es, e6⟩ := p5
      rw [y5] at z
      obtain ⟨G6, s6, k6, r6⟩ := frzs_ok s5 r5 y5
      simp only at z
      split at z
      · rename_i hl2
        refine ⟨r4.length.symm.trans hl2.1, r6.length.symm.trans hl2.2, ?_⟩
        have g46 : Same G4 G6 := fun b o q => k6.gg b o (k5.gg b o q)
        have rr : RepL X.K cl G6 (ds ++ es) (vs ++ zs) := RepL.append (r4.mono g46) r6
        exact callO_D (Φ := Φ) (ds := prm p (ds ++ es)) s6 (repL_prm rr p) z (fun d v H' G' s7 k7 rv hq => hq v H' G' s7 ((((k3.trans k4).trans k5).trans k6).trans k7) rv) (fun c d H' z => ⟨σ, z⟩)
      · exact z.elim
theorem re_callK (Fn : FnOk X.prog X.w X.K X.mg X.base (L2N.CX X.prog X.w) k f fd ps (spD X.K cl Φ)) (hr : Room k X.A) (tk : L2N.Takes X W) (hW : SI W) (hg : Gl X x) (hm : X.mg x = some (.ref f)) (hk : PySem.W.keepIn X.K (.ref f) = true) (hb : KBp X.K fd ps n ks p)
    (ha : RA X cl F W (a :: es) fs) (hkw : RK X cl F W kws gs)
    (hall : (backToKw pos (keywordEach kws X.env)).all (·.1.isSome) = true := by rfl) (hks : (backToKw pos (keywordEach kws X.env)).filterMap (·.1) = ks := by rfl)
    (hdb : (x == ("__debug__" : Str)) = false := by decide) (he : starEach (a :: es) X.env = (false, eval a X.env) :: starEach es X.env := by rfl)
    (hpl : ((backTo pos (starEach (a :: es) X.env)).any (·.1) || (backToKw pos (keywordEach kws X.env)).any (·.1.isNone)) = false := by rfl) :
    RE X cl F W (.Call (.Name x q) (a :: es) kws pos) (cCallK Φ n ks.length p fs gs) :=
  ⟨PE.imp (pe_callN (E := fun c d H => ∃ σ, W c d σ H) Fn hr hg hm hk hb (L2N.passes_call tk fun c d σ H ⟨σ', z⟩ => hW c d σ' σ H z) ha.pa hkw.pk hall hks hdb he hpl) fun σ H Q z => callK_D z⟩
theorem re_callK0 (Fn : FnOk X.prog X.w X.K X.mg X.base (L2N.CX X.prog X.w) k f fd ps (spD X.K cl Φ)) (hr : Room k X.A) (tk : L2N.Takes X W) (hW : SI W) (hg : Gl X x) (hm : X.mg x = some (.ref f)) (hk : PySem.W.keepIn X.K (.ref f) = true) (hb : KBp X.K fd ps 0 ks p)
    (hkw : RK X cl F W kws gs)
    (hall : (backToKw pos (keywordEach kws X.env)).all (·.1.isSome) = true := by rfl) (hks : (backToKw pos (keywordEach kws X.env)).filterMap (·.1) = ks := by rfl)
    (hdb : (x == ("__debug__" : Str)) = false := by decide)
    (hpl : ((backTo pos (starEach [] X.env)).any (·.1) || (backToKw pos (keywordEach kws X.env)).any (·.1.isNone)) = false :=
                                                                                                              by rfl) :
    RE X cl F W (.Call (.Name x q) [] kws pos) (cCallK Φ 0 ks.length p cNil gs) := by
  refine ⟨PE.imp (pe_callN0 (E := fun c d H => ∃ σ, W c d σ H) Fn hr hg hm hk hb (L2N.passes_call tk fun c d σ H ⟨σ', z⟩ => hW c d σ' σ H z) hkw.pk hall hks hdb hpl) fun σ H Q z => ?_⟩
  have z := callK_D z
  obtain ⟨e, G, st, q⟩ := z
  exact q [] H G st .refl .nil
end
end DL

namespace DL
open PySem PySem.Spec PySem.W PySem.Calls PyProof.Rows

/-! ### sorted of a tuple -/
section
variable {prog : Program} {w : World} {A : Around} {E : Value → Shared → Prop} {s : Shared} {vs : List Value} {l : Addr}
theorem gather_tup {Q : List Value → Shared → Prop} (hl : s.heap.IsTuple l vs.toArray)
    (h : Q vs { s with heap := (s.heap.push (seqObj "list" #[] 0)).update s.heap.objs.size (Obj.mapSeq (· ++ vs.toArray)) }) (hsz : vs.length ≤ sizeLine) :
    wpAny (model prog w) A
                                                                                                              (collect (.ref l)) Q E s := by
  obtain ⟨o, ho, hc,
                                                                                                              n, hd⟩ := id hl
  unfold collect
  refine wpAny_bind (wpAny_runValue
                                                                                                              (codeAny_builtin entry_proto_collect' ?_))
  show wpAny _ _ (do again (.builtin "list.__iadd__"
                                                                                                              ⟨[← newList [], .ref l], []⟩)) _ _ s
  refine wpAny_bind (wpAny_newList (wpAny_pure ⟨Code.quiet_builtin
                                                                                                              _ (by decide +kernel), codeAny_builtin entry_list_iadd' ?_⟩))
  show wpAny _ _ (Builtin.List.listExtendWith (.ref s.heap.objs.size) (.ref l)
                                                                                                              (.ref s.heap.objs.size)) _ _ { s with heap := s.heap.push (seqObj "list" #[] 0) }
  unfold
                                                                                                              Builtin.List.listExtendWith
  have ho' : (s.heap.push (seqObj "list" #[]
                                                                                                              0)).get? l = some o := Heap.get?_push_of_some _ ho
  refine wpAny_bind (wpAny_typeOf (T := "tuple") ⟨o, ho', hc⟩ ?_)
  have ht : (Value.type "tuple" == Value.type "tuple") = true := by rfl
  rw [if_pos (by
                                                                                                              rw [ht]; simp)]
  refine wpAny_bind
                                                                                                              (listItems_at ho' hd ?_)
  refine wpAny_bind (listItems_at (xs := #[])
                                                                                                              (n := 0) (Heap.get?_push_size _ rfl) rfl ?_)
  rw [if_neg (by simp)]
  refine wpAny_bind (listUpdate_at (xs := #[]) (n := 0) (Heap.get?_push_size _ rfl) rfl ?_ (Nat.zero_le _) (by show
                                                                                                              (#[] ++ vs.toArray).size ≤ sizeLine + 1; simp only [Array.size_append, List.size_toArray, List.length_nil]; omega))
  refine wpAny_pure ?_
  show wpAny (model
                                                                                                              prog w) A (do
      let o ← load s.heap.objs.size
      match o.data with
      | .seq xs _ => pure xs.toList
      | _ =>
                                                                                                              unsupported "internal:collect") Q E { s with heap := (s.heap.push (seqObj "list" #[] 0)).update s.heap.objs.size (Obj.mapSeq (· ++ vs.toArray)) }
  refine wpAny_bind (wpAny_load (get?_update_seq
                                                                                                              (Heap.get?_push_size _ rfl) _) ?_)
  show wpAny _ _ (pure ((#[] : Array
                                                                                                              Value) ++ vs.toArray).toList) Q E _
  rw [show ((#[] : Array Value) ++ vs.toArray).toList = vs
                                                                                                              by simp]
  exact wpAny_pure h
theorem sortT_vals {κ : PyProof.Rows.KeyKind} {Q : Value → Shared → Prop} (hl : s.heap.IsTuple l vs.toArray) (S : SortsAt prog w A.in1.in1 { s with heap := sortingHeap (copyHeap s.heap vs) (s.heap.objs.size + 1) vs } κ vs) (hL : vs.length ≤ sizeLine)
    (h : Q (.ref (s.heap.objs.size + 1)) { s with heap := sortedAll s.heap vs (sortVals κ false vs vs).toArray }) : wpAny (model prog w) A (call (.builtin "sorted") [.ref l]) Q E s := by
  refine call_function_entry_kw kind_sorted plain_sorted entry_sorted (args_sorted1 _) ?_
  unfold Builtin.«sorted»
  refine wpAny_bind (m := checkCount
                                                                                                              "sorted" 1 1 _) (wpAny_pure ?_)
  refine wpAny_bind (gather_tup hl ?_ hL)
  refine wpAny_bind
                                                                                                              (wpAny_newList ?_ hL)
  have hsz : ((s.heap.push (seqObj "list" #[] 0)).update s.heap.objs.size
                                                                                                              (Obj.mapSeq (· ++ vs.toArray))).objs.size = s.heap.objs.size + 1 := by
    rw [Heap.size_update,
                                                                                                              size_push']
  show wpAny _ _ _ _ _ { s with
                                                                                                              heap := copyHeap s.heap vs }
  rw [hsz]
  refine wpAny_bind (wpAny_holding (wpAny_call_entry_kw slot_list_sort ⟨_, copyHeap_at s.heap vs, rfl⟩ entry_list_sort ?body (args_list_sort _)))
  case body =>
    show wpAny (model prog w) A.in1.in1 (Builtin.«list.sort» ⟨[.ref (s.heap.objs.size + 1)], []⟩) _ _ _
    refine wpAny_mono (Q := fun f s' => f = .done (.ret .none) ∧ Q (.ref (s.heap.objs.size + 1)) s') (list_sort_vals (s := { s with heap := copyHeap s.heap vs }) (copyHeap_at s.heap vs) S hL ⟨rfl, h⟩) (fun f s' hf => ?_) fun _ _ e => e
    obtain ⟨rfl, hq⟩ := hf
    exact ⟨_, rfl,
                                                                                                              wpAny_pure ⟨_, rfl, hq⟩⟩
theorem sortT_data {β : Type} {bs : List β} {enc : β → PyData} {R : Value → β → Prop} {Q : Value → Shared → Prop} (hl : s.heap.IsTuple l vs.toArray) (e : EachIs R vs bs) (er : EachIs (fun v b => ∃ as, Reads s.heap v (enc b) as) vs bs) (hal : AllAlike (bs.map enc)) (hk : Sortable (bs.map enc)) (hL : bs.length ≤ sizeLine)
    (hu : ∀ b, b ∈ bs → A.units + 2 + (enc b).depth < cLine) (h : ∀ out, out.length = bs.length → EachIs R out (bs.mergeSort
                                                                                                              (dataLe false enc)) → Q (.ref (s.heap.objs.size + 1)) { s with heap := sortedAll s.heap vs (List.toArray out) }) :
    wpAny (model prog w) A (call (.builtin
                                                                                                              "sorted") [.ref l]) Q E s := by
  have er2 : EachIs (fun v b => ∃ as, Reads (sortingHeap (copyHeap s.heap vs) (s.heap.objs.size + 1) vs) v (enc b) as) vs bs := er.mono fun _ _ ⟨as, r⟩ => ⟨as, PyProof.Rows.Reads.keeps (fun _ _ => sorting_copy_old) r⟩
  exact sortT_vals hl (SortsAt.data (s := { s with heap := sortingHeap (copyHeap s.heap vs) (s.heap.objs.size + 1) vs }) (each_map (R := fun v d => ∃ as, Reads (sortingHeap (copyHeap s.heap vs) (s.heap.objs.size + 1) vs) v d as) enc er2) hal hk (bound_map hu)) (by rw [e.length]; exact hL)
    (h _ (by rw [sortVals_length false rfl]; exact e.length) (sortVals_data false e er2 hal))
end
end DL
namespace DL
open PySem L2 PySem.Spec PyProof.Rows
section
variable {X : Cx} {cl : Str → Addr}
theorem cr_sortDT (hu : X.A.units + 64 < cLine) : CallR X (.builtin "sorted") fun xs H Q => ∃ a ds vs, xs = [V.ref a] ∧ SqT X.K H a vs ∧ RepL X.K cl H ds vs ∧ srtOk ds = true ∧ ∀ p, H p = none → Q (.ref p) (upd H p (.lst ((sortP ds vs).map (·.2)))) := by
  intro pins s σ
                                                                                                              H xs us Q I r h
  obtain ⟨a, ds, vs, rfl, hs, rp, ok, q⟩ := h
  obtain ⟨its, rv, hl, hz⟩ := I.tuple hs
  rw [Vals.ref1 r]
  unfold srtOk at ok
  simp only [Bool.and_eq_true, Bool.or_eq_true, List.all_eq_true, decide_eq_true_eq] at ok
  obtain ⟨⟨⟨pl, al⟩, kd⟩, dp⟩ := ok
  have hlen : (ds.zip vs).length = vs.length := by rw [List.length_zip, rp.length, Nat.min_self]
  have hm : (ds.zip vs).map (fun p => p.1.py) = ds.map D.py := by
    rw [show (fun p : D × V => p.1.py) = D.py ∘ (·.1) from rfl, ← List.map_map, zip_fst rp]
  have e := each_zip rp rv
  refine sortT_data (bs := ds.zip vs) (enc := fun p => p.1.py) (R := fun u p => Rep X.K cl H p.1 p.2 ∧ RelV p.2 u) hl e ?_ ?_ ?_ ?_ ?_ fun out l1 e2 => ?_
  · refine each_mem e fun u p hp hq => ?_
    obtain ⟨as, hr⟩ := Dp.reads I p.1.py p.2 u (hq.1.dp (plL_all pl _ (List.of_mem_zip hp).1)) hq.2
    exact ⟨as, hr⟩
  · rw [hm]
    intro d hd d' hd'
    obtain ⟨x, hx, rfl⟩ := List.mem_map.mp hd
    obtain ⟨y, hy, rfl⟩ := List.mem_map.mp hd'
    exact al x hx y hy
  · rw [hm]
    rcases kd with kd | kd
    · refine .inl fun d hd => ?_
      obtain ⟨x, hx, rfl⟩ := List.mem_map.mp hd
      have k := kd x hx
      unfold tupC at k
      split at k
      · exact ⟨_, _, by rw [D.py, D.pyL]⟩
      · cases k
    · refine .inr fun d hd => ?_
      obtain ⟨x, hx, rfl⟩ := List.mem_map.mp hd
      have k := kd x hx
      cases x <;> first | cases k; done | (refine ⟨?_, fun xs => ?_⟩ <;> (rw [D.py]; intro z; cases z))
  · rw [hlen]; exact hz
  · intro p hp
    have := dp p.1 (List.of_mem_zip hp).1
    omega
  · obtain ⟨v1, _⟩ := each_vals e2
    have l2 : ((sortP ds vs).map (·.2)).length = vs.length := by rw [List.length_map, sortP, List.length_mergeSort, hlen]
    exact ⟨.ref _, _, I.laid (t' := s.toks) (o := .lst ((sortP ds vs).map (·.2))) (fun b o => sortedAll_old) (Nat.le_succ _) ⟨by rw [l2]; exact hz, out, _, v1, (sortedAll_at s.heap its out.toArray).choose_spec⟩, rfl, q _ (I.hok.fresh (Nat.le_succ _))⟩
/-- sorted of a list or a tuple -/
def sorted2D : List D → Option D
  | [.tup l] => if srtOk l then some (.lst (sortD l)) else none
  | xs => sortedD xs
@[simp] theorem v_sorted2L {l : List D} : sorted2D [.lst l] = sortedD [.lst l] := rfl
@[simp] theorem v_sorted2T {l : List D} : sorted2D [.tup l] = sortedD [.lst l] := rfl
theorem cd_sorted2 (hu : X.A.units + 64 < cLine) : CallD X cl (.builtin "sorted") sorted2D := by
  refine ⟨_, (cr_sortD (cl := cl) hu).or (cr_sortDT (cl := cl) hu), fun H G xs ds dz Q gh t e k => ?_⟩
  unfold sorted2D at e
  split at e
  · split at e
    · rename_i ok
      cases e
      obtain ⟨v, rfl, tv⟩ := topL1 t
      obtain ⟨a, vs, rfl, h1, r⟩ := tv.tup gh
      refine .inr ⟨a, _, vs, rfl, h1, r.mono gh, ok, fun p hp => k _ _ _ (.lay .refl hp) (.lst upd_same ?_)⟩
      rw [← sortP_fst r]
      refine (repL_pairs fun p hp => ?_).mono (same_upd (gh.free hp))
      exact repL_zip r p (List.mem_mergeSort.mp hp)
    · cases e
  · unfold sortedD at e
    split at e
    · split at e
      · rename_i ok
        cases e
        obtain ⟨v, rfl, tv⟩ := topL1 t
        obtain ⟨a, vs, rfl, h1, r⟩ := tv.lst gh
        refine .inl ⟨a, _, vs, rfl, SqL.of h1, r.mono gh, ok, fun p hp => k _ _ _ (.lay .refl hp) (.lst upd_same ?_)⟩
        rw [← sortP_fst r]
        refine (repL_pairs fun p hp => ?_).mono (same_upd (gh.free hp))
        exact repL_zip r p (List.mem_mergeSort.mp hp)
      · cases e
    · cases e
end
end DL

namespace DL
open PySem L2 PySem.Spec PyProof.Rows

/-! ### a comprehension over a dict that a name owns: the dict is locked, and is data behind -/
def keyD : Key → D
  | .inl i => .int i
  | .inr s => .str s
def iterK (i : Nat) (e : Env) : Option S → Out (List D)
  | some (.own (.dct ks l)) => .ok (ks.map keyD) (e.setS i (.dat (.dct ks l)))
  | _ => .bad
def cIterK (i : Nat) : M (List D) := fun e => iterK i e e.s[i]?
def iterK0 (e : Env) : Option S → Out (List D)
  | some (.dat (.dct ks l)) => .ok (ks.map keyD) e
  | _ => .bad
def cIterK0 (i : Nat) : M (List D) := fun e => iterK0 e e.s[i]?
section
variable {K : PySem.W.Frag} {cl : Str → Addr} {F : Fra} {e e' : Env} {σ : L2.St} {H G H' G' : Hp} {a : Addr} {od : Obj} {u : HO}
theorem upd_frz {b : Addr} {w : HO} (hf : G a = some (.frz od u)) (hw : ∀ o x, w ≠ .frz o x) (h : G b = some w) : upd G a u b = some w := by
  rw [upd_ne fun z => by rw [z, hf] at h; cases h; exact hw _ _ rfl]
  exact h
theorem Rd.unlock {b : Addr} {w : HO} (hf : G a = some (.frz od u)) (hw : ∀ o x, w ≠ .frz o x) (h : Rd G b w) : Rd (upd G a u) b w := by
  rcases h with h | ⟨o, h⟩
  · exact .inl (upd_frz hf hw h)
  · by_cases e : b = a
    · subst e
      rw [hf] at h
      cases h
      exact .inl upd_same
    · exact .inr ⟨o, by rw [upd_ne e]; exact h⟩
theorem SqT.unlock {b : Addr} {vs : List V} (hf : G a = some (.frz od u)) (h : SqT K G b vs) : SqT K (upd G a u) b vs := by
  rcases h with h | h
  · exact .inl (Rd.unlock hf (fun _ _ z => nomatch z) h)
  · exact .inr h
theorem SqL.unlock {b : Addr} {vs : List V} (hf : G a = some (.frz od u)) (h : SqL K G b vs) : SqL K (upd G a u) b vs := by
  rcases h with h | h
  · exact .inl (Rd.unlock hf (fun _ _ z => nomatch z) h)
  · exact .inr h
theorem nf_tup {vs : List V} : ∀ o x, HO.tup vs ≠ .frz o x := fun _ _ z => nomatch z
theorem nf_lst {vs : List V} : ∀ o x, HO.lst vs ≠ .frz o x := fun _ _ z => nomatch z
theorem nf_dK {vs : List (Key × V)} : ∀ o x, HO.dK vs ≠ .frz o x := fun _ _ z => nomatch z
theorem nf_dT {vs : List (List Key × V)} : ∀ o x, HO.dT vs ≠ .frz o x := fun _ _ z => nomatch z
theorem nf_ins {c d : Addr} {vs : List (Str × V)} : ∀ o x, HO.ins c d vs ≠ .frz o x := fun _ _ z => nomatch z
theorem TabX.codes {H H' G G' : Hp} {P : Addr} {q : Str} (t : TabX H G P q) (e : ∀ o, H P = some o → (∀ a b, o ≠ .frz a b) → H' P = some o) (g : ∀ c, G c = some (LamX.CodeO c q) → G' c = some (LamX.CodeO c q)) : TabX H' G' P q := by
  obtain ⟨ps, h1, h2, h3⟩ := t
  exact ⟨ps, e _ h1 (fun _ _ z => nomatch z), h2, fun pos cv hc => (h3 pos cv hc).imp fun c z => ⟨z.1, g _ z.2⟩⟩
theorem nf_code {c : Addr} {q : Str} : ∀ o x, LamX.CodeO c q ≠ .frz o x := fun _ _ z => by unfold LamX.CodeO at z; cases z
theorem TabX.unlockS {P : Addr} {q : Str} (hf : G a = some (.frz od u)) (t : TabX G G P q) : TabX (upd G a u) (upd G a u) P q :=
  t.codes (fun o h n => upd_frz hf n h) (fun c h => upd_frz hf nf_code h)
mutual
theorem Rep.unlock (hf : G a = some (.frz od u)) : ∀ {d : D} {v : V}, Rep K cl G d v → Rep K cl (upd G a u) d v
  | _, _, .non => .non
  | _, _, .bl => .bl
  | _, _, .int => .int
  | _, _, .str => .str
  | _, _, .tup h r => .tup (SqT.unlock hf h) (RepL.unlock hf r)
  | _, _, .lst h r => .lst (upd_frz hf nf_lst h) (RepL.unlock hf r)
  | _, _, .scr h => .scr (SqL.unlock hf h)
  | _, _, .dct h l r => .dct (Rd.unlock hf nf_dK h) l (RepL.unlock hf r)
  | _, _, .dcT h l r => .dcT (Rd.unlock hf nf_dT h) l (RepL.unlock hf r)
  | _, _, .obj h l r => .obj (upd_frz hf nf_ins h) l (RepL.unlock hf r)
  | _, _, .tab h => .tab (h.unlockS hf)
theorem RepL.unlock (hf : G a = some (.frz od u)) : ∀ {d : List D} {v : List V}, RepL K cl G d v → RepL K cl (upd G a u) d v
  | _, _, .nil => .nil
  | _, _, .cons h r => .cons (Rep.unlock hf h) (RepL.unlock hf r)
end
theorem Own.unlock {b : Addr} {d : D} (hf : G a = some (.frz od u)) (hb : b ≠ a) (h : Own K cl H G b d) : Own K cl (upd H a u) (upd G a u) b d := by
  cases d with
  | lst l => obtain ⟨vs, h1, h2⟩ := h; exact ⟨vs, by rw [upd_ne hb]; exact h1, h2.unlock hf⟩
  | dct ks l => obtain ⟨vs, h1, h3, h2⟩ := h; exact ⟨vs, by rw [upd_ne hb]; exact h1, h3, h2.unlock hf⟩
  | dcT ks l => obtain ⟨vs, h1, h3, h2⟩ := h; exact ⟨vs, by rw [upd_ne hb]; exact h1, h3, h2.unlock hf⟩
  | obj c ns l => obtain ⟨dx, vs, h1, h3, h2⟩ := h; exact ⟨dx, vs, by rw [upd_ne hb]; exact h1, h3, h2.unlock hf⟩
  | tab q => exact TabX.codes h (fun o h _ => by rw [upd_ne hb]; exact h) (fun c h => upd_frz hf nf_code h)
  | _ => exact h.elim
theorem Stt.unlock (st : Stt K cl F e σ H G) (hf : G a = some (.frz od u)) (h0 : F.H0 a = none) (g0 : F.G0 a = none) : Stt K cl F e σ (upd H a u) (upd G a u) := by
  obtain ⟨⟨gh, sg, jr, fr, fg⟩, jh, len, slot, inj⟩ := st
  have nn : ∀ b, G b = none → b ≠ a := fun b h z => by rw [z, hf] at h; cases h
  refine ⟨⟨fun b w q => ?_, fun b w q => ?_, ⟨jr.len, jr.nd, fun k p d h1 h2 => ?_⟩, fun p o q hn => ?_, fun p o q hn => ?_⟩, jh, len, fun i x h => ?_, inj⟩
  · by_cases hb : b = a
    · rw [hb, upd_same] at q ⊢; exact q
    · rw [upd_ne hb] at q ⊢; exact gh _ _ q
  · have : b ≠ a := fun z => by rw [z, g0] at q; cases q
    rw [upd_ne this]; exact sg _ _ q
  · obtain ⟨q1, q2⟩ := jr.at_ k p d h1 h2
    exact ⟨by rw [upd_ne (nn p q1)]; exact q1, q2.unlock hf (nn p q1)⟩
  · have : p ≠ a := fun z => by rw [z, h0] at q; cases q
    rw [upd_ne this]; exact fr p o q hn
  · have : p ≠ a := fun z => by rw [z, h0] at q; cases q
    rw [upd_ne this]; exact fg p o q hn
  · have q := slot i x h
    cases x with
    | un => trivial
    | dat d => obtain ⟨v, h1, h2⟩ := q; exact ⟨v, h1, h2.unlock hf⟩
    | own d =>
      obtain ⟨p, h1, h2, h3, h4⟩ := q
      exact ⟨p, h1, by rw [upd_ne (nn p h2)]; exact h2, h3, h4.unlock hf (nn p h2)⟩
    | jar k => exact q
    | ptr => exact q
/-- what a name owns is locked, and is data while it is -/
theorem Stt.lockD {i : Nat} {d : D} (st : Stt K cl F e σ H G) (hi : e.s[i]? = some (.own d)) (hs : σ[i]? = some (some (.ref a))) (ha : H a = some u) (hn : G a = none) (h0 : F.H0 a = none) (hr : Rep K cl (upd G a (.frz od u)) d (.ref a)) :
    Stt K cl F (e.setS i (.dat d)) σ (upd H a (.frz od u)) (upd G a (.frz od u)) := by
  have inj0 := st.inj
  obtain ⟨⟨gh, sg, jr, fr, fg⟩, jh, len, slot, inj⟩ := st
  have g1 : Same G (upd G a (.frz od u)) := same_upd hn
  have aj : a ∉ F.js := fun hj => jh a hj h0
  have hset : ∀ {j : Nat} {x : S}, (e.setS i (.dat d)).s[j]? = some x → (j = i ∧ x = .dat d) ∨ (j ≠ i ∧ e.s[j]? = some x) := fun {j x} h => by
    by_cases hj : j = i
    · subst hj; rw [setS_same hi] at h; cases h; exact .inl ⟨rfl, rfl⟩
    · rw [setS_ne hj] at h; exact .inr ⟨hj, h⟩
  have oth : ∀ {b : Addr} {d' : D}, Own K cl H G b d' → b ≠ a → Own K cl (upd H a (.frz od u)) (upd G a (.frz od u)) b d' := fun {b d'} h hb => by
    cases d' with
    | lst l => obtain ⟨vs, h1, h2⟩ := h; exact ⟨vs, by rw [upd_ne hb]; exact h1, h2.mono g1⟩
    | dct ks l => obtain ⟨vs, h1, h3, h2⟩ := h; exact ⟨vs, by rw [upd_ne hb]; exact h1, h3, h2.mono g1⟩
    | dcT ks l => obtain ⟨vs, h1, h3, h2⟩ := h; exact ⟨vs, by rw [upd_ne hb]; exact h1, h3, h2.mono g1⟩
    | obj c ns l => obtain ⟨dx, vs, h1, h3, h2⟩ := h; exact ⟨dx, vs, by rw [upd_ne hb]; exact h1, h3, h2.mono g1⟩
    | tab q => exact TabX.mono h (fun o h => by rw [upd_ne hb]; exact h) g1
    | _ => exact h.elim
  refine ⟨⟨fun b w q => ?_, sg.trans g1, ⟨jr.len, jr.nd, fun k p d' h1 h2 => ?_⟩, fun p o q hn' => ?_, fun p o q hn' => ?_⟩, jh, by rw [len]; exact (List.length_set).symm, fun j x h => ?_, fun j k d1 d2 p k1 k2 k3 k4 => ?_⟩
  · by_cases hb : b = a
    · rw [hb, upd_same] at q ⊢; exact q
    · rw [upd_ne hb] at q ⊢; exact gh _ _ q
  · obtain ⟨q1, q2⟩ := jr.at_ k p d' h1 h2
    have : p ≠ a := fun z => aj (z ▸ List.mem_of_getElem? h1)
    exact ⟨by rw [upd_ne this]; exact q1, oth q2 this⟩
  · have : p ≠ a := fun z => by rw [z, h0] at q; cases q
    rw [upd_ne this]; exact fr p o q hn'
  · have : p ≠ a := fun z => by rw [z, h0] at q; cases q
    rw [upd_ne this]; exact fg p o q hn'
  · rcases hset h with ⟨rfl, rfl⟩ | ⟨hj, h⟩
    · exact ⟨_, hs, hr⟩
    · have q := slot j x h
      cases x with
      | un => trivial
      | dat d => obtain ⟨v, h1, h2⟩ := q; exact ⟨v, h1, h2.mono g1⟩
      | own d =>
        obtain ⟨p, h1, h2, h3, h4⟩ := q
        have : p ≠ a := fun w => hj (inj j i _ _ a h hi (w ▸ h1) hs)
        exact ⟨p, h1, by rw [upd_ne this]; exact h2, h3, oth h4 this⟩
      | jar k => exact q
      | ptr => exact q
  · rcases hset k1 with ⟨_, z⟩ | ⟨_, k1⟩
    · cases z
    · rcases hset k2 with ⟨_, z⟩ | ⟨_, k2⟩
      · cases z
      · exact inj j k d1 d2 p k1 k2 k3 k4
/-- an expression's run within the lock -/
theorem lock_D {W : WX} {i : Nat} {f f0 : M R} {Q : VK} (h : tD K cl F W f σ H Q) (hf : ∀ e, f e = (match e.s[i]? with
    | some (.own (.dct ks l)) => f0 (e.setS i (.dat (.dct ks l)))
    | _ => .bad)) {t : TE} (hi : ∀ (a : Addr) (u : HO) (od : Obj) (Q' : VK), σ[i]? = some (some (.ref a)) → tD K cl F W f0 σ (upd H a (.frz od u)) Q' → t σ (upd H a (.frz od u)) Q') : tLockE t σ H Q := by
  obtain ⟨e, G, st, q⟩ := h
  rw [hf] at q
  cases hx : e.s[i]? with
  | none => rw [hx] at q; exact q.elim
  | some x =>
    rw [hx] at q
    cases x with
    | own d =>
      cases d with
      | dct ks l =>
        obtain ⟨a, s1, s2, s3, us, s4, s5, s6⟩ := st.slot i _ hx
        refine ⟨a, _, s4, True.intro, fun od => hi a _ od _ s1 ?_⟩
        have g1 : Same G (upd G a (.frz od (.dK (ks.zip us)))) := same_upd s2
        have st1 := st.lockD (od := od) hx s1 s4 s2 s3 (.dct (.inr ⟨od, upd_same⟩) s5 (s6.mono g1))
        have gz : F.G0 a = none := by
          cases hg : F.G0 a with
          | none => rfl
          | some o => have := st.ret.g0 _ _ hg; rw [s2] at this; cases this
        refine ⟨_, _, st1, post_imp q fun r e' k v H' G' st' k' rr => ?_⟩
        have hg : G' a = some (.frz od (.dK (ks.zip us))) := k'.gg _ _ upd_same
        refine ⟨st'.ret.gh _ _ hg, k v (upd H' a _) (upd G' a _) (st'.unlock hg s3 gz) ⟨fun b w hb => ?_, fun p o hp lp => ?_, fun j d hj => ?_⟩ ?_⟩
        · have : b ≠ a := fun z => by rw [z, s2] at hb; cases hb
          rw [upd_ne this]
          exact k'.gg _ _ (g1 _ _ hb)
        · have : p ≠ a := fun z => lp.2 i _ hx (z ▸ s1)
          have l1 : Loose F (e.setS i (.dat (.dct ks l))) σ p := ⟨lp.1, fun j d hj => by
            by_cases e0 : j = i
            · subst e0; rw [setS_same hx] at hj; cases hj
            · rw [setS_ne e0] at hj; exact lp.2 j d hj⟩
          obtain ⟨q1, q2⟩ := k'.kp p o (by rw [upd_ne this]; exact hp) l1
          exact ⟨by rw [upd_ne this]; exact q1, fun g => by rw [upd_ne this]; exact q2 (by rw [upd_ne this]; exact g)⟩
        · obtain ⟨d', h'⟩ := k'.ow j d hj
          by_cases e0 : j = i
          · subst e0; rw [setS_same hx] at h'; cases h'
          · rw [setS_ne e0] at h'; exact ⟨d', h'⟩
        · cases r with
          | val d => exact Rep.unlock hg rr
          | whole j => exact rr
      | _ => exact q.elim
    | _ => exact q.elim
theorem kD_key {k : Key} {G : Hp} : Rep K cl G (keyD k) (kV k) := by
  cases k with
  | inl i => exact .int
  | inr s => exact .str
/-- the keys of the locked dict -/
theorem keys_it {i : Nat} {a : Addr} {od : Obj} {u : HO} {H1 : Hp} {R : It → Hp → Prop} (hs : σ[i]? = some (some (.ref a))) (hu : H1 a = some (.frz od u))
    (h : ∃ e G, Stt K cl F e σ H1 G ∧ Post K cl F W0 σ (cIterK0 i e) fun ds e' => ∀ J H' G', Stt K cl F e' σ H' G' → Kp F σ e H1 G e' H' G' → ItOk K cl G' J ds → R J H') : iKeys (tVar i) σ H1 R := by
  obtain ⟨e, G, st, q⟩ := h
  refine ⟨_, hs, ?_⟩
  unfold cIterK0 at q
  cases hx : e.s[i]? with
  | none => rw [hx] at q; exact q.elim
  | some x =>
    rw [hx] at q
    cases x with
    | dat d =>
      cases d with
      | dct ks l =>
        obtain ⟨v, s1, s2⟩ := st.slot i _ hx
        rw [hs] at s1
        cases s1
        cases s2 with
        | dct hr hl rl =>
          rename_i vs
          have hr' := Rd.same st.ret.gh hr
          have hG : G a = some (.frz od (.dK (ks.zip vs))) := by
            rcases hr with hr | ⟨o, hr⟩
            · have := st.ret.gh _ _ hr
              rw [hu] at this
              cases this
            · have := st.ret.gh _ _ hr
              rw [hu] at this
              cases this
              exact hr
          refine ⟨a, od, rfl, .inl ⟨ks.zip vs, st.ret.gh _ _ hG, q _ _ G st .refl ?_⟩⟩
          intro H2 G2 gg gh
          have h2 := gh _ _ (gg _ _ hG)
          refine ⟨fun j d hd => ?_, h2, by simp [hl]⟩
          rw [List.getElem?_map] at hd
          obtain ⟨k, hk, rfl⟩ := Option.map_eq_some_iff.mp hd
          have hjl : j < ks.length := (List.getElem?_eq_some_iff.mp hk).1
          refine ⟨⟨h2, by simp [← hl]; exact hjl⟩, fun y H3 hy => ?_⟩
          obtain ⟨rfl, k', v', hz, rfl⟩ := hy
          have : k' = k := by
            have := congrArg (Option.map Prod.fst) hz
            rw [← List.getElem?_map, List.map_fst_zip (by omega), hk] at this
            exact (Option.some.inj
                                                                                                              this).symm
          subst this
          exact ⟨G2, .refl, kD_key⟩
      | _ => exact q.elim
    | _ => exact q.elim
end
section
variable {X : Cx} {cl : Str → Addr} {F : Fra} {W : WX}
theorem cDc_lock {vs : List Nat} {i : Nat} {g : Tg} {ft : M Bool} {fk fv : M R} (e : Env) : cDc vs (cIterK i) g ft fk fv e = (match e.s[i]? with
    | some (.own (.dct ks l)) => cDc vs (cIterK0 i) g ft fk fv (e.setS i (.dat (.dct ks l)))
    | _ => .bad) := by
  unfold cDc cIterK cIterK0
  cases hx : e.s[i]? with
  | none => rfl
  | some x =>
    cases x with
    | own d =>
      cases d with
      | dct ks l =>
        simp only [iterK, setS_same hx, iterK0]
      | _ => rfl
    | _ => rfl
theorem cLc_lock {vs : List Nat} {i : Nat} {g : Tg} {ft : M Bool} {fv : M R} (e : Env) : cLc vs (cIterK i) g ft fv e = (match e.s[i]? with
    | some (.own (.dct ks l)) => cLc vs (cIterK0 i) g ft fv (e.setS i (.dat (.dct ks l)))
    | _ => .bad) := by
  unfold cLc cIterK cIterK0
  cases hx : e.s[i]? with
  | none => rfl
  | some x =>
    cases x with
    | own d =>
      cases d with
      | dct ks l =>
        simp only [iterK, setS_same hx, iterK0]
      | _ => rfl
    | _ => rfl
theorem post_w0 {α : Type} {σ : L2.St} {K : PySem.W.Frag} {i : Nat} {e : Env} {k : List D → Env → Prop} (h : Post K cl F W σ (cIterK0 i e) k) : Post K cl F W0 σ (cIterK0 i e) k := by
  unfold cIterK0 at h ⊢
  cases hx : e.s[i]? with
  | none => rw [hx] at h; exact h
  | some x =>
    rw [hx] at h
    cases x with
    | dat d =>
      cases d with
      | dct ks l => exact h
      | _ => exact h
    | _ => exact h
/-- {k: v for x in d if t}, d a dict of the name at i -/
theorem re_dcK (i : Nat) {kx vx tg : Expr} {y : Str} {p : Pos} {ifs : List Expr} {scope : Scope} {own : List (Str × Nat)} {ws : List Nat} {pos : Pos} {g : Tg} {ft : M Bool} {fk fv : M R} (hc : X.calm = true) (hN : X.N.Nodup) (ok : BlkOk X.N X.env.scope scope own)
    (hg : ∀ (s : Shared) (H : Hp) (C : Addr) (cs : List (Str × Addr)) (fp : List Addr), RG (X.blk s H scope (compEnvC scope cs C X.env) fp) cl F ws tg g)
    (ht : ∀ (s : Shared) (H : Hp) (C : Addr) (cs : List (Str × Addr)) (fp : List Addr), RTs (X.blk s H scope (compEnvC scope cs C X.env) fp) cl F W0 ifs ft)
    (hk : ∀ (s : Shared) (H : Hp) (C : Addr) (cs : List (Str × Addr)) (fp : List Addr), RE (X.blk s H scope (compEnvC scope cs C X.env) fp) cl F W0 kx fk)
    (he : ∀ (s : Shared) (H : Hp) (C : Addr) (cs : List (Str × Addr)) (fp : List Addr), RE (X.blk s H scope (compEnvC scope cs C X.env) fp) cl F W0 vx fv)
    (hy : X.N[i]? = some y := by rfl) (hv : Vis X.env.scope y := by first | exact Or.inl rfl | exact Or.inr (Or.inl rfl) | exact Or.inr (Or.inr rfl)) (hd : (y == ("__debug__" : Str)) = false := by decide) (hcd : (y == ("__classdict__" : Str)) = false := by decide)
    (hw : ∀ i ∈ ws, i ∈ own.map (·.2) := by decide) (hs : ∀ x, foldedSetIterable (.Name y p) X.env x = pure x := by intro _; rfl) : RE X cl F W (.DictComp kx vx [⟨tg, .Name y p, ifs, 0⟩] scope pos) (cDc (own.map (·.2)) (cIterK i) g ft fk fv) := by
  have p0 : PE X (.DictComp kx vx [⟨tg, .Name y p, ifs, 0⟩] scope pos) (tDc (iKeys (tVar i)) (tG X.K cl F ws g) (tB' X.K cl F W0 ft) (tD X.K cl F W0 fk) (tD X.K cl F W0 fv) (own.map (·.2))) :=
    pe_dc hc hN (pi_keys (pe_var hy hv hd hcd)) ok (fun s H C cs fp => (hg s H C cs fp).pg) (fun s H C cs fp => (ht s H C cs fp).pts) (fun s H C cs fp => (hk s H C cs fp).pe) (fun s H C cs fp => (he s H C cs fp).pe) hs
  refine ⟨⟨fun pins s σ H Q I h => (pe_lock p0).run pins s σ H Q I
    (lock_D h cDc_lock fun a u od Q' ha q => ?_)⟩⟩
  have z := dc_D hw (hg s H 0 [] []).fr q
  refine keys_it (K := X.K) (cl := cl) (F := F) ha upd_same ?_
  obtain ⟨e, G, st, q⟩ := z
  exact ⟨e, G, st, post_w0 (α := Unit) q⟩
theorem re_lcK (i : Nat) {elt tg : Expr} {y : Str} {p : Pos} {ifs : List Expr} {scope : Scope} {own : List (Str × Nat)} {ws : List Nat} {pos : Pos} {g : Tg} {ft : M Bool} {fv : M R} (hc : X.calm = true) (hN : X.N.Nodup) (ok : BlkOk X.N X.env.scope scope own)
    (hg : ∀ (s : Shared) (H : Hp) (C : Addr) (cs : List (Str × Addr)) (fp : List Addr), RG (X.blk s H scope (compEnvC scope cs C X.env) fp) cl F ws tg g)
    (ht : ∀ (s : Shared) (H : Hp) (C : Addr) (cs : List (Str × Addr)) (fp : List Addr), RTs (X.blk s H scope (compEnvC scope cs C X.env) fp) cl F W0 ifs ft)
    (he : ∀ (s : Shared) (H : Hp) (C : Addr) (cs : List (Str × Addr)) (fp : List Addr), RE (X.blk s H scope (compEnvC scope cs C X.env) fp) cl F W0 elt fv)
    (hy : X.N[i]? = some y := by rfl) (hv : Vis X.env.scope y := by first | exact Or.inl rfl | exact Or.inr (Or.inl rfl) | exact Or.inr (Or.inr rfl)) (hd : (y == ("__debug__" : Str)) = false := by decide) (hcd : (y == ("__classdict__" : Str)) = false := by decide)
    (hw : ∀ i ∈ ws, i ∈ own.map (·.2) := by decide) (hs : ∀ x, foldedSetIterable (.Name y p) X.env x = pure x := by intro _; rfl) : RE X cl F W (.ListComp elt [⟨tg, .Name y p, ifs, 0⟩] scope pos) (cLc (own.map (·.2)) (cIterK i) g ft fv) := by
  have p0 : PE X (.ListComp elt [⟨tg, .Name y p, ifs, 0⟩] scope pos) (tLc (iKeys (tVar i)) (tG X.K cl F ws g) (tB' X.K cl F W0 ft) (tD X.K cl F W0 fv) (own.map (·.2))) :=
    pe_lc hc hN (pi_keys (pe_var hy hv hd hcd)) ok (fun s H C cs fp => (hg s H C cs fp).pg) (fun s H C cs fp => (ht s H C cs fp).pts) (fun s H C cs fp => (he s H C cs fp).pe) hs
  refine ⟨⟨fun pins s σ H Q I h => (pe_lock p0).run pins s σ H Q I
    (lock_D h cLc_lock fun a u od Q' ha q => ?_)⟩⟩
  have z := lc_D hw (hg s H 0 [] []).fr q
  refine keys_it (K := X.K) (cl := cl) (F := F) ha upd_same ?_
  obtain ⟨e, G, st, q⟩ := z
  exact ⟨e, G, st, post_w0 (α := Unit) q⟩

/-! ### min, max of lists; list of a dict; a list repeated, of one's own -/
def intsL : List D → Option (List Int)
  | [] => some []
  | .int i :: r => (intsL r).map (i :: ·)
  | _ :: _ => none
theorem repL_ints {K : PySem.W.Frag} {G : Hp} : ∀ {l : List D} {ns : List Int} {vs : List V}, intsL l = some ns → RepL K cl G l vs → vs = ns.map V.int
  | [], _, _, h, .nil => by cases h; rfl
  | .int i :: l, _, _, h, .cons .int t => by
    obtain ⟨ms, h1, rfl⟩ := Option.map_eq_some_iff.mp h
    rw [repL_ints h1 t]
    rfl
/-- the least of some numbers -/
def minI : List Int → Option Int
  | [] => none
  | a :: l => some (l.foldl (fun x y => if y < x then y else x) a)
def maxI : List Int → Option Int
  | [] => none
  | a :: l => some (l.foldl (fun x y => if x < y then y else x) a)
theorem fold_min : ∀ (l : List Int) (a : Int), (l.foldl (fun x y => if y < x then y else x) a) ∈ a :: l ∧ ∀ y ∈ a :: l, (l.foldl (fun x y => if y < x then y else x) a) ≤ y
  | [], a => ⟨List.mem_cons_self, fun y h => by rw [List.mem_singleton.mp h]; exact Int.le_refl _⟩
  | b :: l, a => by
    obtain ⟨h1, h2⟩ := fold_min l (if b < a then b else a)
    rw [List.foldl_cons]
    refine ⟨?_, fun y hy => ?_⟩
    · rcases List.mem_cons.mp h1 with h | h
      · rw [h]
        split
        · exact List.mem_cons_of_mem _ List.mem_cons_self
        · exact List.mem_cons_self
      · exact List.mem_cons_of_mem _ (List.mem_cons_of_mem _ h)
    · have h3 := h2 _ List.mem_cons_self
      have e1 : (if b < a then b else a) ≤ a := by split <;> omega
      have e2 : (if b < a then b else a) ≤ b := by split <;> omega
      rcases List.mem_cons.mp
                                                                                                              hy with rfl | hy
      · exact Int.le_trans h3 e1
      · rcases List.mem_cons.mp
                                                                                                              hy with rfl | hy
        · exact Int.le_trans h3 e2
        · exact h2 y (List.mem_cons_of_mem _ hy)
theorem fold_max : ∀ (l : List Int) (a : Int), (l.foldl (fun x y => if x < y then y else x) a) ∈ a :: l ∧ ∀ y ∈ a :: l, y ≤ (l.foldl (fun x y => if x < y then y else x) a)
  | [], a => ⟨List.mem_cons_self, fun y h => by rw [List.mem_singleton.mp h]; exact Int.le_refl _⟩
  | b :: l, a => by
    obtain ⟨h1, h2⟩ := fold_max l (if a < b then b else a)
    rw [List.foldl_cons]
    refine ⟨?_, fun y hy => ?_⟩
    · rcases List.mem_cons.mp h1 with h | h
      · rw [h]
        split
        · exact List.mem_cons_of_mem _ List.mem_cons_self
        · exact List.mem_cons_self
      · exact List.mem_cons_of_mem _ (List.mem_cons_of_mem _ h)
    · have h3 := h2 _ List.mem_cons_self
      have e1 : a ≤ (if a < b then b else a) := by split <;> omega
      have e2 : b ≤ (if a < b then b else a) := by split <;> omega
      rcases List.mem_cons.mp
                                                                                                              hy with rfl | hy
      · exact Int.le_trans e1 h3
      · rcases List.mem_cons.mp
                                                                                                              hy with rfl | hy
        · exact Int.le_trans e2 h3
        · exact h2 y (List.mem_cons_of_mem _ hy)
theorem minI_ok {l : List Int} {m : Int} (h : minI l = some m) : m ∈ l ∧ ∀ y ∈ l, m ≤ y := by
  cases l with
  | nil => cases h
  | cons a l => cases h; exact fold_min l a
theorem maxI_ok {l : List Int} {m : Int} (h : maxI l = some m) : m ∈ l ∧ ∀ y ∈ l, y ≤ m := by
  cases l with
  | nil => cases h
  | cons a l => cases h; exact fold_max l a
def minLD : List D → Option D
  | [.lst l] => ((intsL l).bind minI).map D.int
  | _ => none
def maxLD : List D → Option D
  | [.lst l] => ((intsL l).bind maxI).map D.int
  | _ => none
theorem cd_minL (hc : X.calm = true) : CallD X cl (.builtin "min") minLD := by
  refine ⟨_, cr_min hc, fun H G xs ds dz Q gh t e k => ?_⟩
  unfold minLD at e
  split at e
  · obtain ⟨m, hm, rfl⟩ := Option.map_eq_some_iff.mp e
    obtain ⟨ns, hn, hm⟩ := Option.bind_eq_some_iff.mp hm
    obtain ⟨v, rfl, tv⟩ := topL1 t
    obtain ⟨a, vs, rfl, h1, r⟩ := tv.lst gh
    obtain ⟨m1, m2⟩ := minI_ok hm
    refine ⟨a, ns, rfl, by rw [← repL_ints hn r]; exact SqL.of h1, List.length_pos_of_mem m1, fun m' h1 h2 => ?_⟩
    have : m' = m := Int.le_antisymm (h2 m m1) (m2 m' h1)
    rw [this]
    exact k _ H G .refl .int
  · cases e
theorem cd_maxL (hc : X.calm = true) : CallD X cl (.builtin "max") maxLD := by
  refine ⟨_, cr_max hc, fun H G xs ds dz Q gh t e k => ?_⟩
  unfold maxLD at e
  split at e
  · obtain ⟨m, hm, rfl⟩ := Option.map_eq_some_iff.mp e
    obtain ⟨ns, hn, hm⟩ := Option.bind_eq_some_iff.mp hm
    obtain ⟨v, rfl, tv⟩ := topL1 t
    obtain ⟨a, vs, rfl, h1, r⟩ := tv.lst gh
    obtain ⟨m1, m2⟩ := maxI_ok hm
    refine ⟨a, ns, rfl, by rw [← repL_ints hn r]; exact SqL.of h1, List.length_pos_of_mem m1, fun m' h1 h2 => ?_⟩
    have : m' = m := Int.le_antisymm (m2 m' h1) (h2 m m1)
    rw [this]
    exact k _ H G .refl .int
  · cases e
def listKD : List D → Option D
  | [.dct ks _] => some (.lst (ks.map keyD))
  | _ => none
theorem repL_keys {K : PySem.W.Frag} {G : Hp} : ∀ ks : List Key, RepL K cl G (ks.map keyD) (ks.map kV)
  | [] => .nil
  | _ :: ks => .cons kD_key (repL_keys ks)
theorem cd_listK (hc : X.calm = true) : CallD X cl (.type "list") listKD := by
  refine ⟨_, call_listD hc, fun H G xs ds dz Q gh t e k => ?_⟩
  unfold listKD at e
  split at e
  · rename_i ks l
    cases e
    obtain ⟨v, rfl, tv⟩ := topL1 t
    obtain ⟨a, vs, rfl, h1, hl, r⟩ := tv.dct gh
    refine ⟨a, _, rfl, h1, fun p hp => ?_⟩
    have e1 : ((ks.zip vs).map fun kv => kV kv.1) = ks.map kV := by
      have : ((ks.zip vs).map fun kv => kV kv.1) = ((ks.zip vs).map Prod.fst).map kV := by rw [List.map_map]; rfl
      rw [this, List.map_fst_zip (by omega)]
    rw [e1]
    exact k _ _ _ (.lay .refl hp) (.lst upd_same (repL_keys ks))
  · cases e
end
end DL

namespace DL
open PySem L2 PySem.Spec PyProof.Rows

/-! ### repr of None, truths, numbers, texts, rows -/
def repr2D : List D → Option D
  | [.non] => some (.str "None")
  | [.bl b] => some (.str (if b then "True" else "False"))
  | [.int i] => if i.natAbs.log2 < 1920 then some (.str (toString i)) else none
  | [.str s] => if (reprText s).length ≤ sizeLine then some (.str (reprText s)) else none
  | xs => reprD xs
@[simp] theorem v_repr2T {l : List D} : repr2D [.tup l] = reprD [.tup l] := rfl
@[simp] theorem v_repr2L {l : List D} : repr2D [.lst l] = reprD [.lst l] := rfl
section
variable {X : Cx} {cl : Str → Addr} {F : Fra} {W : WX}
def rReprS : List V → Hp → VK → Prop := fun xs H Q => (xs = [.non] ∧ Q (.str "None") H) ∨ (∃ b, xs = [.bl b] ∧ Q (.str (if b then "True" else "False")) H) ∨ (∃ i, xs = [.int i] ∧ i.natAbs.log2 < 1920 ∧ Q (.str (toString i)) H) ∨ ∃ x, xs = [.str x] ∧ (reprText x).length ≤ sizeLine ∧ Q (.str (reprText x)) H
theorem call_repr_s : CallR X (.builtin "repr") rReprS := by
  intro pins s σ
                                                                                                              H xs us Q I r h
  rcases h with ⟨rfl, q⟩ | ⟨b, rfl, q⟩ | ⟨i, rfl, hz, q⟩ | ⟨x, rfl, hz, q⟩
  · obtain ⟨u, rfl, ru⟩ := vals1 r
    cases (show u = Value.none from ru)
    exact PySem.P.repr_of_none ⟨.str _, H, I.tok _, ⟨_, rfl⟩, q⟩
  · obtain ⟨u, rfl, ru⟩ := vals1 r
    cases (show u = Value.bool b from ru)
    exact PySem.P.repr_of_bool ⟨.str _, H, I.tok _, ⟨_, rfl⟩, q⟩
  · obtain ⟨u, rfl,
                                                                                                              t, rfl⟩ := vals1 r
    exact PySem.P.repr_of_int hz
                                                                                                              ⟨.str _, H, I.tok _, ⟨_, rfl⟩, q⟩
  · obtain ⟨u, rfl,
                                                                                                              t, rfl⟩ := vals1 r
    exact PySem.P.repr_of_str ⟨.str _, H, I.tok _, ⟨_, rfl⟩, q⟩ hz
theorem cd_repr2 (hG : X.A.guards = some []) (hu : X.A.units + 64 < cLine) : CallD X cl (.builtin "repr") repr2D := by
  obtain ⟨r, h1, h2⟩ := cd_repr (cl := cl) hG hu
  refine ⟨_, call_repr_s.or h1, fun H G xs ds dz Q gh t e k => ?_⟩
  unfold repr2D at e
  split at e
  · cases e
    obtain ⟨v, rfl, tv⟩ := topL1 t
    cases tv.non
    exact .inl (.inl ⟨rfl, k _ H G .refl .str⟩)
  · cases e
    obtain ⟨v, rfl, tv⟩ := topL1 t
    cases tv.bl
    exact .inl (.inr (.inl ⟨_, rfl, k _ H G .refl .str⟩))
  · split at e
    · rename_i hz
      cases e
      obtain ⟨v, rfl, tv⟩ := topL1 t
      cases tv.int
      exact .inl (.inr (.inr (.inl ⟨_, rfl, hz, k _ H G .refl .str⟩)))
    · cases e
  · split at e
    · rename_i hz
      cases e
      obtain ⟨v, rfl, tv⟩ := topL1 t
      cases tv.str
      exact .inl (.inr (.inr (.inr ⟨_, rfl, hz, k _ H G .refl .str⟩)))
    · cases e
  · exact .inr (h2 H G xs ds dz Q gh t e k)
/-! ### a list repeated, of one's own -/
def fMulO (a b : Option D) (e : Env) : Out D := match a, b with
  | some (.lst x), some (.int k) => if -(2 ^ 63) ≤ k ∧ k < 2 ^ 63 ∧ x.length * k.toNat ≤ sizeLine then .ok (.lst (List.replicate k.toNat x).flatten) e else .bad
  | _, _ => .bad
def fMul (fa fb : M R) : M D := fun e => (fa e).bnd fun x e1 => (fb e1).bnd fun y e2 => fMulO (e2.rd x) (e2.rd y) e2
theorem rf_mul {a b : Expr} {fa fb : M R} {pos : Pos} (ha : RE X cl F W a fa) (hb : RE X cl F W b fb) : RF X cl F W (.BinOp a .Mult b pos) (fMul fa fb) := by
  refine ⟨PE.imp (pe_op op_rep ha.pe hb.pe) fun σ H Q ⟨e, G, st, q⟩ => tD_then st q fun x e1 v1 H1 G1 s1 k1 r1 z => tD_then s1 z fun y e2 v2 H2 G2 s2 k2 r2 z => ?_⟩
  simp only [fMulO] at z
  split at z
  · rename_i x' y' hx hy
    split at z
    · rename_i hz
      obtain ⟨p1, u1, rfl, h1, q1⟩ := (s2.top (r1.mono k2.gg) hx).lst s2.ret.gh
      have ei := (s2.top r2 hy).int
      refine ⟨p1, y', u1, rfl, ei, h1, hz.1, hz.2.1, by rw [← q1.length]; exact hz.2.2, fun p hp => ?_⟩
      obtain ⟨a1, a2, a3, a4, a5, a6⟩ := s2.new (o := .lst (List.replicate y'.toNat u1).flatten) (k1.trans k2) hp
      exact z p _ G2 a1 a2 ⟨_, upd_same, q1.rep _⟩ a3 a4 a5 a6
    · exact z.elim
  · exact z.elim
end
end DL

namespace DL
open PySem L2 PySem.Spec PyProof.Rows

/-! ### len of an object with a __len__ of its own -/
section
variable {prog : Program} {w : World} {A : Around} {E : Value → Shared → Prop} {s
                                                                                                              : Shared} {K : PySem.W.Frag} {x C D f : Addr} {ox od : Obj} {odd : Option Obj}
theorem len_own {Q : Value → Shared → Prop} (X : K.In s.heap) (I : PySem.W.InstAt s.heap x ox C odd) (hs : PySem.W.findIn K (.ref C) "__len__" = some (some (.ref f))) (hf : PySem.W.isFn K (.ref f) = true)
    (h : wpAny (model prog w) A.in1 (call (.ref f) [.ref x]) (fun r s₁ => ∃ n u, r = Value.int n u ∧ 0 ≤ n ∧ n < 2 ^ 63 ∧ Q (.int n s₁.toks) { s₁ with toks := s₁.toks + 1 }) E s) : wpAny (model prog w) A (call (.builtin "len") [.ref x]) Q E s := by
  refine Calls.call_function_entry kind_len
                                                                                                              plain_len entry_len (args_len1 _) ?_
  unfold Builtin.«len»
  refine wpAny_bind (m := oneArg
                                                                                                              "len" _) (wpAny_pure ?_)
  refine wpAny_bind (m := callSpecial? (.ref x) (Str.ofString "__len__")) (PySem.W.special_fn X I hs (beq_iff_eq.mp hf) (wpAny_mono h (fun r s' hr => ?_) fun _ _ y => y))
  obtain ⟨n, u, rfl, h0, h63, hq⟩ := hr
  refine wpAny_bind
                                                                                                              (wpAny_holding (wpAny_pure ?_))
  refine wpAny_bind
                                                                                                              (wpAny_letGo ?_)
  show wpAny _ _ (if n <
                                                                                                              0 then _ else _) _ _ _
  rw [if_neg (by omega)]
  show wpAny _ _ (if n ≥ 2
                                                                                                              ^ 63 then _ else _) _ _ _
  rw [if_neg (by omega)]
  exact wpAny_bind (wpAny_mkInt
                                                                                                              (wpAny_pure ⟨_, rfl, hq⟩))
end
section
variable {X : Cx} {cl : Str → Addr} {F : Fra} {W : WX} {k : Nat} {f : Addr} {fd : FuncData} {ps : List Str} {Φ : Fn} {c : Str}
def lenN (o : OutF) : Option D := match o with
  | .ok (.int n) [] => if 0 ≤ n ∧ n < 1000000 then some (.int n) else none
  | _ => none
def lenOwn (c : Str) (Φ : Fn) : List D → Option D
  | [o] => if isObjC c o then lenN (Φ [.dat o] []) else none
  | _ => none
theorem run_fn1 {A : Around} {pins : List (Addr × Obj)} {σ : L2.St} {H : Hp} {s : Shared} {Q : VK} {us : List Value} {vs : List V} (Fn : FnOk X.prog X.w X.K X.mg X.base (L2N.CX X.prog X.w) k f fd ps (spD X.K cl Φ)) (hr : Room k A) (e0 : Env0 X.prog X.w X.K X.mg X.base A X.stack s H) (hb : Binds X.K fd ps [])
    (I : Inv X pins σ H s) (r : Vals vs us) (h : spD X.K cl Φ vs H Q E0) : wpAny (model X.prog X.w) A (call (.ref f) us) (EP X pins σ Q) X.xe s := by
  have hl : us.length = ps.length := by rw [← r.length]; exact Fn.len _ _ _ _ h
  refine wpAny_call (codeAny_mono (Fn.run A X.stack s H ⟨us, []⟩ us vs Q E0 hr e0 (by have := hb s us I.kIn (by simpa using hl); simpa using this) r h) fun r s' hq => ?_)
  cases r with
  | error e => exact passLN pins σ H s e s' I hq
  | ok fl =>
    cases fl with
    | ret u => exact I.after hq
    | next => exact False.elim hq
    | brk => exact False.elim hq
    | cont => exact False.elim hq
theorem cd_lenOwn (m : Meth X.K (cl c) "__len__" f) (Fn : FnOk X.prog X.w X.K X.mg X.base (L2N.CX X.prog X.w) k f fd ps (spD X.K cl Φ)) (hr : Room (k + 1) X.A) (hb : Binds X.K fd ps []) : CallD X cl (.builtin "len") (lenOwn c Φ) := by
  refine ⟨fun xs H Q => ∃ n a dd fs, xs = [V.ref a] ∧ H a = some (.ins (cl c) dd fs) ∧ 0 ≤ n ∧ n < 1000000 ∧ spD X.K cl Φ [.ref a] H (fun v H' => v = .int n ∧ Same H H') E0 ∧ ∀ H', Same H H' → Q (.int n) H', ?_, ?_⟩
  · intro pins s σ H xs us Q I r h
    obtain ⟨n, a, dd, fs, rfl, ha, h0, h1, sp, q⟩ := h
    obtain ⟨u, rfl,
                                                                                                              ru⟩ := vals1 r
    cases (show u =
                                                                                                              Value.ref a from ru)
    obtain ⟨mA, O, _, _, _, _⟩ := ins_get I.hok ha
    obtain ⟨od, J, _⟩ := O.look
    refine len_own I.kIn J m.at_ m.fn (wpAny_mono (run_fn1 Fn (Room.in1 hr) I.env0.in1 hb I (.cons (show RelV (.ref a) (.ref a) from rfl) .nil) sp) (fun w s' z => ?_) fun _ _ z => z)
    obtain ⟨w', H', I', rw_, e, sm⟩ := z
    subst e
    obtain ⟨t, e⟩ := (show ∃ t, w = Value.int n t from rw_)
    cases e
    exact ⟨n, t, rfl, h0, by omega, .int n, H', I'.tok _, ⟨_, rfl⟩, q H' sm⟩
  · intro H G xs ds dz Q g t e q
    unfold lenOwn at e
    split at e
    · split at e
      · rename_i o hi
        obtain ⟨v, rfl, tv⟩ := topL1 t
        obtain ⟨ns, l, rfl⟩ := isObjC_inv hi
        have ry := tv.rep g
        obtain ⟨a, dd, vs, rfl, ha, _, _⟩ := tv.obj g
        unfold lenN at e
        split at e
        · rename_i n eo
          split at e
          · rename_i hn
            cases e
            refine ⟨n, a, dd, _, rfl, ha, hn.1, hn.2, ⟨[.dat (.obj c ns l)], [], [], H, .refl _, .dat ry .nil, ⟨rfl, List.nodup_nil, fun k a d h => by simp at h⟩, ?_⟩, fun H' sm => q _ H' G (.grow .refl sm) .int⟩
            rw [eo]
            intro v H' G' r rv
            cases rv
            exact ⟨rfl, fun b o q => r.fr b o q (by simp)⟩
          · cases e
        · cases e
      · cases e
    · cases e
end
end DL

namespace DL
open PySem L2 PySem.Spec PyProof.Rows
/-! ### sorted by length -/
def lenT : D → Int
  | .tup l => l.length
  | _ => 0
def isT : D → Bool
  | .tup _ => true
  | _ => false
def srtLenD : List D → Option D
  | [.lst l] => if l.all isT then some (.lst (l.mergeSort fun a b => decide (lenT a ≤ lenT b))) else none
  | _ => none
section
variable {X : Cx} {cl : Str → Addr} {F : Fra} {W : WX}
/-- called with key=len -/
def CallL (X : Cx) (r : List V → Hp → VK → Prop) : Prop :=
  ∀ (pins : List (Addr × Obj)) (s : Shared) (σ : L2.St) (H : Hp) (xs : List V) (us : List Value) (Q : VK), Inv X pins σ H s → Vals xs us → r xs H Q → wpAny (model X.prog X.w) X.A (call (.builtin "sorted") us [(Str.ofString "key", .builtin "len")]) (EP X pins σ Q) X.xe s
theorem pe_sortLen {r : List V → Hp → VK → Prop} {p p2 pos kpos : Pos} {e : Expr} {es : List Expr} {t : TA} (hc : CallL X r) (hg : Gl X "sorted") (hm : X.mg "sorted" = none) (hg2 : Gl X "len") (hm2 : X.mg "len" = none) (hv : bootBuiltins "sorted" = some (.builtin "sorted")) (hv2 : bootBuiltins "len" = some (.builtin "len")) (ha : PA X (e :: es) t)
    (he : backTo pos (starEach (e :: es) X.env) = (false, eval e X.env) :: backTo pos (starEach es X.env) := by rfl) (hpl : (backTo pos (starEach (e :: es) X.env)).any (·.1) = false := by rfl) :
    PE X (.Call (.Name "sorted" p) (e :: es) [⟨some "key", .Name "len" p2, kpos⟩] pos) (tCB r t) := by
  refine ⟨fun pins s
                                                                                                              σ H Q I h => ?_⟩
  refine wpAny_Call_Name_kw
                                                                                                              (ld_blt I hg hm hv ?_)
  refine PyProof.Rows.callWith_kw (thn (ha.run pos pins s σ H _ I h) fun us s1 ⟨vs, H1, I1, r1, q1⟩ => ?_) he hpl rfl rfl
  show wpAny _ _ (evalAll [do let v ← eval (.Name "len" p2) X.env; standAt pos; pure v]) _ _ s1
  refine wpAny_evalAll_cons (wpAny_bind (ld_blt I1 hg2 hm2 hv2 (wpAny_bind (wpAny_standAt (wpAny_pure ?_)))))
  refine wpAny_evalAll_nil ?_
  exact hc pins s1 σ
                                                                                                              H1 vs us Q I1 r1 q1
theorem zip_rep {K : PySem.W.Frag} {H : Hp} {ds : List D} {vs : List V} (r : RepL K cl H ds vs) : ∀ p ∈ ds.zip vs, Rep K cl H p.1 p.2 := fun p hp => repL_zip r p hp
def srtLP (ds : List D) (vs : List V) : List (D × V) := (ds.zip vs).mergeSort fun a b => decide (lenT a.1 ≤ lenT b.1)
theorem srtLP_fst {K : PySem.W.Frag} {H : Hp} {ds : List D} {vs : List V} (r : RepL K cl H ds vs) : (srtLP ds vs).map (·.1) = ds.mergeSort fun a b => decide (lenT a ≤ lenT b) := by
  unfold srtLP
  have e : ((ds.zip vs).mergeSort fun a b => decide (lenT a.1 ≤ lenT b.1)).map (·.1) = ((ds.zip vs).map (·.1)).mergeSort fun a b => decide (lenT a ≤ lenT b) := List.map_mergeSort fun a _ b _ => rfl
  rw [e, zip_fst r]
theorem cl_sort (hu : X.A.units + 64 < cLine) : CallL X fun xs H Q => ∃ a ds vs, xs = [V.ref a] ∧ SqL X.K H a vs ∧ RepL X.K cl H ds vs ∧ ds.all isT = true ∧ ∀ p, H p = none → Q (.ref p) (upd H p (.lst ((srtLP ds vs).map (·.2)))) := by
  intro pins s σ
                                                                                                              H xs us Q I r h
  obtain ⟨a, ds, vs, rfl, hs, rp, ok, q⟩ := h
  obtain ⟨its, rv, hl,
                                                                                                              hz⟩ := I.list hs
  rw [Vals.ref1 r]
  have hlen : (ds.zip vs).length = vs.length := by rw [List.length_zip, rp.length, Nat.min_self]
  have e := each_zip rp rv
  refine PySem.W.sorted_key_data (bs := ds.zip vs) (k := fun p => PyData.int (lenT p.1)) (R := fun u p => Rep X.K cl H p.1 p.2 ∧ RelV p.2 u) (b := false) hl.isList e ?_ ?_ ?_ ?_ (PyProof.Rows.ksk_s1 _ _) (fun _ => PyProof.Rows.ksk_l1 _ _) (fun x => PyProof.Rows.ksk_t4 "len" x) (fun u p hR hp h tk kp => ?_) fun out c h' tk kp hn hD l1 e2 => ?_
  · exact PySem.W.AllAlike.of fun b b' => rfl
  · exact PySem.W.Sortable.others fun b => ⟨PyData.noConfusion, fun xs => PyData.noConfusion⟩
  · rw [hlen]; exact hz
  · intro p hp
    show X.A.units + 2 + 0 < cLine
    omega
  · have ht : isT p.1 = true := List.all_eq_true.mp ok _ (List.of_mem_zip hp).1
    obtain ⟨d, v⟩ := p
    cases d <;> first | cases ht; done | skip
    rename_i l
    obtain ⟨hr, hv⟩ := hR
    cases hr with
    | tup h1 r1 =>
      cases (show u = Value.ref _ from hv)
      obtain ⟨its2, rv2, pl, hz2⟩ := I.tuple h1
      have h63 := line63
      have hl2 := rv2.length
      have hl3 := r1.length
      refine len_tuple (by obtain ⟨o, ho, hrest⟩ := pl; exact ⟨o, kp _ _ ho, hrest⟩) (by rw [List.size_toArray]; omega) ⟨h, tk + 1 + 1, rfl, fun _ _ z => z, ?_⟩
      have e3 : (its2.toArray.size : Int) = lenT (.tup l) := by
        show _ = (l.length : Int)
        rw [List.size_toArray, ← hl2, hl3]
      rw [e3]
      exact .int _ _
  · rw [PySem.W.dataLe_int] at e2
    obtain ⟨v1, _⟩ := each_vals e2
    have l2 : ((srtLP ds vs).map (·.2)).length = vs.length := by rw [List.length_map, srtLP, List.length_mergeSort, hlen]
    exact ⟨.ref _, _, I.laid (t' := tk) (o := .lst ((srtLP ds vs).map (·.2))) kp (Nat.le_succ _) ⟨by rw [l2]; exact hz, out, _, v1, hD⟩, rfl, q _ (I.hok.fresh (Nat.le_succ _))⟩
theorem re_sortLen {p p2 pos kpos : Pos} {a : Expr} {fs : M (List R)} (hr : X.A.units + 64 < cLine) (hg : Gl X "sorted") (hm : X.mg "sorted" = none) (hg2 : Gl X "len") (hm2 : X.mg "len" = none) (hv : bootBuiltins "sorted" = some (.builtin "sorted")) (hv2 : bootBuiltins "len" = some (.builtin "len")) (ha : RA X cl F W [a] fs)
    (he : backTo pos (starEach [a] X.env) = (false, eval a X.env) :: backTo pos (starEach [] X.env) := by rfl) (hpl : (backTo pos (starEach [a] X.env)).any (·.1) = false := by rfl) :
    RE X cl F W (.Call (.Name "sorted" p) [a] [⟨some "key", .Name "len" p2, kpos⟩] pos) (cCB srtLenD fs) := by
  refine ⟨PE.imp (pe_sortLen (cl_sort (cl := cl) hr) hg hm hg2 hm2 hv hv2 ha.pa he hpl) fun σ H Q h => tCB_D (f := .none) (fun H G xs ds dz Q gh t e k => ?_) h⟩
  unfold srtLenD at e
  split at e
  · split at e
    · rename_i ok
      cases e
      obtain ⟨v, rfl, tv⟩ := topL1 t
      obtain ⟨a, vs, rfl, h1, r⟩ := tv.lst gh
      refine ⟨a, _, vs, rfl, SqL.of h1, r.mono gh, ok, fun p hp => k _ _ _ (.lay .refl hp) (.lst upd_same ?_)⟩
      rw [← srtLP_fst r]
      refine (repL_pairs fun p hp => ?_).mono (same_upd (gh.free hp))
      exact repL_zip r p (List.mem_mergeSort.mp hp)
    · cases e
  · cases e
end
end DL

namespace DL
open PySem L2 PySem.Spec PyProof.Rows
/-! ### a test that only looks at an own list -/
def plainBut (e : Env) (i : Nat) : Bool := e.j.isEmpty && (e.s.set i .un).all S.plain
def cPeek (i : Nat) (t : M Bool) : M Bool := fun e => match e.s[i]? with
  | some (.own (.lst l)) => if plainBut e i = true then (match t (e.setS i (.dat (.lst l))) with
    | .ok b _ => .ok b e
    | _ => .bad) else .bad
  | _ => .bad
theorem plain_at {e : Env} {i j : Nat} {x : S} (h : plainBut e i = true) (hj : e.s[j]? = some x) (hne : j ≠ i) : x.plain = true := by
  unfold plainBut at h
  rw [Bool.and_eq_true] at h
  refine List.all_eq_true.mp h.2 x (List.mem_of_getElem? (i := j) ?_)
  rw [List.getElem?_set_ne (Ne.symm hne)]
  exact hj
section
variable {X : Cx} {cl : Str → Addr} {F : Fra} {W : WX}
theorem rt_peek (i : Nat) {x : Expr} {t : M Bool} (h : RT X cl F W x t) : RT X cl F W x (cPeek i t) := by
  refine ⟨PT.imp h.pt fun σ H Q ⟨e, G, st, q⟩ => ?_⟩
  unfold cPeek at q
  cases hx : e.s[i]? with
  | none => rw [hx] at q; exact q.elim
  | some x =>
    rw [hx] at q
    cases x with
    | own d =>
      cases d with
      | lst l =>
        simp only [] at q
        by_cases hp : plainBut e i = true
        · rw [if_pos hp] at q
          obtain ⟨a, s1, s2, s3, vs, s4, s5⟩ := st.slot i _ hx
          obtain ⟨G2, st2, k2, r2⟩ := frz_ok st (r := .whole i) (v := .ref a) s1 (show e.frz (.whole i) = some (.lst l, e.setS i (.dat (.lst l))) by simp only [Env.frz, hx])
          refine ⟨_, G2, st2, ?_⟩
          cases ht : t (e.setS i (.dat (.lst l))) with
          | bad => rw [ht] at q; exact q.elim
          | exn y e' => rw [ht] at q; exact q.elim
          | ok b e' =>
            rw [ht] at q
            intro H' G' st' k'
            have ha : H' a = some (.lst vs) := by
              cases r2 with
              | lst h1 _ =>
                have := st2.ret.gh _ _ h1
                rw [s4] at this
                cases this
                exact st'.ret.gh _ _ (k'.gg _ _ h1)
            have hj : e.j = [] := by
              unfold plainBut at hp
              rw [Bool.and_eq_true] at hp
              exact List.isEmpty_iff.mp hp.1
            refine q H' G ⟨⟨fun b w hb => st'.ret.gh _ _ (k'.gg _ _ (k2.gg _ _ hb)), st.ret.g0, ⟨st.ret.jars.len, st.ret.jars.nd, fun k b d _ h2 => ?_⟩, st'.ret.fr, st.ret.fg⟩, st.jh, st.len, fun j x hjx => ?_, st.inj⟩ ⟨fun _ _ z => z, fun p o hpo lp => ?_, fun j d hd => ⟨d, hd⟩⟩
            · rw [hj] at h2; cases h2
            · by_cases hne : j = i
              · subst hne
                rw [hx] at hjx
                cases hjx
                exact ⟨a, s1, s2, s3, vs, ha, s5⟩
              · have pl := plain_at hp hjx hne
                cases x with
                | un => exact True.intro
                | dat d => exact st.slot j _ hjx
                | own d => cases pl
                | jar k => cases pl
                | ptr => cases pl
            · have l1 : Loose F (e.setS i (.dat (.lst l))) σ p := ⟨lp.1, fun j d hd => by
                by_cases e0 : j = i
                · subst e0; rw [setS_same hx] at hd; cases hd
                · rw [setS_ne e0] at hd; exact lp.2 j d hd⟩
              exact ⟨(k'.kp p o hpo l1).1, fun z => z⟩
        · rw [if_neg hp] at q; exact q.elim
      | _ => exact q.elim
    | _ => exact q.elim
/-! ### an own list, its own no more -/
def sFrz (i : Nat) (f : M Fl) : M Fl := fun e => match e.s[i]? with
  | some (.own d) => f (e.setS i (.dat d))
  | _ => .bad
theorem postF_up {K : PySem.W.Frag} {D : Ends} {G G2 : Hp} {o : Out Fl} (h : PostF K cl F W D G o) (g : Same G G2) : PostF K cl F W D G2 o := by
  cases o with
  | bad => exact h
  | exn x e => exact h
  | ok fl e =>
    cases fl with
    | nx => exact fun σ' H' G' st s => h σ' H' G' st (g.trans s)
    | bk => exact fun σ' H' G' st s => h σ' H' G' st (g.trans s)
    | ct => exact fun σ' H' G' st s => h σ' H' G' st (g.trans s)
    | rt d => exact h
theorem rs_frz (i : Nat) {x : Stmt} {f : M Fl} (h : RS X cl F W x f) : RS X cl F W x (sFrz i f) := by
  refine ⟨PS.imp h.ps fun D σ H ⟨e, G, st, q⟩ => ?_⟩
  unfold sFrz at q
  cases hx : e.s[i]? with
  | none => rw [hx] at q; exact q.elim
  | some x =>
    rw [hx] at q
    cases x with
    | own d =>
      simp only [] at q
      obtain ⟨a, s1, _⟩ := st.slot i _ hx
      obtain ⟨G2, st2, k2, r2⟩ := frz_ok st (r := .whole i) (v := .ref a) s1 (show e.frz (.whole i) = some (d, e.setS i (.dat d)) by simp only [Env.frz, hx])
      exact ⟨_, G2, st2, postF_up q k2.gg⟩
    | _ => exact q.elim
end
end DL

namespace DL
open PySem L2 PySem.Spec PyProof.Rows
/-! ### sorted of one item at most, whatever it is -/
def sort1D : List D → Option D
  | [.lst l] => if l.length ≤ 1 then some (.lst l) else none
  | _ => none
def sorted3D (xs : List D) : Option D := match sort1D xs with
  | some d => some d
  | none => sorted2D xs
theorem short_perm {α : Type} {l m : List α} (h : l.length ≤ 1) (p : m.Perm l) : m = l := by
  cases l with
  | nil => exact p.eq_nil
  | cons a l =>
    cases l with
    | nil => exact List.perm_singleton.mp p
    | cons b l => simp at h
section
variable {X : Cx} {cl : Str → Addr} {F : Fra} {W : WX}
theorem CallD.or {f : Value} {g g' : List D → Option D} (h : CallD X cl f g) (h' : CallD X cl f g') : CallD X cl f fun xs => match g xs with
    | some d => some d
    | none => g' xs := by
  obtain ⟨r, h1, h2⟩ := h
  obtain ⟨r', h1', h2'⟩ := h'
  refine ⟨_, h1.or h1', fun H G xs ds dz Q gh t e k => ?_⟩
  have e : (match g ds with
    | some d => some d
    | none => g' ds) = some dz := e
  cases hg : g ds with
  | some d => rw [hg] at e; exact .inl (h2 H G xs ds dz Q gh t (hg.trans e) k)
  | none => rw [hg] at e; exact .inr (h2' H G xs ds dz Q gh t e k)
theorem cr_sort1 : CallR X (.builtin "sorted") fun xs H Q => ∃ a vs, xs = [V.ref a] ∧ SqL X.K H a vs ∧ vs.length ≤ 1 ∧ ∀ p, H p = none → Q (.ref p) (upd H p (.lst vs)) := by
  intro pins s σ
                                                                                                              H xs us Q I r h
  obtain ⟨a, vs, rfl, hs, h1, q⟩ := h
  obtain ⟨its, rv, hl,
                                                                                                              hz⟩ := I.list hs
  rw [Vals.ref1 r]
  have hl2 := rv.length
  refine SrtO.sorted_ord (ltv := fun _ _ => false) ⟨fun _ _ z => (nomatch z), fun _ _ _ _ _ => rfl⟩ hl.isList (by rw [← hl2]; exact hz) (fun h2 => absurd h2 (by omega)) fun out _ hb => ?_
  have e : out = its := short_perm (by omega) hb.perm
  subst e
  exact ⟨.ref _, _, I.laid (t' := s.toks) (o := .lst vs) (fun b o => sortedAll_old) (Nat.le_succ _) ⟨hz, out, _, rv, (sortedAll_at s.heap out out.toArray).choose_spec⟩, rfl, q _ (I.hok.fresh (Nat.le_succ _))⟩
theorem cd_sort1 : CallD X cl (.builtin "sorted") sort1D := by
  refine ⟨_, cr_sort1, fun H G xs ds dz Q gh t e k => ?_⟩
  unfold sort1D at e
  split at e
  · split at e
    · rename_i h1
      cases e
      obtain ⟨v, rfl, tv⟩ := topL1 t
      obtain ⟨a, vs, rfl, h2, r⟩ := tv.lst gh
      exact ⟨a, vs, rfl, SqL.of h2, by rw [← r.length]; exact h1, fun p hp => k _ _ _ (.lay .refl hp) (.lst upd_same (r.mono (same_upd (gh.free hp))))⟩
    · cases e
  · cases e
theorem cd_sorted3 (hu : X.A.units + 64 < cLine) : CallD X cl (.builtin "sorted") sorted3D := CallD.or cd_sort1 (cd_sorted2 hu)
end
end DL

namespace DL
open PySem L2 PySem.Spec PyProof.Rows
/-! ### len(set(t)), t a tuple of texts of any length -/
def nubs (l : List Str) (x : Str) : List Str := if l.any (· == x) then l else l ++ [x]
def nub (l : List Str) : List Str := l.foldl nubs []
theorem nub_snoc (l : List Str) (x : Str) : nub (l ++ [x]) = nubs (nub l) x := by
  unfold nub
  rw [List.foldl_append]
  rfl
theorem nubs_any (l : List Str) (x k : Str) : (nubs l x).any (· == k) = (l.any (· == k) || decide (k = x)) := by
  unfold nubs
  cases h : l.any (· == x) with
  | true =>
    rw [if_pos rfl]
    by_cases e : k = x
    · rw [e, h]; rfl
    · rw [decide_eq_false e, Bool.or_false]
  | false =>
    rw [if_neg Bool.false_ne_true, List.any_append, List.any_cons, List.any_nil, Bool.or_false]
    congr 1
    rw [Bool.eq_iff_iff,
                                                                                                              beq_iff_eq, decide_eq_true_eq]
    exact eq_comm
theorem nubs_len (l : List Str) (x : Str) : (nubs l x).length = if l.any (· == x) = true then l.length else l.length + 1 := by
  unfold nubs
  split
  · rfl
  · rw [List.length_append,
                                                                                                              List.length_singleton]
theorem nubs_le (l : List Str) (x : Str) : (nubs l x).length ≤ l.length + 1 := by
  rw [nubs_len]
  split <;> omega
theorem nub_le : ∀ n : Nat, ∀ l : List Str, l.length = n → (nub l).length ≤ n
  | 0, l, h => by rw [List.length_eq_zero_iff.mp h]; exact Nat.le_refl _
  | n + 1, l, h => by
    rcases List.eq_nil_or_concat l with rfl | ⟨m, x, rfl⟩
    · cases h
    · rw [List.concat_eq_append] at h ⊢
      have h1 : m.length = n := by simpa using h
      rw [nub_snoc]
      exact Nat.le_trans (nubs_le _ _) (Nat.succ_le_succ (nub_le n m h1))
section
variable {prog : Program} {w : World} {A : Around} {R : Result → Shared → Prop} {I : Addr} {fp wr : List Addr}
                                                                                                              {G : Array GenState → Array GenState → Prop} {n : Nat} {P : Nat → Value → Prop} {St : Nat → Shared → Prop}
/-- the set at S holds the first i of xs -/
abbrev Holds (prog : Program) (w : World) (h : Heap) (S : Addr) (xs : List Str) (i : Nat) : Prop := h.SetOf (PySem.strKind prog w) S (fun k => (nub (xs.take i)).any (· == k)) (nub (xs.take i)).length
theorem Holds.moved {h h' : Heap} {S : Addr} {xs : List Str} {i : Nat} (a : Holds prog w h S xs i) (k : ∀ o, h.get? S = some o → h'.get? S = some o) : Holds prog w h' S xs i :=
  let ⟨o, es, ep, t, ho, rest⟩ := a
  ⟨o, es, ep, t, k o ho, rest⟩
theorem take_next {xs : List Str} {i : Nat} (h : i < xs.length) : xs.take (i + 1) = xs.take i ++ [xs.getD i Str.empty] := by
  rw [List.take_add_one, List.getElem?_eq_getElem h]
  simp [List.getD,
                                                                                                              List.getElem?_eq_getElem h]
theorem laid_all (W : WalksS prog w A.in1 I fp wr G n P St) (S : Addr) (out : S ∉ fp) (xs : List Str) (size : xs.length = n) (room : n + 1 < scanBound) (val : ∀ i v, P i v → ∃ t, v = .str (xs.getD i Str.empty) t) :
    ∀ (todo i : Nat) (s : Shared), i + todo = n → St i s → Holds prog w s.heap S xs i → (∀ s', Moved (S :: wr) G s s' → Holds prog w s'.heap S xs n → R (.ok (.ret .none)) s') → codeAny (model prog w) A (.builtin "set.update.loop" ⟨[.ref S, .ref I], []⟩) R s
  | 0, i, s, hi, st, hS, fin => by
    obtain rfl : i = n := hi
    refine codeAny_builtin
                                                                                                              PyProof.Rows.F.entry_set_update_loop ?_
    rw [Around.under_plainId
                                                                                                              PyProof.Rows.F.plain_set_update_loop _]
    refine wpAny_bind (W.done s _ _ st fun s' mv => ?_)
    exact wpAny_pure (fin s' (mv.mono fun b hb => List.mem_cons_of_mem _ hb) (hS.moved fun o ho => mv.heap S _ (fun z => out (W.sub _ z)) ho))
  | todo + 1, i, s, hi, st, hS, fin => by
    refine codeAny_builtin
                                                                                                              PyProof.Rows.F.entry_set_update_loop ?_
    rw [Around.under_plainId
                                                                                                              PyProof.Rows.F.plain_set_update_loop _]
    refine wpAny_bind (W.item i s _ _ (by omega) st fun v s1 hv st1 mv => ?_)
    obtain ⟨t, rfl⟩ := val i v hv
    have h1 : Holds prog w s1.heap S xs i := hS.moved fun o ho => mv.heap S _ (fun z => out (W.sub _ z)) ho
    refine wpAny_bind
                                                                                                              (wpAny_holding ?_)
    unfold setAdd
    refine wpAny_holding (wpAny_bind ((PySem.strKind prog w).pyHash (k := xs.getD i Str.empty) (strKind_is _ _ _ _) ?_))
    have few : (nub (xs.take i)).length ≤ i := nub_le i _ (by rw [List.length_take]; omega)
    refine wpAny_setAddHashed_of (knd := PySem.strKind prog w) (s := { s1 with toks := s1.toks + 1 }) (strKind_is _ _ _ _) rfl h1 (by omega) fun h' same h2 => ?_
    have e := take_next (xs := xs) (i := i) (by omega)
    have h3 : Holds prog w h' S xs (i + 1) := by
      refine PyProof.Rows.SetOf_congr h2 (fun k => ?_) ?_
      · rw [e, nub_snoc, nubs_any]
      · rw [e, nub_snoc, nubs_len]
    refine wpAny_pure ⟨plainId_quiet PyProof.Rows.F.plain_set_update_loop _, laid_all W S out xs size room val todo (i + 1) _ (by omega) (W.frame _ s1 _ _ st1 (Nat.le_succ _) fun b hb o ho => ?_) h3 fun s2 mv2 h4 => ?_⟩
    · rw [same.2 b fun z : b = S => out (z ▸ hb)]; exact ho
    · refine fin s2 (Moved.trans W.gtrans ((mv.mono fun b hb => List.mem_cons_of_mem _ hb).then_heap (Nat.le_succ _) fun b o hb ho => ?_) mv2) h4
      rw [same.2 b fun z : b = S => hb (by rw [z]; exact List.mem_cons_self)]; exact ho
end
section
variable {prog : Program} {w : World} {A :
                                                                                                              Around} {E : Value → Shared → Prop} {s : Shared}
/-- a set that holds nothing yet -/
abbrev so (led : Bool) : Obj := { cls := .type "set", dict := none, data := .set #[] 0 (.fresh 0 0 led) }
theorem set_tup {l : Addr} {items : Array Value} {xs : List Str} {Q : Value → Shared → Prop} (hh : A.handled = none) (hl : s.heap.IsTuple l items) (hi : PyProof.Rows.StrsAre items.toList xs) (room : xs.length + 1 < scanBound)
    (h : ∀ (h' : Heap) (tk : Nat), Holds prog w h' s.heap.objs.size xs xs.length → (∀ b o, b < s.heap.objs.size → s.heap.get? b = some o → h'.get? b = some o) → Q (.ref s.heap.objs.size) { s with heap := h', toks := tk }) :
    wpAny (model prog w) A (call (.type
                                                                                                              "set") [.ref l]) Q E s := by
  obtain ⟨c, tl, mro⟩ := PySem.F.called_set.mro
  have made := PySem.F.called_set.made
  have sub := PySem.F.called_set.sub
  refine wpAny_call
                                                                                                              (codeAny_of_tree ?_)
  show wpAny _ _ (callAny
                                                                                                              (.type "set") _) _ _ _
  refine wpAny_pure ⟨Code.quiet_builtin _ (by decide
                                                                                                              +kernel), codeAny_builtin PySem.F.entry_type_call ?_⟩
  rw [Around.under_plain (weight_type_call_type
                                                                                                              "set" [.ref l] []) rfl]
  have nt := PySem.F.called_set.notType
  have cc := PySem.F.called_set.canCreate
  have tc := PySem.F.typeCall_set_1 (.ref l)
  repeat (any_goals (first
                                                                                                              | assumption | wp_step))
  refine codeAny_mono (code_set_new_1 (.ref l) (E := E) (Q₁ := fun v s₁ => ∃ led : Bool, v = .ref s.heap.objs.size ∧ s₁ = { s with heap := s.heap.push (so led) }) fun led => ⟨led, rfl, rfl⟩) fun r s₁ hr => ?_
  cases r with
  | error e => exact hr
  | ok fl =>
    cases fl with
    | ret v =>
      obtain ⟨led, rfl, rfl⟩ := hr
      have hS : (s.heap.push (so led)).get? s.heap.objs.size = some (so led) := Heap.get?_push_size _ rfl
      have hT : Shared.TypeIs { s with heap := s.heap.push (so led) } (.ref s.heap.objs.size) "set" := ⟨_, hS, rfl⟩
      have li := PySem.F.called_set.init.lookup
      have bi := PySem.F.called_set.init.bind (.ref s.heap.objs.size)
      repeat (any_goals (first
                                                                                                              | assumption | wp_step))
      refine codeAny_mono (codeAny_call_builtin (R := wants (fun r s₂ => r = .none ∧ ∃ h' tk, s₂ = { s with heap := h', toks := tk } ∧ Holds prog w h' s.heap.objs.size xs xs.length ∧ (∀ b o, b < s.heap.objs.size → s.heap.get? b = some o → h'.get? b = some o)) E) PySem.F.called_set.init.plain PySem.F.entry_set_init (check_set_init_1 hT ?_)) fun r₂ s₂ hr₂ => ?_
      · obtain ⟨ol, hol,
                                                                                                              hcl, nl, hdl⟩ := hl
        obtain ⟨ocls, odict,
                                                                                                              odata, oslots⟩ := ol
        simp only at hcl hdl
        subst hcl; subst hdl
        have hol1 : (s.heap.push (so led)).get? l = some { cls := .type "tuple", dict := odict, data := .seq items nl, slots := oslots } := Heap.get?_push_of_some _ hol
        have s1 := PySem.F.sub_tuple_set
        have s2 := PySem.F.sub_tuple_frozenset
        have nd : (Value.type "tuple" == Value.type "dict") = false := by decide
        have hl1 : (s.heap.push (so led)).IsTuple l items := ⟨_, hol1, rfl, nl, rfl⟩
        unfold Builtin.«set.__init__»
                                                                                                              noKeywords Builtin.Frozenset.updateFrom
        generalize hPI : pyIter = PI
        wp_walk
        subst hPI
        refine wpAny_pyIter_tuple
                                                                                                              hl1 ?_
        refine wpAny_bind
                                                                                                              (wpAny_runValue ?_)
        have lt : l < s.heap.objs.size := Heap.lt_size hol
        have h3 : A.in1.in1.in1.handled = none := by simp [hh]
        have ne : l ≠ (s.heap.push (so led)).objs.size := by rw [Heap.size_push]; exact Nat.ne_of_lt (Nat.lt_succ_of_lt lt)
        have out : s.heap.objs.size ∉ [(s.heap.push (so led)).objs.size, l] := by
          rw [Heap.size_push]
          intro z
          rcases List.mem_cons.mp
                                                                                                              z with z | z
          · exact Nat.ne_of_lt (Nat.lt_succ_self _) z
          · exact Nat.ne_of_gt lt (List.mem_singleton.mp z)
        have sz : xs.length = items.size := by rw [← StrsAre.len_eq hi, Array.length_toList]
        refine laid_all ((Walks.tuple h3 _ l ne items).toS) s.heap.objs.size out xs sz (by omega) (fun i v hv => SS.strs_at hi i v (by rw [Array.getElem?_toList]; exact hv)) items.size 0 _ (Nat.zero_add _) ⟨⟨_, Heap.get?_push_size _ rfl, rfl, rfl⟩, (hl1.push _)⟩ ?new ?fin
        case new =>
          exact PyProof.Rows.SetOf_congr ((PyProof.Rows.setObjOf_fresh (knd := PySem.strKind prog w) led).setOf (Heap.get?_push_of_some _ hS) (by unfold scanBound; omega)) (fun _ => rfl) rfl
        case fin =>
          intro s' mv hS'
          obtain ⟨h', g', d',
                                                                                                              tk', os'⟩ := s'
          obtain rfl : g' = s.gens := mv.gens
          obtain rfl : d' = s.drawn := mv.drawn
          obtain rfl : os' = s.os := mv.os
          refine wpAny_pure (wpAny_pure ⟨rfl, h', tk', rfl, by rw [sz]; exact hS', fun b o hb e => mv.heap b o (fun z => ?_) (Heap.get?_push_of_some _ (Heap.get?_push_of_some _ e))⟩)
          rcases List.mem_cons.mp
                                                                                                              z with z | z
          · exact Nat.ne_of_lt hb z
          · rw [List.mem_singleton, Heap.size_push] at z
            exact Nat.ne_of_lt (Nat.lt_succ_of_lt hb) z
      · cases r₂ with
        | error e => exact hr₂
        | ok fl₂ =>
          cases fl₂ with
          | ret r =>
            obtain ⟨rfl, h', tk, rfl, hS', keep⟩ := hr₂
            repeat (any_goals (first
                                                                                                              | assumption | wp_step))
            exact h _ _ hS' keep
          | _ => exact hr₂.elim
    | _ => exact hr.elim
end
end DL

namespace DL
open PySem L2 PySem.Spec PyProof.Rows
def strsD : List D → Option (List Str)
  | [] => some []
  | .str x :: l => (strsD l).map fun xs => x :: xs
  | _ :: _ => none
def lenSetD : List D → Option D
  | [.tup l] => (strsD l).bind fun xs => if xs.length ≤ 1000 then some (.int (nub xs).length) else none
  | _ => none
theorem repL_strs {K : PySem.W.Frag} {G : Hp} {cl : Str → Addr} : ∀ {l : List D} {xs : List Str} {vs : List V}, strsD l = some xs → RepL K cl G l vs → vs = xs.map V.str
  | [], xs, _, h, .nil => by cases h; rfl
  | d :: l, xs, _, h, .cons r t => by
    cases d <;> first | (cases h; done) | skip
    rename_i x
    obtain ⟨ys, hy, rfl⟩ := Option.map_eq_some_iff.mp (show (strsD l).map (fun xs => x :: xs) = some xs from h)
    cases r
    rw [repL_strs hy t]
    rfl
section
variable {X : Cx} {cl : Str → Addr} {F : Fra} {W : WX}
theorem pe_lenSetT {a : Expr} {t : TA} {p p2 q pos : Pos} (hc : X.calm = true) (hg : Gl X "len") (hm : X.mg "len" = none) (hg2 : Gl X "set") (hm2 : X.mg "set" = none) (hv : bootBuiltins "len" = some (.builtin "len")) (hv2 : bootBuiltins "set" = some (.type "set")) (ha : PA X [a] t)
    (na : starEach [a] X.env = (false, eval a X.env) :: starEach [] X.env := by rfl) :
    PE X (.Call (.Name "len" p) [.Call (.Name "set" p2) [a] [] q] [] pos) (tCB (fun xs H Q => ∃ l, ∃ ys : List Str, xs = [V.ref l] ∧ SqT X.K H l (ys.map V.str) ∧ ys.length ≤ 1000 ∧ Q (.int (nub ys).length) H) t) := by
  refine ⟨fun pins s
                                                                                                              σ H Q I h => ?_⟩
  refine wpAny_Call_Name_kw
                                                                                                              (ld_blt I hg hm hv ?_)
  refine PyProof.Rows.callWith_builtin1
                                                                                                              (PyProof.Rows.args_cons ?_ rfl) rfl rfl
  refine wpAny_Call_Name_kw (ld_blt I hg2 hm2 hv2 ?_)
  refine PyProof.Rows.callWith_type1 (thn (ha.run q pins s σ H _ I h) fun us s1 ⟨vs, H1, I1, r1, q1⟩ => ?_) na rfl
  obtain ⟨l, ys, rfl, hq, h1, q2⟩ := q1
  rw [Vals.ref1 r1]
  obtain ⟨its, r, pl, hz⟩ := I1.tuple hq
  refine set_tup (xs := ys) (I1.ok.hd hc) pl (by simpa using strsAre_of r) (by unfold scanBound; omega) fun h' tk hS keep => ?_
  refine PyProof.Rows.args_nil
                                                                                                              ?_
  obtain ⟨o, es, ep, tb, ho, ex, hd, _, _, _, hf, hn⟩ := hS
  have I2 : Inv X pins σ H1 { s1 with heap := h', toks := tk } := I1.kept fun b o e => keep b o (Heap.lt_size e) e
  have e1 : (nub (ys.take ys.length)).length = (nub ys).length := by rw [List.take_length]
  have few := nub_le _ ys rfl
  exact call_len_set ho ex hd hf (by rw [hn, e1]; omega) ⟨.int (nub ys).length, H1, I2.tok _, ⟨_, by rw [hn, e1]⟩, q2⟩
theorem re_lenSet {a : Expr} {fs : M (List R)} {p p2 q pos : Pos} (hc : X.calm = true) (hg : Gl X "len") (hm : X.mg "len" = none) (hg2 : Gl X "set") (hm2 : X.mg "set" = none) (hv : bootBuiltins "len" = some (.builtin "len")) (hv2 : bootBuiltins "set" = some (.type "set")) (ha : RA X cl F W [a] fs)
    (na : starEach [a] X.env = (false, eval a X.env) :: starEach [] X.env := by rfl) : RE X cl F W (.Call (.Name "len" p) [.Call (.Name "set" p2) [a] [] q] [] pos) (cCB lenSetD fs) := by
  refine ⟨PE.imp (pe_lenSetT hc hg hm hg2 hm2 hv hv2 ha.pa na) fun σ H Q h => tCB_D (f := .none) (fun H G xs ds dz Q gh t e k => ?_) h⟩
  unfold lenSetD at e
  split at e
  · rename_i l
    obtain ⟨ys, hy, e⟩ := Option.bind_eq_some_iff.mp e
    split at e
    · rename_i h1
      cases e
      obtain ⟨v, rfl, tv⟩ := topL1 t
      obtain ⟨a, vs, rfl, h2, r⟩ := tv.tup gh
      refine ⟨a, ys, rfl, ?_, h1, k _ H G .refl .int⟩
      rw [← repL_strs hy r]
      exact h2
    · cases e
  · cases e
end
end DL

namespace DL
open PySem L2 PySem.Spec PyProof.Rows
/-! ### a test a op b op c op .., link by link -/
structure PRs (X : Cx) (pos : Pos) (es : List Expr) (ops : List CmpOp) (t : V → TT) : Prop where
  run : ∀ (pins : List (Addr × Obj)) (s : Shared) (σ : L2.St) (H : Hp) (Q : Bool → Hp → Prop) (v : Value) (x : V), Inv X pins σ H s → RelV x v → t x σ H Q →
    wpAny (model X.prog X.w) X.A (testChain pos v ops (evalEach es X.env)) (TP X pins σ Q) X.xe s
section
variable {X : Cx} {cl : Str → Addr} {F : Fra} {W : WX} {op op2 : CmpOp} {r : R2} {pos : Pos}
theorem prs_last {e : Expr} {t : TE} (ho : OpR X (compareOp op) r) (p : PE X e t) : PRs X pos [e] [op] fun x σ H Q => t σ H fun y H1 => r x y H1 fun z H2 => ∃ k, z = .bl k ∧ Q k H2 := by
  refine ⟨fun pins s σ H Q v x I rx h => ?_⟩
  refine test_last (thn (p.run pins s σ H _ I h) fun u s1 ⟨y, H1, I1, r1, q1⟩ => thn (ho pins s1 σ H1 x y v u _ I1 rx r1 q1) fun c s2 ⟨z, H2, I2, r2, k, ez, q2⟩ => ?_)
  subst ez
  cases r2
  exact wpAny_truthy_bool ⟨H2, I2, q2⟩
theorem prs_link {e e2 : Expr} {es : List Expr} {ops : List CmpOp} {t : TE} {u : V → TT} (ho : OpR X (compareOp op) r) (p : PE X e t) (h2 : PRs X pos (e2 :: es) (op2 :: ops) u) :
    PRs X pos (e :: e2 :: es) (op :: op2 :: ops) fun x σ H Q => t σ H fun y H1 => r x y H1 fun z H2 => ∃ k, z = .bl k ∧ (if k = true then u y σ H2 Q else Q false H2) := by
  refine ⟨fun pins s σ H Q v x I rx h => ?_⟩
  refine test_link (thn (p.run pins s σ H _ I h) fun w s1 ⟨y, H1, I1, r1, q1⟩ => thn (ho pins s1 σ H1 x y v w _ I1 rx r1 q1) fun c s2 ⟨z, H2, I2, r2, k, ez, q2⟩ => ?_)
  subst ez
  cases r2
  refine wpAny_truthy_bool ?_
  cases k with
  | false => exact ite_ff ⟨H2, I2, q2⟩
  | true => exact ite_tt (h2.run pins s2 σ H2 Q w y I2 r1 q2)
theorem pt_chainN {a b c : Expr} {cs : List Expr} {op' : CmpOp} {ops : List CmpOp} {ta : TE} {u : V → TT} (ha : PE X a ta) (hs : PRs X pos (b :: c :: cs) (op :: op' :: ops) u)
    (hm : lastMarks (op :: op' :: ops) (b :: c :: cs) = false := by with_unfolding_all rfl) : PT X (.Compare a (op :: op' :: ops) (b :: c :: cs) pos) fun σ H Q => ta σ H fun x H1 => u x σ H1 Q := by
  refine ⟨fun pins s
                                                                                                              σ H Q I h => ?_⟩
  exact isTrue_chain (thn (ha.run pins s σ H _ I h) fun v s1 ⟨x, H1, I1, r1, q1⟩ => hs.run pins s1 σ H1 Q v x I1 r1 q1) hm
/-! in D -/
def cLast (g : D → D → Option D) (f : M R) (x : R) : M Bool := fun e => (f e).bnd fun y e1 => match opt2 g (e1.rd x) (e1.rd y) with
  | some (.bl b) => .ok b e1
  | _ => .bad
def cLink (g : D → D → Option D) (f : M R) (k : R → M Bool) (x : R) : M Bool := fun e => (f e).bnd fun y e1 => match opt2 g (e1.rd x) (e1.rd y) with
  | some (.bl true) => k y e1
  | some (.bl false) => .ok false e1
  | _ => .bad
def cChainN (fa : M R) (f : R → M Bool) : M Bool := fun e => (fa e).bnd fun x e1 => f x e1
def tR (X : Cx) (cl : Str → Addr) (F : Fra) (W : WX) (f : R → M Bool) (v : V) : TT := fun σ H Q => ∃ x e G, Stt X.K cl F e σ H G ∧ RR X.K cl σ G x v ∧ Post X.K cl F W σ (f x e) fun b e' => ∀ H' G', Stt X.K cl F e' σ H' G' → Kp F σ e H G e' H' G' → Q b H'
structure RCh (X : Cx) (cl : Str → Addr) (F : Fra) (W : WX) (pos : Pos) (es : List Expr) (ops : List CmpOp) (f : R → M Bool) : Prop where
  pr : PRs X pos es ops (tR X cl F W f)
theorem PRs.imp {es : List Expr} {ops : List CmpOp} {t t' : V → TT} (h : PRs X pos es ops t) (i : ∀ x σ H Q, t' x σ H Q → t x σ H Q) : PRs X pos es ops t' :=
  ⟨fun pins s σ H Q v x I rx q => h.run pins s σ H Q v x I rx (i x σ H Q q)⟩
theorem rch_last {e : Expr} {g : D → D → Option D} {f : M R} (ho : OpD X cl (compareOp op) g) (h : RE X cl F W e f) : RCh X cl F W pos [e] [op] (cLast g f) := by
  obtain ⟨r, h1, h2⟩ := ho
  refine ⟨(prs_last h1 h.pe).imp fun v σ H Q ⟨x, e, G, st, rx, q⟩ => ?_⟩
  refine tD_then st q fun y e1 u H1 G1 s1 k1 r1 z => ?_
  cases hz : opt2 g (e1.rd x) (e1.rd y) with
  | none => rw [hz] at z; exact z.elim
  | some d =>
    rw [hz] at z
    obtain ⟨dx, dy, hx, hy, hg2⟩ := opt2_ok hz
    refine h2 H1 G1 v u dx dy d _ s1.ret.gh (s1.top (rx.mono k1.gg) hx) (s1.top r1 hy) hg2 fun w H2 G2 sp rw_ => ?_
    cases d with
    | bl b =>
      cases rw_
      exact ⟨b, rfl, z H2 G2 (s1.step sp) (k1.trans (Kp.step s1 sp))⟩
    | _ => exact z.elim
theorem rch_link {e e2 : Expr} {es : List Expr} {ops : List CmpOp} {g : D → D → Option D} {f : M R} {k : R → M Bool} (ho : OpD X cl (compareOp op) g) (h : RE X cl F W e f) (hk : RCh X cl F W pos (e2 :: es) (op2 :: ops) k) :
    RCh X cl F W pos (e :: e2 :: es) (op :: op2 :: ops) (cLink g f k) := by
  obtain ⟨r, h1, h2⟩ := ho
  refine ⟨(prs_link h1 h.pe hk.pr).imp fun v σ H Q ⟨x, e, G, st, rx, q⟩ => ?_⟩
  refine tD_then st q fun y e1 u H1 G1 s1 k1 r1 z => ?_
  cases hz : opt2 g (e1.rd x) (e1.rd y) with
  | none => rw [hz] at z; exact z.elim
  | some d =>
    rw [hz] at z
    obtain ⟨dx, dy, hx, hy, hg2⟩ := opt2_ok hz
    refine h2 H1 G1 v u dx dy d _ s1.ret.gh (s1.top (rx.mono k1.gg) hx) (s1.top r1 hy) hg2 fun w H2 G2 sp rw_ => ?_
    have s2 := s1.step sp
    have k2 := k1.trans (Kp.step s1 sp)
    cases d with
    | bl b =>
      cases rw_
      refine ⟨b, rfl, ?_⟩
      cases b with
      | false => exact z H2 G2 s2 k2
      | true => exact ⟨y, e1, G2, s2, r1.mono (Kp.step s1 sp).gg, post_imp z fun b e' hq H' G' st' k' => hq H' G' st' (k2.trans k')⟩
    | _ => exact z.elim
theorem rt_chainN {a b c : Expr} {cs : List Expr} {op' : CmpOp} {ops : List CmpOp} {fa : M R} {f : R → M Bool} (ha : RE X cl F W a fa) (hs : RCh X cl F W pos (b :: c :: cs) (op :: op' :: ops) f)
    (hm : lastMarks (op :: op' :: ops) (b :: c :: cs) = false := by with_unfolding_all rfl) : RT X cl F W (.Compare a (op :: op' :: ops) (b :: c :: cs) pos) (cChainN fa f) := by
  refine ⟨PT.imp (pt_chainN ha.pe hs.pr hm) fun σ H Q ⟨e, G, st, q⟩ => ?_⟩
  exact tD_then st q fun x e1 v H1 G1 s1 k1 r1 z => ⟨x, e1, G1, s1, r1, post_imp z fun b e' h H' G' st' k' => h H' G' st' (k1.trans k')⟩
end
end DL

namespace DL
open PySem L2 PySem.Spec PyProof.Rows
/-! ### one truth less another one -/
def subBD : D → D → Option D
  | .bl a, .bl b => some (.int (b2i a - b2i b))
  | _, _ => none
section
variable {X : Cx} {cl : Str → Addr}
theorem op_subBR : OpR X (binaryOp .Sub) fun x y H Q => ∃ a b, x = .bl a ∧ y = .bl b ∧ Q (.int (b2i a - b2i b)) H := by
  intro pins s σ H x
                                                                                                              y v u Q I rx ry h
  obtain ⟨a, b,
                                                                                                              rfl, rfl, q⟩ := h
  cases rx
  cases ry
  exact PyProof.Rows.sub_bool ⟨.int (b2i a - b2i b), H, I.tok _, ⟨_, rfl⟩, q⟩
theorem od_subB : OpD X cl (binaryOp .Sub) subBD := by
  refine ⟨_, op_subBR, fun H G x y dx dy dz Q gh tx ty e k => ?_⟩
  unfold subBD at e
  split at e
  · cases e
    exact ⟨_, _, tx.bl, ty.bl, k _ H G .refl .int⟩
  · cases e
end
end DL

namespace DL
open PySem L2 PySem.Spec PyProof.Rows
/-! ### == and != by an own __eq__ (no own __ne__), two objects of one class -/
def askEq (c : Str) (Φ : Fn) (x y : D) : Option Bool := if (isObjC c x && isObjC c y) = true then (match Φ [.dat x, .dat y] [] with
  | .ok (.bl b) [] => some b
  | _ => none) else none
def eqOwn (c : Str) (Φ : Fn) (x y : D) : Option D := (askEq c Φ x y).map D.bl
def neOwn (c : Str) (Φ : Fn) (x y : D) : Option D := (askEq c Φ x y).map fun b => D.bl (!b)
section
variable {X : Cx} {cl : Str → Addr} {F : Fra} {W : WX} {k : Nat} {f : Addr} {fd : FuncData} {ps : List Str} {Φ : Fn} {c : Str}
theorem askEq_ok {H G : Hp} {x y : V} {dx dy : D} {b : Bool} (g : Same G H) (tx : Top X.K cl H G dx x) (ty : Top X.K cl H G dy y) (h : askEq c Φ dx dy = some b) :
    ∃ a a' dd dd' fs fs', x = .ref a ∧ y = .ref a' ∧ H a = some (.ins (cl c) dd fs) ∧ H a' = some (.ins (cl c) dd' fs') ∧ spD X.K cl Φ [.ref a, .ref a'] H (fun v H' => v = .bl b ∧ Same H H') E0 := by
  unfold askEq at h
  split at h
  · rename_i hi
    obtain ⟨i1, i2⟩ := Bool.and_eq_true_iff.mp hi
    obtain ⟨ns, l, rfl⟩ := isObjC_inv i1
    obtain ⟨ns', l', rfl⟩ := isObjC_inv i2
    have rx := tx.rep g
    have ry := ty.rep g
    obtain ⟨a, dd, vs, rfl, ha, _, _⟩ := tx.obj g
    obtain ⟨a', dd', vs', rfl, ha', _, _⟩ := ty.obj g
    refine ⟨a, a', dd, dd', _, _, rfl, rfl, ha, ha', [.dat (.obj c ns l), .dat (.obj c ns' l')], [], [], H, .refl _, .dat rx (.dat ry .nil), ⟨rfl, List.nodup_nil, fun k a d h => by simp at h⟩, ?_⟩
    split at h
    · rename_i b' e
      cases h
      rw [e]
      intro v H' G' r rv
      cases rv
      exact ⟨rfl, fun b o q => r.fr b o q (by simp)⟩
    · cases h
  · cases h
/-- a call of a def at some depth -/
theorem call_sub {A : Around} (Fn : FnOk X.prog X.w X.K X.mg X.base (L2N.CX X.prog X.w) k f fd ps (spD X.K cl Φ)) (sb : L2.Sub X k A) (hb : Binds X.K fd ps []) {pins : List (Addr × Obj)} {s : Shared} {σ : L2.St} {H : Hp} {vs : List V} {us : List Value} {Q : VK}
    (I : Inv X pins σ H s) (r2 : Vals vs us) (hsp : spD X.K cl Φ vs H Q E0) : wpAny (model X.prog X.w) A (call (.ref f) us) (EP X pins σ Q) X.xe s := by
  have e0 : Env0 X.prog X.w X.K
                                                                                                              X.mg X.base A X.stack s H := by
    have e := I.env0
    exact ⟨by rw [sb.fr]; exact e.frames, e.mod,
                                                                                                              e.bs, e.bsz, e.funs, e.frf, e.hok, e.bare⟩
  have hl := Fn.len _ _ _ _ hsp
  refine wpAny_call (codeAny_mono (Fn.run A X.stack s H ⟨us, []⟩ us vs _ E0 sb.room e0 (by
    have := hb s us I.kIn (by simpa [← Vals.length r2] using hl)
    simpa using this) r2
                                                                                                              hsp) fun r s' hq => ?_)
  cases r with
  | error e => exact passLN pins σ H s e s' I hq
  | ok fl =>
    cases fl with
    | ret w =>
      obtain ⟨z, H', I', rz, q⟩ := I.after hq
      exact ⟨z, H', I', rz, q⟩
    | next => exact False.elim hq
    | brk => exact False.elim hq
    | cont => exact False.elim hq
theorem od_eqOwn (hs : PySem.W.findIn X.K (.ref (cl c)) "__eq__" = some (some (.ref f))) (hf : PySem.W.isFn X.K (.ref f) = true) (Fn : FnOk X.prog X.w X.K X.mg X.base (L2N.CX X.prog X.w) k f fd ps (spD X.K cl Φ)) (hr : Room k X.A) (hb : Binds X.K fd ps []) :
    OpD X cl (compareOp .Eq) (eqOwn c Φ) := by
  refine ⟨fun x y H Q => ∃ b a a' dd dd' fs fs', x = .ref a ∧ y = .ref a' ∧ H a = some (.ins (cl c) dd fs) ∧ H a' = some (.ins (cl c) dd' fs') ∧ spD X.K cl Φ [.ref a, .ref a'] H (fun v H' => v = .bl b ∧ Same H H') E0 ∧ ∀ H', Same H H' → Q (.bl b) H', ?_, ?_⟩
  · intro pins s σ H x y v u Q I rx ry h
    obtain ⟨b, a, a', dd, dd', fs, fs', rfl, rfl, ha, ha', sp, q⟩ := h
    cases rx
    cases ry
    obtain ⟨mA, J, _⟩
                                                                                                              := ins_get I.hok ha
    obtain ⟨mB, J', _⟩ := ins_get I.hok ha'
    obtain ⟨od, J, _⟩ := J.look
    obtain ⟨od', J',
                                                                                                              _⟩ := J'.look
    obtain ⟨m, hF⟩ := I.fr
    refine PySem.W.cmp_K (op := .Eq) (tb := .ref (cl c)) hr.units0 hF I.ok.mod.kin J J'.type (by simp [PySem.W.notFirst]) hs hf ?_
    refine wpAny_mono (call_sub Fn ⟨hr, rfl⟩ hb I (.cons (show RelV (.ref a) (.ref a) from rfl) (.cons (show RelV (.ref a') (.ref a') from rfl) .nil)) sp) (fun r s' z => ?_) fun _ _ z => z
    obtain ⟨w, H', I', rw_, ⟨e, sm⟩⟩ := z
    subst e
    cases rw_
    exact ⟨.bl b, H', I', rfl, q H' sm⟩
  · intro H G x y dx dy dz Q g tx ty hg q
    obtain ⟨b, hb1, rfl⟩ := Option.map_eq_some_iff.mp hg
    obtain ⟨a, a', dd, dd', fs, fs', rfl, rfl, ha, ha', sp⟩ := askEq_ok g tx ty hb1
    exact ⟨b, a, a', dd, dd', fs, fs', rfl, rfl, ha, ha', sp, fun H' sm => q _ H' G (.grow .refl sm) .bl⟩
section
variable {M : Model} {A : Around} {E : Value → Shared → Prop} {s : Shared} {K : PySem.W.Frag} {x C : Addr} {ox : Obj} {od : Option Obj}
theorem ifBound_objNe {args : List Value} {Q : Option Value → Shared → Prop} (X : K.In s.heap) (I : PySem.W.InstAt s.heap x ox C od) (hs : PySem.W.findIn K (.ref C) "__ne__" = some (some (.builtin "object.__ne__")))
    (h : wpAny M A (call (.builtin "object.__ne__") (.ref x :: args)) (fun v => Q (some v)) E s) : wpAny M A (callSpecialIfBound? (.ref x) "__ne__" args) Q E s := by
  simp only [callSpecialIfBound?,
                                                                                                              bindSpecialIfBound?]
  refine wpAny_holding (wpAny_bind (wpAny_bind (wpAny_bind
                                                                                                              (I.type.here ((PySem.W.looks_findIn X hs).here ?_)))))
  refine wpAny_bind
                                                                                                              (wpAny_askSetting (wpAny_ite ?_))
  have fin : wpAny M A (call (.builtin "object.__ne__") ([.ref x] ++ args) >>= fun v => pure (some v)) Q E s := wpAny_bind (wpAny_mono h (fun v s' h' => wpAny_pure h') fun _ _ h' => h')
  split
  · exact wpAny_bind (wpAny_of_eq (PySem.F.cmp_object.ne.bind _) (wpAny_pure (by exact fin)))
  · exact wpAny_tryCatch (wpAny_bind (wpAny_of_eq (PySem.F.cmp_object.ne.bind _) (wpAny_pure (by exact fin))))
end
theorem objNe_entry {prog : Program} {w : World} {A : Around} {E : Value → Shared → Prop} {s : Shared} {K : PySem.W.Frag} {x y C f : Addr} {ox : Obj} {od : Option Obj} {Q : Fin → Shared → Prop} (hu : A.units < cLine) (X : K.In s.heap) (I : PySem.W.InstAt s.heap x ox C od)
    (hs : PySem.W.findIn K (.ref C) "__eq__" = some (some (.ref f))) (hf : PySem.W.isFn K (.ref f) = true)
    (hcall : wpAny (model prog w) A (call (.ref f) [.ref x, .ref y]) (fun v s' => ∃ b, v = .bool b ∧ Q (.done (.ret (.bool (!b)))) s') E s) :
    wpAny (model prog w) A (Builtin.«object.__ne__» ⟨[.ref x, .ref y], []⟩) Q E s := by
  unfold
                                                                                                              Builtin.«object.__ne__»
  repeat (first
    | with_reducible refine
                                                                                                              wpAny_cRoomFor hu ?_
    | (refine wpAny_bind (m := callSpecialIfBound?
                                                                                                              (.ref x) (Str.ofString "__eq__") [.ref y])
        (PySem.W.ifBound_K X I hs hf (wpAny_mono hcall (fun r s' hr => by
          obtain ⟨b, rfl, hq⟩ := hr
          repeat (first | exact hq | exact wpAny_pure hq | exact wpAny_truthy_bool hq | (refine
                                                                                                              wpAny_bind (m := truthy (.bool _)) (wpAny_truthy_bool ?_)) | wp_step)) fun _ _ e => e)))
    | wp_step)
theorem od_neOwn (hn : PySem.W.findIn X.K (.ref (cl c)) "__ne__" = some (some (.builtin "object.__ne__"))) (hm : PySem.W.mroIn X.K (cl c) (.type "object") = some true)
    (hs : PySem.W.findIn X.K (.ref (cl c)) "__eq__" = some (some (.ref f))) (hf : PySem.W.isFn X.K (.ref f) = true) (Fn : FnOk X.prog X.w X.K X.mg X.base (L2N.CX X.prog X.w) k f fd ps (spD X.K cl Φ)) (hr : Room (k + 1) X.A) (hb : Binds X.K fd ps []) :
    OpD X cl (compareOp .NotEq) (neOwn c Φ) := by
  refine ⟨fun x y H Q => ∃ b a a' dd dd' fs fs', x = .ref a ∧ y = .ref a' ∧ H a = some (.ins (cl c) dd fs) ∧ H a' = some (.ins (cl c) dd' fs') ∧ spD X.K cl Φ [.ref a, .ref a'] H (fun v H' => v = .bl b ∧ Same H H') E0 ∧ ∀ H', Same H H' → Q (.bl (!b)) H', ?_, ?_⟩
  · intro pins s σ H x y v u Q I rx ry h
    obtain ⟨b, a, a', dd, dd', fs, fs', rfl, rfl, ha, ha', sp, q⟩ := h
    cases rx
    cases ry
    obtain ⟨mA, J, _⟩
                                                                                                              := ins_get I.hok ha
    obtain ⟨mB, J', _⟩ := ins_get I.hok ha'
    obtain ⟨od, J, _⟩ := J.look
    obtain ⟨od', J',
                                                                                                              _⟩ := J'.look
    have Xi := I.kIn
    have sb : L2.Sub X (k + 1) X.A := ⟨hr, rfl⟩
    have body : wpAny (model X.prog X.w) X.A.in1 (Builtin.«object.__ne__» ⟨[.ref a, .ref a'], []⟩) (fun fin s' => match fin with
      | .done fl => wants (EP X pins σ fun v H' => v = .bl (!b) ∧ Q v H') X.xe (.ok fl) s'
      | .again c' => c'.quiet = true ∧ codeAny (model X.prog X.w) X.A c' (wants (EP X pins σ fun v H' => v = .bl (!b) ∧ Q v H') X.xe) s') X.xe s := by
      refine objNe_entry (sb.in1.room.units0) Xi J hs hf (wpAny_mono (call_sub Fn sb.in1 hb I (.cons (show RelV (.ref a) (.ref a) from rfl) (.cons (show RelV (.ref a') (.ref a') from rfl) .nil)) sp) (fun r s' z => ?_) fun _ _ z => z)
      obtain ⟨w, H', I', rw_, ⟨e, sm⟩⟩ := z
      subst e
      cases rw_
      exact ⟨b, rfl, .bl (!b), H', I', rfl, rfl, q H' sm⟩
    have one : wpAny (model X.prog X.w) X.A (tryCompare (.ref a) "__ne__" (.ref a')) (fun r s' => ∃ v, r = some v ∧ EP X pins σ Q v s') X.xe s := by
      unfold tryCompare
      refine wpAny_bind (ifBound_objNe Xi J hn (wpAny_mono (wpAny_call (codeAny_call_builtin PySem.F.cmp_object.ne.plain PySem.F.cmpEntry_ne (PySem.W.check_slot PySem.F.cmpKind_ne PySem.F.cmpSplit_ne (J.type.andThen (PySem.W.looks_mroIn Xi hm)) (PySem.F.cmpArgs_ne _ _) body))) (fun v s' hv => ?_) fun _ _ e => e))
      obtain ⟨z, H', I', rz, e, hq⟩ := id hv
      subst e
      cases rz
      exact wpAny_pure ⟨_, rfl, ⟨.bl (!b), H', I', rfl, hq⟩⟩
    show wpAny (model X.prog X.w) X.A (richCompare .NotEq (.ref a) (.ref a')) (EP X pins σ Q) X.xe s
    unfold richCompare
    simp only [oneThing_ref]
    refine wpAny_holding (wpAny_bind (wpAny_cRoomFor hr.units0 ?_))
    rw [cmpInfo_NotEq]
    refine wpAny_bind (J.type.here (wpAny_bind (J'.type.here ?_)))
    split
    · rename_i q
      exact absurd q (by simp)
    · refine wpAny_bind
                                                                                                              (wpAny_pure ?_)
      simp only [Bool.false_eq_true,
                                                                                                              if_false]
      refine wpAny_bind (wpAny_mono one
                                                                                                              (fun r s' z => ?_) fun _ _ e => e)
      obtain ⟨v, rfl, hq⟩ := z
      exact wpAny_pure hq
  · intro H G x y dx dy dz Q g tx ty hg q
    obtain ⟨b, hb1, rfl⟩ := Option.map_eq_some_iff.mp hg
    obtain ⟨a, a', dd, dd', fs, fs', rfl, rfl, ha, ha', sp⟩ := askEq_ok g tx ty hb1
    exact ⟨b, a, a', dd, dd', fs, fs', rfl, rfl, ha, ha', sp, fun H' sm => q _ H' G (.grow .refl sm) .bl⟩
end
end DL

namespace DL
open PySem L2 PySem.Spec PyProof.Rows
section
variable {prog : Program} {w : World} {A :
                                                                                                              Around} {E : Value → Shared → Prop} {s : Shared}
theorem set_lst {l : Addr} {items : Array Value} {xs : List Str} {Q : Value → Shared → Prop} (hh : A.handled = none) (hl : s.heap.IsList l items) (hi : PyProof.Rows.StrsAre items.toList xs) (room : xs.length + 1 < scanBound)
    (h : ∀ (h' : Heap) (tk : Nat), Holds prog w h' s.heap.objs.size xs xs.length → (∀ b o, b < s.heap.objs.size → s.heap.get? b = some o → h'.get? b = some o) → Q (.ref s.heap.objs.size) { s with heap := h', toks := tk }) :
    wpAny (model prog w) A (call (.type
                                                                                                              "set") [.ref l]) Q E s := by
  obtain ⟨c, tl, mro⟩ := PySem.F.called_set.mro
  have made := PySem.F.called_set.made
  have sub := PySem.F.called_set.sub
  refine wpAny_call
                                                                                                              (codeAny_of_tree ?_)
  show wpAny _ _ (callAny
                                                                                                              (.type "set") _) _ _ _
  refine wpAny_pure ⟨Code.quiet_builtin _ (by decide
                                                                                                              +kernel), codeAny_builtin PySem.F.entry_type_call ?_⟩
  rw [Around.under_plain (weight_type_call_type
                                                                                                              "set" [.ref l] []) rfl]
  have nt := PySem.F.called_set.notType
  have cc := PySem.F.called_set.canCreate
  have tc := PySem.F.typeCall_set_1 (.ref l)
  repeat (any_goals (first
                                                                                                              | assumption | wp_step))
  refine codeAny_mono (code_set_new_1 (.ref l) (E := E) (Q₁ := fun v s₁ => ∃ led : Bool, v = .ref s.heap.objs.size ∧ s₁ = { s with heap := s.heap.push (so led) }) fun led => ⟨led, rfl, rfl⟩) fun r s₁ hr => ?_
  cases r with
  | error e => exact hr
  | ok fl =>
    cases fl with
    | ret v =>
      obtain ⟨led, rfl, rfl⟩ := hr
      have hS : (s.heap.push (so led)).get? s.heap.objs.size = some (so led) := Heap.get?_push_size _ rfl
      have hT : Shared.TypeIs { s with heap := s.heap.push (so led) } (.ref s.heap.objs.size) "set" := ⟨_, hS, rfl⟩
      have li := PySem.F.called_set.init.lookup
      have bi := PySem.F.called_set.init.bind (.ref s.heap.objs.size)
      repeat (any_goals (first
                                                                                                              | assumption | wp_step))
      refine codeAny_mono (codeAny_call_builtin (R := wants (fun r s₂ => r = .none ∧ ∃ h' tk, s₂ = { s with heap := h', toks := tk } ∧ Holds prog w h' s.heap.objs.size xs xs.length ∧ (∀ b o, b < s.heap.objs.size → s.heap.get? b = some o → h'.get? b = some o)) E) PySem.F.called_set.init.plain PySem.F.entry_set_init (check_set_init_1 hT ?_)) fun r₂ s₂ hr₂ => ?_
      · obtain ⟨ol, hol,
                                                                                                              hcl, nl, hdl⟩ := hl
        obtain ⟨ocls, odict,
                                                                                                              odata, oslots⟩ := ol
        simp only at hcl hdl
        subst hcl; subst hdl
        have hol1 : (s.heap.push (so led)).get? l = some { cls := .type "list", dict := odict, data := .seq items nl, slots := oslots } := Heap.get?_push_of_some _ hol
        have s1 := PySem.F.sub_list_set
        have s2 := PySem.F.sub_list_frozenset
        have nd : (Value.type "list" == Value.type "dict") = false := by decide
        have hl1 : (s.heap.push (so led)).IsList l items := ⟨_, hol1, rfl, nl, rfl⟩
        unfold Builtin.«set.__init__»
                                                                                                              noKeywords Builtin.Frozenset.updateFrom
        generalize hPI : pyIter = PI
        wp_walk
        subst hPI
        refine wpAny_pyIter_list
                                                                                                              hl1 ?_
        refine wpAny_bind
                                                                                                              (wpAny_runValue ?_)
        have lt : l < s.heap.objs.size := Heap.lt_size hol
        have h3 : A.in1.in1.in1.handled = none := by simp [hh]
        have ne : l ≠ (s.heap.push (so led)).objs.size := by rw [Heap.size_push]; exact Nat.ne_of_lt (Nat.lt_succ_of_lt lt)
        have out : s.heap.objs.size ∉ [(s.heap.push (so led)).objs.size, l] := by
          rw [Heap.size_push]
          intro z
          rcases List.mem_cons.mp
                                                                                                              z with z | z
          · exact Nat.ne_of_lt (Nat.lt_succ_self _) z
          · exact Nat.ne_of_gt lt (List.mem_singleton.mp z)
        have sz : xs.length = items.size := by rw [← StrsAre.len_eq hi, Array.length_toList]
        refine laid_all ((Walks.list h3 _ l ne items).toS) s.heap.objs.size out xs sz (by omega) (fun i v hv => SS.strs_at hi i v (by rw [Array.getElem?_toList]; exact hv)) items.size 0 _ (Nat.zero_add _) ⟨⟨_, Heap.get?_push_size _ rfl, rfl, rfl⟩, (hl1.push _)⟩ ?new ?fin
        case new =>
          exact PyProof.Rows.SetOf_congr ((PyProof.Rows.setObjOf_fresh (knd := PySem.strKind prog w) led).setOf (Heap.get?_push_of_some _ hS) (by unfold scanBound; omega)) (fun _ => rfl) rfl
        case fin =>
          intro s' mv hS'
          obtain ⟨h', g', d',
                                                                                                              tk', os'⟩ := s'
          obtain rfl : g' = s.gens := mv.gens
          obtain rfl : d' = s.drawn := mv.drawn
          obtain rfl : os' = s.os := mv.os
          refine wpAny_pure (wpAny_pure ⟨rfl, h', tk', rfl, by rw [sz]; exact hS', fun b o hb e => mv.heap b o (fun z => ?_) (Heap.get?_push_of_some _ (Heap.get?_push_of_some _ e))⟩)
          rcases List.mem_cons.mp
                                                                                                              z with z | z
          · exact Nat.ne_of_lt hb z
          · rw [List.mem_singleton, Heap.size_push] at z
            exact Nat.ne_of_lt (Nat.lt_succ_of_lt hb) z
      · cases r₂ with
        | error e => exact hr₂
        | ok fl₂ =>
          cases fl₂ with
          | ret r =>
            obtain ⟨rfl, h', tk, rfl, hS', keep⟩ := hr₂
            repeat (any_goals (first
                                                                                                              | assumption | wp_step))
            exact h _ _ hS' keep
          | _ => exact hr₂.elim
    | _ => exact hr.elim
end
end DL

namespace DL
open PySem L2 PySem.Spec PyProof.Rows
/-- how many unlike texts a tuple or a list has -/
def lenSet2D : List D → Option D
  | [.lst l] => (strsD l).bind fun xs => if xs.length ≤ 1000 then some (.int (nub xs).length) else none
  | xs => lenSetD xs
section
variable {X : Cx}
theorem set_any {pins : List (Addr × Obj)} {s : Shared} {σ : L2.St} {H : Hp} {l : Addr} {ys : List Str} {Q : Value → Shared → Prop} (hc : X.calm = true) (I : Inv X pins σ H s) (hq : SqT X.K H l (ys.map V.str) ∨ SqL X.K H l (ys.map V.str)) (h1 : ys.length ≤ 1000)
    (h : ∀ (h' : Heap) (tk : Nat), Holds X.prog X.w h' s.heap.objs.size ys ys.length → (∀ b o, b < s.heap.objs.size → s.heap.get? b = some o → h'.get? b = some o) → Q (.ref s.heap.objs.size) { s with heap := h', toks := tk }) :
    wpAny (model X.prog X.w) X.A (call (.type "set") [.ref l]) Q X.xe s := by
  rcases hq with hq | hq
  · obtain ⟨its, r, pl,
                                                                                                              hz⟩ := I.tuple hq
    exact set_tup (xs := ys) (I.ok.hd hc) pl (by simpa using strsAre_of r) (by unfold scanBound; omega) h
  · obtain ⟨its, r,
                                                                                                              pl, hz⟩ := I.list hq
    exact set_lst (xs := ys) (I.ok.hd hc) pl.isList (by simpa using strsAre_of r) (by unfold scanBound; omega) h
end
section
variable {X : Cx} {cl : Str → Addr} {F : Fra} {W : WX}
theorem pe_lenSet2 {a : Expr} {t : TA} {p p2 q pos : Pos} (hc : X.calm = true) (hg : Gl X "len") (hm : X.mg "len" = none) (hg2 : Gl X "set") (hm2 : X.mg "set" = none) (hv : bootBuiltins "len" = some (.builtin "len")) (hv2 : bootBuiltins "set" = some (.type "set")) (ha : PA X [a] t)
    (na : starEach [a] X.env = (false, eval a X.env) :: starEach [] X.env := by rfl) :
    PE X (.Call (.Name "len" p) [.Call (.Name "set" p2) [a] [] q] [] pos) (tCB (fun xs H Q => ∃ l, ∃ ys : List Str, xs = [V.ref l] ∧ (SqT X.K H l (ys.map V.str) ∨ SqL X.K H l (ys.map V.str)) ∧ ys.length ≤ 1000 ∧ Q (.int (nub ys).length) H) t) := by
  refine ⟨fun pins s
                                                                                                              σ H Q I h => ?_⟩
  refine wpAny_Call_Name_kw
                                                                                                              (ld_blt I hg hm hv ?_)
  refine PyProof.Rows.callWith_builtin1
                                                                                                              (PyProof.Rows.args_cons ?_ rfl) rfl rfl
  refine wpAny_Call_Name_kw (ld_blt I hg2 hm2 hv2 ?_)
  refine PyProof.Rows.callWith_type1 (thn (ha.run q pins s σ H _ I h) fun us s1 ⟨vs, H1, I1, r1, q1⟩ => ?_) na rfl
  obtain ⟨l, ys, rfl, hq, h1, q2⟩ := q1
  rw [Vals.ref1 r1]
  refine set_any hc I1 hq h1 fun h' tk hS keep => ?_
  refine PyProof.Rows.args_nil
                                                                                                              ?_
  obtain ⟨o, es, ep, tb, ho, ex, hd, _, _, _, hf, hn⟩ := hS
  have I2 : Inv X pins σ H1 { s1 with heap := h', toks := tk } := I1.kept fun b o e => keep b o (Heap.lt_size e) e
  have e1 : (nub (ys.take ys.length)).length = (nub ys).length := by rw [List.take_length]
  have few := nub_le _ ys rfl
  exact call_len_set ho ex hd hf (by rw [hn, e1]; omega) ⟨.int (nub ys).length, H1, I2.tok _, ⟨_, by rw [hn, e1]⟩, q2⟩
theorem re_lenSet2 {a : Expr} {fs : M (List R)} {p p2 q pos : Pos} (hc : X.calm = true) (hg : Gl X "len") (hm : X.mg "len" = none) (hg2 : Gl X "set") (hm2 : X.mg "set" = none) (hv : bootBuiltins "len" = some (.builtin "len")) (hv2 : bootBuiltins "set" = some (.type "set")) (ha : RA X cl F W [a] fs)
    (na : starEach [a] X.env = (false, eval a X.env) :: starEach [] X.env := by rfl) : RE X cl F W (.Call (.Name "len" p) [.Call (.Name "set" p2) [a] [] q] [] pos) (cCB lenSet2D fs) := by
  refine ⟨PE.imp (pe_lenSet2 hc hg hm hg2 hm2 hv hv2 ha.pa na) fun σ H Q h => tCB_D (f := .none) (fun H G xs ds dz Q gh t e k => ?_) h⟩
  unfold lenSet2D lenSetD at e
  split at e
  · rename_i l
    obtain ⟨ys, hy, e⟩ := Option.bind_eq_some_iff.mp e
    split at e
    · rename_i h1
      cases e
      obtain ⟨v, rfl, tv⟩ := topL1 t
      obtain ⟨a, vs, rfl, h2, r⟩ := tv.lst gh
      refine ⟨a, ys, rfl, .inr (.inl (Rd.of ?_)), h1, k _ H G .refl .int⟩
      rw [← repL_strs hy r]
      exact h2
    · cases e
  · split at e
    · rename_i l
      obtain ⟨ys, hy, e⟩ := Option.bind_eq_some_iff.mp e
      split at e
      · rename_i h1
        cases e
        obtain ⟨v, rfl, tv⟩ := topL1 t
        obtain ⟨a, vs, rfl, h2, r⟩ := tv.tup gh
        refine ⟨a, ys, rfl, .inl ?_, h1, k _ H G .refl .int⟩
        rw [← repL_strs hy r]
        exact h2
      · cases e
    · cases e
end
end DL

namespace DL
open PySem L2 PySem.Spec PyProof.Rows
/-! ### the signs of a text as a tuple -/
section
variable {prog : Program} {w : World} {A :
                                                                                                              Around} {E : Value → Shared → Prop} {s : Shared}
theorem code_tuple_new_str {Q₁ : Value → Shared → Prop} (hh : A.handled = none) (x : Str) (t : Tok) (hn : x.cps.size ≤ 1000)
    (h : ∀ (h' : Heap) (tk : Nat) (acc : Array Value), (∀ b o, s.heap.get? b = some o → h'.get? b = some o) → ItemsOf (SignAt x) acc x.cps.size → Q₁ (.ref h'.objs.size) { s with heap := h'.push { cls := .type "tuple", data := .seq acc }, toks := tk }) :
    codeAny (model prog w) A (.call (.builtin "tuple.__new__") ⟨[.type "tuple", .str x t], []⟩) (wants Q₁ E) s := by
  refine codeAny_of_tree ?_
  show wpAny _ A.in1 (do checkBuiltinCall "tuple.__new__" ⟨[.type "tuple", .str x t], []⟩; again (.builtin "tuple.__new__" ⟨[.type "tuple", .str x t], []⟩)) _ _ s
  refine wpAny_bind (wpAny_of_eq (PySem.F.newCall_tuple_1 _) (wpAny_pure ⟨plainId_quiet PySem.F.plain_tuple_new _, codeAny_builtin PySem.F.entry_tuple_new ?_⟩))
  rw [Around.under_plainId PySem.F.plain_tuple_new _]
  have hsub := sub_tuple_self
  have hinit :=
                                                                                                              init_tuple_lookup
  have hmh := madeHere_tuple
  have hTI : s.TypeIs (.str x t) "str" := rfl
  have hh1 : A.in1.handled
                                                                                                              = none := hh
  have hz : x.cps.size ≤ sizeLine := Nat.le_trans hn (by rw [sizeLine_eq]; decide)
  wp_walk using wpAny_typeOf hTI, wpAny_collect_str (A := A.in1) hh1 x t
  all_goals first | exact hz | skip
  intro s' acc hk hg hd ho hacc
  obtain ⟨h', g', d', tk, os'⟩ := s'
  simp only at hg hd ho
  subst hg; subst hd; subst ho
  show wpAny _ _ (Builtin.Tuple.tupleExact
                                                                                                              acc.toList.toArray >>= fun v => ret v) _ _ _
  unfold
                                                                                                              Builtin.Tuple.tupleExact
  refine wpAny_bind (wpAny_newObj_type ?_ (by show acc.toList.toArray.size ≤ sizeLine; simp only [Array.toArray_toList]; rw [hacc.1]; exact hz))
  refine wpAny_pure ?_
  have e : acc.toList.toArray = acc :=
                                                                                                              by simp
  rw [e]
  exact h h' tk acc hk hacc
theorem call_tuple_str {Q : Value → Shared → Prop} (hh : A.handled = none) (x : Str) (t : Tok) (hn : x.cps.size ≤ 1000)
    (hQ : ∀ (h' : Heap) (tk : Nat) (acc : Array Value), (∀ b o, s.heap.get? b = some o → h'.get? b = some o) → ItemsOf (SignAt x) acc x.cps.size → Q (.ref h'.objs.size) { s with heap := h'.push { cls := .type "tuple", data := .seq acc }, toks := tk }) :
    wpAny (model prog w) A (call (.type
                                                                                                              "tuple") [.str x t]) Q E s := by
  refine callType_codes (Q₁ := fun obj s₁ => s₁.TypeIs obj "tuple" ∧ Q obj s₁) PySem.F.called_tuple (PySem.F.typeCall_tuple_1 _) PySem.F.entry_object_init
    (code_tuple_new_str (A := A.in1) hh x t hn fun h' tk acc hk hacc => ⟨⟨_, Heap.get?_push_size _ rfl, rfl⟩, hQ h' tk acc hk hacc⟩) fun obj s₁ h₁ => ?_
  exact ⟨h₁.1, PySem.F.args_object_init_2 obj _, object_init_meets PySem.F.called_tuple.init.lookup PySem.F.called_tuple.made (by decide) prog w A.in1 _ s₁ ⟨h₁.1, rfl, h₁.2⟩⟩
end
theorem paired_ix {α β : Type} {F : α → β → Prop} : ∀ {l : List α} {m : List β}, l.length = m.length → (∀ (i : Nat) x y, l[i]? = some x → m[i]? = some y → F x y) → Paired F l m
  | [], [], _, _ => .nil
  | a :: l, b :: m, h, k => .cons (k 0 a b rfl rfl) (paired_ix (by simpa using h) fun i x y h1 h2 => k (i + 1) x y (by simpa using h1) (by simpa using h2))
def signs (x : Str) : List Str := x.cps.toList.map fun c => ⟨#[c]⟩
def tupleSD : List D → Option D
  | [.str x] => if x.cps.size ≤ 1000 then some (.tup ((signs x).map D.str)) else none
  | _ => none
section
variable {X : Cx} {cl : Str → Addr}
theorem call_tupleS (hc : X.calm = true) : CallR X (.type "tuple") fun xs H Q => ∃ x, xs = [.str x] ∧ x.cps.size ≤ 1000 ∧ ∀ l, H l = none → Q (.ref l) (upd H l (.tup ((signs x).map V.str))) := by
  intro pins s σ
                                                                                                              H xs us Q I r h
  obtain ⟨x, rfl, hn, q⟩ := h
  cases r with
  | cons r1 r2 =>
    cases r2
    obtain ⟨t, rfl⟩ := r1
    refine call_tuple_str (I.ok.hd hc) x t hn fun h' tk acc hk hacc => ?_
    have I1 : Inv X pins σ H { s with
                                                                                                              heap := h', toks := tk } := I.kept hk
    have sz : ((signs x).map V.str).length = acc.toList.length := by
      unfold signs
      rw [List.length_map, List.length_map, Array.length_toList, Array.length_toList, hacc.1]
    have rv : Vals ((signs x).map V.str) acc.toList := paired_ix sz fun i v u h1 h2 => by
      rw [Array.getElem?_toList] at h2
      obtain ⟨c, t', e1, rfl⟩ := hacc.2 i u h2
      unfold signs at h1
      rw [List.map_map, List.getElem?_map, Array.getElem?_toList, e1] at h1
      cases h1
      exact ⟨t', rfl⟩
    have hz : ((signs x).map V.str).length ≤ sizeLine := by
      rw [sz, Array.length_toList, hacc.1]
      exact Nat.le_trans hn (by rw [sizeLine_eq]; decide)
    have ea : acc = acc.toList.toArray := by simp
    have I2 : Inv X pins σ (upd H h'.objs.size (.tup ((signs x).map V.str))) { s with heap := h'.push { cls := .type "tuple", data := .seq acc }, toks := tk } :=
      I1.laid (fun b o e => Heap.get?_push_of_some _ e) (Nat.le_refl _) (show ObjOk X.prog X.w _ _ _ (.tup ((signs x).map V.str)) from ⟨hz, acc.toList, rv, by rw [← ea]; exact IsTup.new _ _⟩)
    exact ⟨.ref h'.objs.size, _, I2, rfl,
                                                                                                              q _ (I1.hok.fresh (Nat.le_refl _))⟩
theorem repL_str {K : PySem.W.Frag} {G : Hp} : ∀ l : List Str, RepL K cl G (l.map D.str) (l.map V.str)
  | [] => .nil
  | _ :: l => .cons .str (repL_str l)
theorem cd_tupleS (hc : X.calm = true) : CallD X cl (.type "tuple") tupleSD := by
  refine ⟨_, call_tupleS hc, fun H G xs ds dz Q gh t e k => ?_⟩
  unfold tupleSD at e
  split at e
  · rename_i x
    split at e
    · rename_i hn
      cases e
      obtain ⟨v, rfl, tv⟩ := topL1 t
      obtain rfl := tv.str
      exact ⟨x, rfl, hn, fun p hp => k _ _ _ (.lay .refl hp) (.tup (SqT.of upd_same) (repL_str _))⟩
    · cases e
  · cases e
end
end DL

namespace DL
open PySem L2 PySem.Spec PyProof.Rows
/-! ### dict(d): a dict of one's own -/
section
variable {X : Cx} {cl : Str → Addr} {F : Fra} {W : WX}
def fDictO (a : Option D) (e : Env) : Out D := match a with
  | some (.dct ks l) => .ok (.dct ks l) e
  | _ => .bad
def fDict (fs : M (List R)) : M D := fun e => (fs e).bnd fun rs e1 => match rs with
  | [r] => fDictO (e1.rd r) e1
  | _ => .bad
theorem rf_dict {x : Str} {p pos : Pos} {a : Expr} {es : List Expr} {fs : M (List R)} (hg : Gl X x) (hm : X.mg x = none) (hv : bootBuiltins x = some (.type "dict")) (ha : RA X cl F W (a :: es) fs)
    (hn : x ≠ "__name__" := by decide) (hdb : (x == ("__debug__" : Str)) = false := by decide) (he : starEach (a :: es) X.env = (false, eval a X.env) :: starEach es X.env := by rfl) (hpl : (backTo pos (starEach es X.env)).any (·.1) = false := by rfl) :
    RF X cl F W (.Call (.Name x p) (a :: es) [] pos) (fDict fs) := by
  refine ⟨PE.imp (pe_callTy call_dictD hg hm hv ha.pa hn hdb he hpl) fun σ H Q ⟨e, G, st, q⟩ => tA_then st q fun rs e1 vs H1 G1 s1 k1 r1 z => ?_⟩
  match rs, r1, z with
  | [], _, z => exact z.elim
  | _ :: _ :: _, _, z => exact z.elim
  | [r], .cons (v := v) rr .nil, z =>
    cases hd : e1.rd r with
    | none => simp only [fDictO, hd] at z; exact z.elim
    | some d =>
      simp only [fDictO, hd] at z
      have t := s1.top rr hd
      cases d with
      | dct ks l =>
        obtain ⟨p1, u1, rfl, h1, hl, q1⟩ := t.dct s1.ret.gh
        refine ⟨p1, _, rfl, h1, fun p hp => ?_⟩
        obtain ⟨a1, a2, a3, a4, a5, a6⟩ := s1.new (o := .dK (ks.zip u1)) k1 hp
        exact z p _ G1 a1 a2 ⟨u1, upd_same, hl, q1⟩ a3 a4 a5 a6
      | _ => exact z.elim
/-! ### a call without arguments -/
section
variable {k : Nat} {f : Addr} {fd : FuncData} {ps : List Str} {Φ : Fn} {x : Str} {p pos : Pos}
theorem re_call0 (Fn : FnOk X.prog X.w X.K X.mg X.base (L2N.CX X.prog X.w) k f fd ps (spD X.K cl Φ)) (hr : Room k X.A) (tk : L2N.Takes X W) (hg : Gl X x) (hm : X.mg x = some (.ref f)) (hk : PySem.W.keepIn X.K (.ref f) = true) (hb : Binds X.K fd ps [])
    (hdb : (x == ("__debug__" : Str)) = false := by decide) : RE X cl F W (.Call (.Name x p) [] [] pos) (cCall Φ cNil) := by
  refine ⟨⟨fun pins s σ H Q I h => ?_⟩⟩
  obtain ⟨e, G, st, q⟩ := call_D h
  have h2 := q [] H G st .refl .nil
  refine wpAny_Call_Name_kw
                                                                                                              (ld_glob I hg hm ?_ hdb)
  exact PySem.W.callWith_K0 I.kIn hk (run_fnS (E := fun σ c d H => W c d σ H) (us := []) Fn hr hb (passN tk σ) I .nil h2)
end
end
end DL

namespace DL
open PySem L2 PySem.Spec PyProof.Rows
section
variable {X : Cx} {cl : Str → Addr} {F : Fra} {W : WX}
/-! ### divmod -/
def divmodD : List D → Option D
  | [.int i, .int j] => if 0 < j ∧ j < 1073741824 then some (.tup [.int (i / j), .int (i % j)]) else none
  | _ => none
theorem cd_divmod : CallD X cl (.builtin "divmod") divmodD := by
  refine ⟨_, call_divmod, fun H G xs ds dz Q gh t e k => ?_⟩
  unfold divmodD at e
  split at e
  · rename_i i j
    split at e
    · rename_i hc
      cases e
      obtain ⟨v, w, rfl, tv, tw⟩ := topL2 t
      obtain rfl := tv.int
      obtain rfl := tw.int
      exact ⟨i, j, rfl, hc, fun p hp => k _ _ _ (.lay .refl hp) (.tup (SqT.of upd_same) (.cons .int (.cons .int .nil)))⟩
    · cases e
  · cases e
/-! ### a text some times over -/
def mulSD (x : Str) (n : Int) : Option D := if 2 ≤ n ∧ n ≤ 1000 ∧ x.length ≤ 1000 then some (.str (Txt.mul x n)) else none
theorem mul_fits {x : Str} {n : Int} (h : 2 ≤ n ∧ n ≤ 1000 ∧ x.length ≤ 1000) : MulOk x n := by
  obtain ⟨h1, h2, h3⟩ := h
  have e : x.length * n.toNat ≤ 1000 * 1000 := Nat.mul_le_mul h3 (by omega)
  refine ⟨by simp; omega, fun _ _ => ?_, fun _ _ => ?_⟩
  · have : (1000 : Int) ≤ (2 ^ 63 - 1) / n := (Int.le_ediv_iff_mul_le (by omega)).mpr (by omega)
    omega
  · show decide (x.length * n.toNat > sizeLine) = false
    rw [sizeLine_eq]
    exact decide_eq_false
                                                                                                              (by omega)
theorem op_mulS : OpR X (binaryOp .Mult) (fun x y H Q => ∃ a n, x = .str a ∧ y = .int n ∧ MulOk a n ∧ Q (.str (Txt.mul a n)) H) := by
  intro pins s σ H x
                                                                                                              y v u Q I rx ry h
  obtain ⟨a, n, rfl, rfl, hz, q⟩ := h
  obtain ⟨t, rfl⟩ := rx
  obtain ⟨t', rfl⟩ := ry
  exact SB.mul hz (fun t' tk => ⟨.str (Txt.mul a n), H, I.tok _, ⟨_, rfl⟩, q⟩)
def mul2D (a b : D) : Option D := match a, b with
  | .str x, .int n => mulSD x n
  | _, _ => mulD a b
theorem od_mul2 : OpD X cl (binaryOp .Mult) mul2D := by
  obtain ⟨r, h1, h2⟩ := od_mul (X := X) (cl := cl)
  refine ⟨_, h1.or op_mulS, fun H G x y dx dy dz Q gh tx ty e k => ?_⟩
  unfold mul2D at e
  split at e
  · rename_i a n
    unfold mulSD at e
    split at e
    · rename_i hc
      cases e
      exact .inr ⟨a, n, tx.str, ty.int, mul_fits hc, k _ H G .refl .str⟩
    · cases e
  · exact .inl (h2 H G x y dx dy dz Q gh tx ty e k)
/-! ### x[k], y = e -/
def asg2O (i j : Nat) (fk : M R) (o : Option (D × Env)) : Out Fl := match o with
  | some (.tup [d0, d1], e2) => if isLst (e2.rd (.whole i)) then (fk e2).bnd fun rk e3 => match setK i d0 rk e3 with
      | .ok .nx e4 => .ok .nx (e4.setS j (.dat d1))
      | _ => .bad
    else .bad
  | _ => .bad
def sAsg2 (i j : Nat) (fk f : M R) : M Fl := fun e => (f e).bnd fun r e1 => asg2O i j fk (e1.frz r)
theorem rs_asg2 (i j : Nat) {x y : Str} {a b : Expr} {fk f : M R} {p py pos pos' pt : Pos} {ctx : Nat} (hc : X.calm = true) (hNd : X.N.Nodup) (hk : RE X cl F W a fk) (hv : RE X cl F W b f) (hN : X.N[i]? = some x := by rfl) (hvis : Vis X.env.scope x := by first | exact Or.inl rfl | exact Or.inr (Or.inl rfl) | exact Or.inr (Or.inr rfl)) (hd : (x == ("__debug__" : Str)) = false := by decide)
    (hcd : (x == ("__classdict__" : Str)) = false := by decide)
    (hj : X.N[j]? = some y := by rfl) (hy : Loc X.env.scope y := by first | exact Or.inl rfl | exact Or.inr rfl) (hf : X.fn y = true ∨ X.env.scope.names.lookup y = some .local := by first | exact .inl rfl | exact .inr rfl)
    (ha : ∀ v, assign (.Subscript (.Name x p) a pos') X.env v = (do
      let ov ← holding [v] (eval (.Name x p) X.env)
      let iv ← holding [v, ov] (eval a X.env)
      standAt pos'
      holding [v, ov, iv]
                                                                                                              (setItem ov iv v)
      release [v, ov, iv] []) := by intro _; rfl)
    (hn : (assignEach [.Subscript (.Name x p) a pos', .Name y py] X.env).length = 2 := by rfl) (hst : (assignEach [.Subscript (.Name x p) a pos', .Name y py] X.env).findIdx? (·.1) = none := by rfl)
    (hs1 : (assignEach [.Subscript (.Name x p) a pos', .Name y py] X.env).map (·.2) = assign (.Subscript (.Name x p) a pos') X.env :: (assignEach [.Name y py] X.env).map (·.2) := by rfl)
    (hs2 : (assignEach [.Name y py] X.env).map (·.2) = assign (.Name y py) X.env :: (assignEach [] X.env).map (·.2) := by rfl)
    (hs : swapsWithSole [.Tuple [.Subscript (.Name x p) a pos', .Name y py] ctx pt] b pos.line X.env = pure false := by rfl) (hw : swappedStores [.Tuple [.Subscript (.Name x p) a pos', .Name y py] ctx pt] b X.env = pure none := by rfl)
    (h1 : (assignEach [.Tuple [.Subscript (.Name x p) a pos', .Name y py] ctx pt] X.env).map (·.2) = [assign (.Tuple [.Subscript (.Name x p) a pos', .Name y py] ctx pt) X.env] := by rfl) :
    RS X cl F W (.Assign [.Tuple [.Subscript (.Name x p) a pos', .Name y py] ctx pt] b pos) (sAsg2 i j fk f) := by
  refine ⟨PS.imp (ps_asg hv.pe (pg_tup hc (pgs_cons (pg_sub (pe_var hN hvis hd hcd) hk.pe set_list ha) (pgs_cons (pg_name hNd hj hy hf) pgs_nil hs2) hs1) hn hst) hs hw h1) fun D σ H ⟨e, G, st, q⟩ => tD_st st q fun r e1 v H1 G1 s1 k1 r1 z => ?_⟩
  cases yy : e1.frz r with
  | none => rw [yy] at z; exact z.elim
  | some pp =>
    obtain ⟨dv, e2⟩ := pp
    rw [yy] at z
    obtain ⟨G2, s2, k2, r2⟩ := frz_ok s1 r1 yy
    unfold asg2O at z
    split at z
    · rename_i d0 d1 e2' heq
      cases heq
      split at z
      · rename_i hl
        cases h0 : e2.rd (.whole i) with
        | none => rw [h0] at hl; cases hl
        | some dd =>
          obtain ⟨a0, hs0, o0⟩ := s2.ref_at h0
          cases r2 with
          | tup hq rr =>
            cases rr with
            | cons ra rr =>
              cases rr with
              | cons rb rr =>
                cases rr with
                | nil =>
                  refine ⟨_, _, rfl, SqT.same s2.ret.gh hq, rfl, _, _, rfl, _, hs0, ?_⟩
                  refine tD_st s2 (z.mono k2.gg) fun rk e3 vk H3 G3 s3 k3 r3 z => ?_
                  cases rk with
                  | whole j' => exact z.elim
                  | val dk =>
                    cases dk with
                    | int k =>
                      cases r3
                      simp only [setK, setO] at z
                      cases h3 : e3.rd (.whole i) with
                      | none => rw [h3] at z; exact z.elim
                      | some d3 =>
                        rw [h3] at z
                        cases d3 with
                        | lst l =>
                          simp only at z
                          obtain ⟨a3, hs3, us, hu, ru⟩ := s3.ref_at h3
                          rw [hs0] at hs3; cases hs3
                          cases hjx : ixN l.length k with
                          | none => simp only [hjx] at z; exact z.elim
                          | some jx =>
                            simp only [hjx] at z
                            cases hp : e3.put i (.lst (l.set jx d0)) with
                            | none => rw [hp] at z; exact z.elim
                            | some e4 =>
                              rw [hp] at z
                              have r4 := (ra.mono k3.gg)
                              have r5 := (rb.mono k3.gg)
                              obtain ⟨s4, k4⟩ := s3.put (o := .lst (us.set jx _)) hs0 h3 hp fun H' h => ⟨us.set jx _, h, RepL.set r4 jx ru⟩
                              refine ⟨a0, us, k, jx, rfl, rfl, hu, by rw [← ru.length]; exact hjx, ?_⟩
                              refine ⟨_, _, rfl, ?_⟩
                              have s5 := s4.set (i := j) r5
                              exact ⟨rfl, z _ _ _ s5 (.refl _)⟩
                        | _ => exact z.elim
                    | _ => exact z.elim
      · exact z.elim
    · exact z.elim
/-! ### xs.insert(k, e) -/
def insO (i : Nat) (k : Int) (d : D) (e : Env) : Out R := match e.rd (.whole i) with
  | some (.lst l) => if l.length < sizeLine ∧ 0 ≤ k ∧ k < 2 ^ 63 then outE (e.put i (.lst (l.take k.toNat ++ [d] ++ l.drop k.toNat))) fun e3 => .ok (.val .non) e3 else .bad
  | _ => .bad
def cIns (i : Nat) (fk fv : M R) : M R := fun e => if isLst (e.rd (.whole i)) then (fk e).bnd fun rk e1 => (fv e1).bnd fun r e2 => match rk, e2.frz r with
    | .val (.int k), some (d, e3) => insO i k d e3
    | _, _ => .bad
  else .bad
theorem re_ins (i : Nat) {x : Str} {a b : Expr} {fk fv : M R} {p apos cpos : Pos} (hk : RE X cl F W a fk) (h : RE X cl F W b fv) (hN : X.N[i]? = some x := by rfl) (hv : Vis X.env.scope x := by first | exact Or.inl rfl | exact Or.inr (Or.inl rfl) | exact Or.inr (Or.inr rfl)) (hd : (x == ("__debug__" : Str)) = false := by decide)
    (hcd : (x == ("__classdict__" : Str)) = false := by decide)
    (hbase : attributeBase (.Name x p) "insert" X.env (eval (.Name x p) X.env) = eval (.Name x p) X.env := by rfl)
    (hfew : ((backTo cpos (starEach [a, b] X.env)).all (fun x => !x.1) && (backToKw cpos (keywordEach [] X.env)).all (fun x => x.1.isSome)
      && decide ([a, b].length + ([] : List Keyword).length + (if ([] : List Keyword).isEmpty then 0 else 1) < 30)) = true := by rfl)
    (hline : (apos.endLine == cpos.line) = true := by rfl) (hs : starEach [a, b] X.env = (false, eval a X.env) :: starEach [b] X.env := by rfl) (hs2 : starEach [b] X.env = (false, eval b X.env) :: starEach [] X.env := by rfl) (hplain : (backTo cpos (starEach [b] X.env)).any (·.1) = false := by rfl) :
    RE X cl F W (.Call (.Attribute (.Name x p) "insert" apos) [a, b] [] cpos) (cIns i fk fv) := by
  refine ⟨PE.imp (pe_bm PySem.F.plainAttrs_list PySem.F.slot_list_insert PySem.F.type_list_insert mt_insert (pe_var hN hv hd hcd) (pa_cons hk.pe (pa_cons h.pe pa_nil hs2) hs) hbase hfew hline hs hplain) fun σ H Q ⟨e, G, st, q⟩ => ?_⟩
  unfold cIns at q
  split at q
  · rename_i hl
    cases h0 : e.rd (.whole i) with
    | none => rw [h0] at hl; cases hl
    | some d0 =>
      obtain ⟨a0, hs0, o0⟩ := st.ref_at h0
      cases d0 with
      | lst l0 =>
        obtain ⟨us0, hu0, _⟩ := o0
        refine ⟨_, hs0, .inl ⟨rfl, us0, SqL.of hu0⟩, tD_then st q fun rk e1 vk H1 G1 s1 k1 r1 z => tD_then s1 z fun r e2 v H2 G2 s2 k2 r2 z => ?_⟩
        cases rk with
        | whole j => exact z.elim
        | val dk =>
          cases dk with
          | int k =>
            cases r1
            cases y : e2.frz r with
            | none => simp only [y] at z; exact z.elim
            | some pp =>
              obtain ⟨dv, e3⟩ := pp
              simp only [y] at z
              obtain ⟨G3, s3, k3, r3⟩ := frz_ok s2 r2 y
              unfold insO at z
              cases h3 : e3.rd (.whole i) with
              | none => simp only [h3] at z; exact z.elim
              | some d3 =>
                simp only [h3] at z
                cases d3 with
                | lst l =>
                  simp only at z
                  split at z
                  · rename_i hz
                    obtain ⟨e4, hp, z⟩ := outE_ok z
                    obtain ⟨a2, hs2', us, hu, ru⟩ := s3.ref_at h3
                    rw [hs0] at hs2'; cases hs2'
                    refine ⟨a0, us, k, v, rfl, rfl, hu, by rw [← ru.length]; exact hz.1, hz.2.1, hz.2.2, ?_⟩
                    obtain ⟨s4, k4⟩ := s3.put (o := .lst (us.take k.toNat ++ [v] ++ us.drop k.toNat)) hs0 h3 hp fun H' h => ⟨us.take k.toNat ++ [v] ++ us.drop k.toNat, h, ((ru.take k.toNat).append (.cons r3 .nil)).append (ru.drop k.toNat)⟩
                    exact z _ _ _ s4 (((k1.trans k2).trans k3).trans k4) .non
                  · exact z.elim
                | _ => exact z.elim
          | _ => exact z.elim
      | _ => (rw [h0] at hl; cases hl)
  · exact q.elim
/-! ### d.get(k) -/
def get1V (r0 rk : R) (e : Env) : Out R := match (e.rd rk).bind kD, e.rd r0 with
  | some k, some (.dct ks l) => .ok (.val ((zipAt ks l k).getD .non)) e
  | _, _ => .bad
def cGet1 (fo fk : M R) : M R := fun e => (fo e).bnd fun r0 e1 => if isDct (e1.rd r0) then (fk e1).bnd fun rk e2 => get1V r0 rk e2 else .bad
theorem re_get1 {o a : Expr} {fo fk : M R} {apos pos : Pos} (hu : X.A.units + 1 < cLine) (ho : RE X cl F W o fo) (hk : RE X cl F W a fk) (m : M1 X o "get" apos a pos := by exact ⟨rfl, rfl, rfl, rfl⟩) : RE X cl F W (.Call (.Attribute o "get" apos) [a] [] pos) (cGet1 fo fk) := by
  refine ⟨PE.imp (pe_dget1 hu ho.pe hk.pe m) fun σ H Q ⟨e, G, st, q⟩ => tD_then st q fun r0 e1 x H1 G1 s1 k1 r1 z => ?_⟩
  by_cases hd : isDct (e1.rd r0) = true
  · rw [if_pos hd] at z
    cases h0 : e1.rd r0 with
    | none => rw [h0] at hd; cases hd
    | some d0 =>
      rw [h0] at hd
      cases d0 with
      | dct ks0 l0 =>
        obtain ⟨a0, vs0, rfl, ha0, _, _⟩ := (s1.top r1 h0).dct s1.ret.gh
        refine ⟨a0, rfl, .inl ⟨_, ha0⟩, tD_then s1 z fun rk e2 y H2 G2 s2 k2 r2 z => ?_⟩
        unfold get1V at z
        split at z
        · rename_i k ks l hkd h4
          obtain ⟨dk, hk1, hk2⟩ := Option.bind_eq_some_iff.mp hkd
          have ek := kD_top (s2.top r2 hk1) hk2
          obtain ⟨a4, vs, e4', ha4, hl, rr⟩ := (s2.top (r1.mono k2.gg) h4).dct s2.ret.gh
          cases e4'
          refine ⟨valV (ks.zip vs) k, by rw [ek]; exact .inl ⟨_, _, ha4, rfl, rfl⟩, z _ _ _ s2 (k1.trans k2) (rep_getD rr hl .non)⟩
        · exact z.elim
      | _ => cases hd
  · rw [if_neg hd] at z; exact z.elim
/-! ### zip of two tuples -/
def zipD : List D → Option (List D)
  | [.tup a, .tup b] => some (List.zipWith (fun x y => .tup [x, y]) a b)
  | _ => none
def cZip (fs : M (List R)) : M (List D) := fun e => (fs e).bnd fun rs e1 => match e1.frzs rs with
  | some (ds, e2) => optB (zipD ds) e2
  | none => .bad
theorem itOk_zip {K : PySem.W.Frag} {G : Hp} {a b : Addr} {ds es : List D} {vs us : List V} (h : SqT K G a vs) (r : RepL K cl G ds vs) (h2 : SqT K G b us) (r2 : RepL K cl G es us) : ItOk K cl G (RZ.ItzT K a b) (List.zipWith (fun x y => .tup [x, y]) ds es) := fun H' G' gg gh => by
  have h1 : SqT K H' a vs := SqT.same gh (SqT.same gg h)
  have h3 : SqT K H' b us := SqT.same gh (SqT.same gg h2)
  refine ⟨fun i d hd => ?_, ⟨vs, us, h1, h3, by rw [List.length_zipWith, r.length, r2.length]; omega⟩⟩
  rw [List.getElem?_zipWith] at hd
  obtain ⟨x, hx, hd⟩ : ∃ x, ds[i]? = some x ∧ _ := by
    cases hx : ds[i]? with
    | none => rw [hx] at hd; cases hd
    | some x => exact ⟨x, rfl, hx ▸ hd⟩
  cases hy : es[i]? with
  | none => rw [hy] at hd; cases hd
  | some y =>
    rw [hy] at hd
    cases hd
    obtain ⟨v, hv, rv⟩ := r.getD hx
    obtain ⟨u, hu, ru⟩ := r2.getD hy
    exact ⟨⟨vs, us, v, u, h1, h3, hv, hu⟩, fun z H2 ⟨T, p, q, e1, e2, e3, e4, e5⟩ => by
      subst e1 e3
      have f1 := e4 vs h1
      have f2 := e5 us h3
      rw [hv] at f1; cases f1
      rw [hu] at f2; cases f2
      exact ⟨_, .lay .refl e2, .tup (SqT.of upd_same) ((RepL.cons rv (.cons ru .nil)).mono (gg.trans (same_upd (gh.free e2))))⟩⟩
theorem ri_zip {e1 e2 a b : Expr} {p pos tpos : Pos} {kk : Nat} {fs : M (List R)} (hg : Gl X "zip") (hm : X.mg "zip" = none) (h : RA X cl F W [a, b] fs)
    (hs : starEach [a, b] X.env = (false, eval a X.env) :: starEach [b] X.env := by rfl) (hpl : (backTo pos (starEach [b] X.env)).any (·.1) = false := by rfl) : RI X cl F W (.Tuple [e1, e2] kk tpos) (.Call (.Name "zip" p) [a, b] [] pos) (cZip fs) := by
  refine ⟨PI.imp (RZ.pi_zipA hg hm h.pa hs hpl) fun σ H Q ⟨e, G, st, q⟩ => tA_then st q fun rs e1 vs H1 G1 s1 k1 r1 z => ?_⟩
  cases y : e1.frzs rs with
  | none => rw [y] at z; exact z.elim
  | some pp =>
    obtain ⟨ds, e3⟩ := pp
    rw [y] at z
    obtain ⟨G2, s2, k2, r2⟩ := frzs_ok s1 r1 y
    obtain ⟨es, hes, z⟩ := post_some z
    unfold zipD at hes
    split at hes
    · cases hes
      cases r2 with
      | cons ra rr =>
        cases rr with
        | cons rb rr =>
          cases rr
          cases ra with
          | tup ha la =>
            cases rb with
            | tup hb lb =>
              exact ⟨_, _, _, _, rfl, .inr ⟨SqT.same s2.ret.gh ha, SqT.same s2.ret.gh hb, z _ H1 G2 s2 (k1.trans k2) (itOk_zip ha la hb lb)⟩⟩
    · cases hes
end
end DL

namespace DL
open PySem L2 PySem.Spec PyProof.Rows
section
variable {X : Cx} {cl : Str → Addr} {F : Fra} {W : WX}
/-! ### x, y = a, b stored in order (x or y is used within a comprehension) -/
theorem rs_parO {i j : Nat} {x y : Str} {a b : Expr} {f g : M P} {px py pt pt2 pos : Pos} {kt k2 : Nat} (hc : X.calm = true) (hN : X.N.Nodup) (ha : RP X cl F W a f) (hb : RP X cl F W b g)
    (hi : X.N[i]? = some x := by rfl) (hj : X.N[j]? = some y := by rfl) (hij : i ≠ j := by decide)
    (hx : Loc X.env.scope x := by first | exact Or.inl rfl | exact Or.inr rfl) (hfx : X.fn x = true ∨ X.env.scope.names.lookup x = some .local := by first | exact .inl rfl | exact .inr rfl)
    (hy : Loc X.env.scope y := by first | exact Or.inl rfl | exact Or.inr rfl) (hfy : X.fn y = true ∨ X.env.scope.names.lookup y = some .local := by first | exact .inl rfl | exact .inr rfl)
    (hw : swappedStores [.Tuple [.Name x px, .Name y py] kt pt] (.Tuple [a, b] k2 pt2) X.env = pure none := by rfl)
    (hs : swapsWithSole [.Tuple [.Name x px, .Name y py] kt pt] (.Tuple [a, b] k2 pt2) pos.line X.env = pure false := by rfl)
    (h1 : starEach [a, b] X.env = (false, eval a X.env) :: starEach [b] X.env := by rfl) (h2 : starEach [b] X.env = (false, eval b X.env) :: starEach [] X.env := by rfl)
    (hn : (assignEach [.Name x px, .Name y py] X.env).length = 2 := by rfl) (hst : (assignEach [.Name x px, .Name y py] X.env).findIdx? (·.1) = none := by rfl)
    (hs1 : (assignEach [.Name x px, .Name y py] X.env).map (·.2) = assign (.Name x px) X.env :: (assignEach [.Name y py] X.env).map (·.2) := by rfl)
    (hs2 : (assignEach [.Name y py] X.env).map (·.2) = assign (.Name y py) X.env :: (assignEach [] X.env).map (·.2) := by rfl)
    (ho : (assignEach [.Tuple [.Name x px, .Name y py] kt pt] X.env).map (·.2) = [assign (.Tuple [.Name x px, .Name y py] kt pt) X.env] := by rfl) :
    RS X cl F W (.Assign [.Tuple [.Name x px, .Name y py] kt pt] (.Tuple [a, b] k2 pt2) pos) (sPar i j f g) := by
  refine ⟨PS.imp (ps_asg (pe_tup (pa_cons ha.pe (pa_cons hb.pe pa_nil h2) h1)) (pg_tup hc (pgs_cons (pg_name hN hi hx hfx) (pgs_cons (pg_name hN hj hy hfy) pgs_nil hs2) hs1) hn hst) hs hw ho) fun D σ H ⟨e, G, st, q⟩ => ⟨e, G, st, ?_⟩⟩
  cases hf : f e with
  | bad => simp only [sPar, hf] at q; exact q
  | exn x e1 => simp only [sPar, hf] at q; exact Xn.of q
  | ok p e1 =>
    simp only [sPar, hf] at q
    intro u H1 G1 s1 k1 r1 n1
    refine ⟨e1, G1, s1, ?_⟩
    cases hg : g e1 with
    | bad => simp only [Out.bnd, hg] at q; exact q
    | exn x e2 => simp only [Out.bnd, hg] at q; exact Xn.of q
    | ok p2 e2 =>
      simp only [Out.bnd, hg] at q
      intro u2 H2 G2 s2 k2 r2 n2
      refine ⟨by simp [sizeLine_eq], fun t ht => ?_⟩
      obtain ⟨s2', k', g', h0', lt, _⟩ := s2.new (o := .tup [u, u2]) .refl ht
      refine ⟨t, [u, u2], rfl, SqT.of upd_same, rfl, u, [u2], rfl, u2, [], rfl, rfl, ?_⟩
      refine q _ _ G2 ?_ (k1.gg.trans k2.gg)
      have r1' := (r1.mono k2).mono k'
      have r2' := r2.mono k'
      have s3 := s2'.setP r1' i
      refine s3.setP ?_ j
      cases p2 with
      | v d => exact r2'
      | n d2 =>
        obtain ⟨b2, e5, o2, g2, h02, l2⟩ := r2'
        obtain ⟨b2', e6, o2', g2', h02', l2'⟩ := r2
        rw [e5] at e6
        cases e6
        refine ⟨b2, e5, o2, g2, h02, l2.1, fun k d hk hσ => ?_⟩
        by_cases hki : k = i
        · subst hki
          have hl : k < e2.s.length := by
            have := (List.getElem?_eq_some_iff.mp hk).1
            simpa [Env.setS] using this
          have e3 : (e2.setS k p.s).s[k]? = some p.s := List.getElem?_set_self hl
          rw [e3] at hk
          rw [List.getElem?_set_self (by rw [s2.len]; exact hl)] at hσ
          cases hσ
          cases p with
          | v d => cases hk
          | n d1 =>
            obtain ⟨b1, e4, o1, g1, h01, l1⟩ := r1
            cases e4
            obtain ⟨oo, qq⟩ := o1.ex
            exact n2 d2 rfl b2 oo qq l1 e5
        · rw [setS_ne hki] at hk
          rw [List.getElem?_set_ne (Ne.symm hki)] at hσ
          exact l2.2 k d hk hσ
/-! ### x, y, z = a, b, c of plain data -/
def par3O (i j l : Nat) (o : Option (List D × Env)) : Out Fl := match o with
  | some ([da, db, dc], e2) => .ok .nx (((e2.setS i (.dat da)).setS j (.dat db)).setS l (.dat dc))
  | _ => .bad
def sPar3 (i j l : Nat) (fs : M (List R)) : M Fl := fun e => (fs e).bnd fun rs e1 => par3O i j l (e1.frzs rs)
theorem rs_par3 {i j l : Nat} {x y z : Str} {a b c : Expr} {fs : M (List R)} {px py pz pt pt2 pos : Pos} {kt k2 : Nat} (hc : X.calm = true) (hN : X.N.Nodup) (ha : RA X cl F W [a, b, c] fs)
    (hi : X.N[i]? = some x := by rfl) (hj : X.N[j]? = some y := by rfl) (hl : X.N[l]? = some z := by rfl) (hij : i ≠ j := by decide) (hil : i ≠ l := by decide) (hjl : j ≠ l := by decide)
    (hx : X.env.scope.names.lookup x = some .local := by rfl) (hy : X.env.scope.names.lookup y = some .local := by rfl) (hz : X.env.scope.names.lookup z = some .local := by rfl)
    (hw : swappedStores [.Tuple [.Name x px, .Name y py, .Name z pz] kt pt] (.Tuple [a, b, c] k2 pt2) X.env = pure (some [x, y, z]) := by rfl)
    (hs : swapsWithSole [.Tuple [.Name x px, .Name y py, .Name z pz] kt pt] (.Tuple [a, b, c] k2 pt2) pos.line X.env = pure false :=
                                                                                                              by rfl) :
    RS X cl F W (.Assign [.Tuple [.Name x px, .Name y py, .Name z pz] kt pt] (.Tuple [a, b, c] k2 pt2) pos) (sPar3 i j l fs) := by
  refine ⟨PS.imp (ps_par3 hc hN hi hj hl hij hil hjl hx hy hz ha.pa hw hs) fun D σ H ⟨e, G, st, q⟩ => tA_st st q fun rs e1 vs H1 G1 s1 k1 r1 z => ?_⟩
  cases yy : e1.frzs rs with
  | none => rw [yy] at z; exact z.elim
  | some pp =>
    obtain ⟨ds, e2⟩ := pp
    rw [yy] at z
    obtain ⟨G2, s2, k2, r2⟩ := frzs_ok s1 r1 yy
    unfold par3O at z
    split at z
    · rename_i da db dc e2' heq
      cases heq
      cases r2 with
      | cons ra rr =>
        cases rr with
        | cons rb rr =>
          cases rr with
          | cons rc rr =>
            cases rr
            exact ⟨_, _, _, rfl, z _ H1 G2 (((s2.set ra).set rb).set rc) k2.gg⟩
    · exact z.elim
end
end DL

namespace DL
open PySem L2 PySem.Spec PyProof.Rows
section
variable {X : Cx} {cl : Str → Addr} {F : Fra} {W : WX}
/-! ### x, y, z = a, b, c, where a new list may be a name's own -/
theorem PRel.setP {K : PySem.W.Frag} {σ : L2.St} {e : Env} {H G : Hp} {p q : P} {u w : V} {i : Nat} (hl : e.s.length = σ.length) (r : PRel K cl F σ e H G q w) (hne : ∀ d d1, q = .n d → p = .n d1 → w ≠ u) (hp : ∀ d1, p = .n d1 → True) : PRel K cl F (σ.set i (some u)) (e.setS i p.s) H G q w := by
  cases q with
  | v d => exact r
  | n d2 =>
    obtain ⟨b2, e2, o2, g2, h02, l2⟩ := r
    refine ⟨b2, e2, o2, g2, h02, l2.1, fun k d hk hσ => ?_⟩
    by_cases hki : k = i
    · subst hki
      have hlt : k < e.s.length := by
        have := (List.getElem?_eq_some_iff.mp hk).1
        simpa [Env.setS] using this
      have e3 : (e.setS k p.s).s[k]? = some p.s := List.getElem?_set_self hlt
      rw [e3] at hk
      rw [List.getElem?_set_self (by rw [← hl]; exact hlt)] at hσ
      cases p with
      | v d => cases hk
      | n d1 =>
        have := hne d2 d1 rfl rfl
        rw [e2] at this
        cases hσ
        exact this rfl
    · rw [setS_ne hki] at hk
      rw [List.getElem?_set_ne (Ne.symm hki)] at hσ
      exact l2.2 k d hk hσ
def sPar3P (i j l : Nat) (f g h : M P) : M Fl := fun e => (f e).bnd fun p e1 => (g e1).bnd fun q e2 => (h e2).bnd fun t e3 => .ok .nx (((e3.setS i p.s).setS j q.s).setS l t.s)
theorem rs_par3P {i j l : Nat} {x y z : Str} {a b c : Expr} {f g h : M P} {px py pz pt pt2 pos : Pos} {kt k2 : Nat} (hc : X.calm = true) (hN : X.N.Nodup) (ha : RP X cl F W a f) (hb : RP X cl F W b g) (hcc : RP X cl F W c h)
    (hi : X.N[i]? = some x := by rfl) (hj : X.N[j]? = some y := by rfl) (hl : X.N[l]? = some z := by rfl) (hij : i ≠ j := by decide) (hil : i ≠ l := by decide) (hjl : j ≠ l := by decide)
    (hx : X.env.scope.names.lookup x = some .local := by rfl) (hy : X.env.scope.names.lookup y = some .local := by rfl) (hz : X.env.scope.names.lookup z = some .local := by rfl)
    (hw : swappedStores [.Tuple [.Name x px, .Name y py, .Name z pz] kt pt] (.Tuple [a, b, c] k2 pt2) X.env = pure (some [x, y, z]) := by rfl)
    (hs : swapsWithSole [.Tuple [.Name x px, .Name y py, .Name z pz] kt pt] (.Tuple [a, b, c] k2 pt2) pos.line X.env = pure false := by rfl)
    (h1 : starEach [a, b, c] X.env = (false, eval a X.env) :: starEach [b, c] X.env := by rfl) (h2 : starEach [b, c] X.env = (false, eval b X.env) :: starEach [c] X.env := by rfl) (h3 : starEach [c] X.env = (false, eval c X.env) :: starEach [] X.env := by rfl) :
    RS X cl F W (.Assign [.Tuple [.Name x px, .Name y py, .Name z pz] kt pt] (.Tuple [a, b, c] k2 pt2) pos) (sPar3P i j l f g h) := by
  refine ⟨PS.imp (ps_par3 hc hN hi hj hl hij hil hjl hx hy hz (pa_cons ha.pe (pa_cons hb.pe (pa_cons hcc.pe pa_nil h3) h2) h1) hw hs) fun D σ H ⟨e, G, st, q⟩ => ⟨e, G, st, ?_⟩⟩
  cases hf : f e with
  | bad => simp only [sPar3P, hf] at q; exact q
  | exn x e1 => simp only [sPar3P, hf] at q; exact Xn.of q
  | ok p e1 =>
    simp only [sPar3P, hf] at q
    intro u H1 G1 s1 k1 r1 n1
    refine ⟨e1, G1, s1, ?_⟩
    cases hg : g e1 with
    | bad => simp only [Out.bnd, hg] at q; exact q
    | exn x e2 => simp only [Out.bnd, hg] at q; exact Xn.of q
    | ok p2 e2 =>
      simp only [Out.bnd, hg] at q
      intro u2 H2 G2 s2 k2 r2 n2
      refine ⟨e2, G2, s2, ?_⟩
      cases hh : h e2 with
      | bad => simp only [Out.bnd, hh] at q; exact q
      | exn x e3 => simp only [Out.bnd, hh] at q; exact Xn.of q
      | ok p3 e3 =>
        simp only [Out.bnd, hh] at q
        intro u3 H3 G3 s3 k3 r3 n3
        refine ⟨u, u2, u3, rfl, q _ H3 G3 ?_ ((k1.gg.trans k2.gg).trans k3.gg)⟩
        have ne : ∀ {pa pb : P} {ea : Env} {Ha Ga : Hp} {ua ub : V}, PRel X.K cl F σ ea Ha Ga pa ua → (∀ d, pb = .n d → ∀ b o, Ha b = some o → Loose F ea σ b → ub ≠ .ref b) → ∀ d d1, pb = .n d → pa = .n d1 → ub ≠ ua := fun {pa pb ea Ha Ga ua ub} ra nb d d1 e1 e2 => by
          subst e2
          obtain ⟨b1, e4, o1, g1, h01, l1⟩ := ra
          obtain ⟨oo, qq⟩ := o1.ex
          rw [e4]
          exact nb d e1 b1 oo qq l1
        have r1b := r1.mono k2
        have r1c := r1b.mono k3
        have r2c := r2.mono k3
        have ln : e3.s.length = σ.length := s3.len.symm
        have t1 := s3.setP r1c i
        have r2d := PRel.setP (i := i) (p := p) ln r2c (ne r1 n2) (fun _ _ => trivial)
        have t2 := t1.setP r2d j
        have r3d := PRel.setP (i := i) (p := p) ln r3 (ne r1b n3) (fun _ _ => trivial)
        have r3e := PRel.setP (i := j) (p := p2) (by simpa [Env.setS] using ln) r3d (ne r2 n3) (fun _ _ => trivial)
        exact t2.setP r3e l
/-! ### xs.pop(k) -/
def popAtO (i : Nat) (rk : R) (e : Env) : Out R := match rk, e.rd (.whole i) with
  | .val (.int k), some (.lst l) => (match ixN l.length k with
    | some j => (match l[j]? with
      | some d => if l.length ≤ sizeLine then outE (e.put i (.lst (l.eraseIdx j))) fun e3 => .ok (.val d) e3 else .bad
      | none => .bad)
    | none => .bad)
  | _, _ => .bad
def cPopAt (i : Nat) (fk : M R) : M R := fun e => if isLst (e.rd (.whole i)) then (fk e).bnd fun rk e1 => popAtO i rk e1 else .bad
theorem RepL.erase {K : PySem.W.Frag} {G : Hp} {ds : List D} {vs : List V} (r : RepL K cl G ds vs) (j : Nat) : RepL K cl G (ds.eraseIdx j) (vs.eraseIdx j) := by
  rw [List.eraseIdx_eq_take_drop_succ, List.eraseIdx_eq_take_drop_succ]
  exact (r.take j).append (r.drop (j + 1))
theorem re_popAt (i : Nat) {x : Str} {a : Expr} {fk : M R} {p apos cpos : Pos} (hk : RE X cl F W a fk) (hN : X.N[i]? = some x := by rfl) (hv : Vis X.env.scope x := by first | exact Or.inl rfl | exact Or.inr (Or.inl rfl) | exact Or.inr (Or.inr rfl)) (hd : (x == ("__debug__" : Str)) = false := by decide)
    (hcd : (x == ("__classdict__" : Str)) = false := by decide)
    (hbase : attributeBase (.Name x p) "pop" X.env (eval (.Name x p) X.env) = eval (.Name x p) X.env := by rfl)
    (hfew : ((backTo cpos (starEach [a] X.env)).all (fun x => !x.1) && (backToKw cpos (keywordEach [] X.env)).all (fun x => x.1.isSome)
      && decide ([a].length + ([] : List Keyword).length + (if ([] : List Keyword).isEmpty then 0 else 1) < 30)) = true := by rfl)
    (hline : (apos.endLine == cpos.line) = true := by rfl) (hs : starEach [a] X.env = (false, eval a X.env) :: starEach [] X.env := by rfl) (hplain : (backTo cpos (starEach [] X.env)).any (·.1) = false := by rfl) :
    RE X cl F W (.Call (.Attribute (.Name x p) "pop" apos) [a] [] cpos) (cPopAt i fk) := by
  refine ⟨PE.imp (pe_bm PySem.F.plainAttrs_list PySem.F.slot_list_pop PySem.F.type_list_pop mt_popAt (pe_var hN hv hd hcd) (pa_cons hk.pe pa_nil hs) hbase hfew hline hs hplain) fun σ H Q ⟨e, G, st, q⟩ => ?_⟩
  unfold cPopAt at q
  split at q
  · rename_i hl
    cases h0 : e.rd (.whole i) with
    | none => rw [h0] at hl; cases hl
    | some d0 =>
      obtain ⟨a0, hs0, o0⟩ := st.ref_at h0
      cases d0 with
      | lst l0 =>
        obtain ⟨us0, hu0, _⟩ := o0
        refine ⟨_, hs0, .inl ⟨rfl, us0, SqL.of hu0⟩, tD_then st q fun rk e1 vk H1 G1 s1 k1 r1 z => ?_⟩
        unfold popAtO at z
        split at z
        · rename_i k l h3
          cases r1
          split at z
          · rename_i j hj
            split at z
            · rename_i d hdj
              split at z
              · rename_i hz
                obtain ⟨e4, hp, z⟩ := outE_ok z
                obtain ⟨a2, hs2', us, hu, ru⟩ := s1.ref_at h3
                rw [hs0] at hs2'; cases hs2'
                obtain ⟨v, hv, rv⟩ := ru.getD hdj
                obtain ⟨q1, q2, q3, q4⟩ := ixN_seq hj
                have hz' : l.length ≤ 16777216 := by rw [sizeLine_eq] at hz; exact hz
                refine ⟨a0, us, k, j, v, rfl, rfl, hu, by omega, by omega, by rw [← ru.length]; exact q1, hv, ?_⟩
                obtain ⟨s4, k4⟩ := s1.put (o := .lst (us.eraseIdx j)) hs0 h3 hp fun H' h => ⟨us.eraseIdx j, h, ru.erase j⟩
                exact z _ _ _ s4 (k1.trans k4) (rv.mono k4.gg)
              · exact z.elim
            · exact z.elim
          · exact z.elim
        · exact z.elim
      | _ => (rw [h0] at hl; cases hl)
  · exact q.elim
end
end DL

namespace DL
open PySem L2 PySem.Spec PyProof.Rows
/-! names: any texts of one to eight small letters -/
def LetC (c : Nat) : Prop := 97 ≤ c ∧ c ≤ 122
def nmOk (s : Str) : Prop := (∀ c ∈ s.cps.toList, LetC c) ∧ 1 ≤ s.cps.size ∧ s.cps.size ≤ 8
def nmB (s : Str) : Bool := s.cps.toList.all (fun c => decide (97 ≤ c) && decide (c ≤ 122)) && (decide (1 ≤ s.cps.size) && decide (s.cps.size ≤ 8))
theorem nmB_iff {s : Str} : nmB s = true ↔ nmOk s := by
  unfold nmB nmOk LetC
  simp only [Bool.and_eq_true, List.all_eq_true, decide_eq_true_eq]
theorem nm_str {s : Str} (h : nmOk s) : PyData.strOk s = true := by
  unfold PyData.strOk
  rw [Array.all_eq_true']
  intro c hc
  have := (h.1 c (Array.mem_toList_iff.mpr hc)).2
  exact decide_eq_true
                                                                                                              (by omega)
theorem sh_nm {s : Str} (h : nmOk s) {k : Nat} : Sh k (.str s) := .str (nm_str h)
theorem sh_nms {l : List Str} (h : ∀ s ∈ l, nmOk s) {k : Nat} : Sh (k + 1) (.lst (l.map D.str)) := .lst fun d hd => by
  obtain ⟨s, hs, rfl⟩ := List.mem_map.mp hd
  exact sh_nm (h s hs)
theorem rc_let : ∀ c : Nat, 97 ≤ c → c ≤ 122 → PySem.Builtin.Str.reprChar 34 c = [c] ∧ PySem.Builtin.Str.reprChar 39 c = [c] := by
  have h : ∀ k : Fin 26, PySem.Builtin.Str.reprChar 34 (97 + k.1) = [97 + k.1] ∧ PySem.Builtin.Str.reprChar 39 (97 + k.1) = [97 + k.1] := by decide +kernel
  intro c h1 h2
  have := h ⟨c - 97, by omega⟩
  have e : 97 + (c - 97) = c := by omega
  simpa only [e] using this
theorem rq_or (s : Str) : reprQuote s = 34 ∨ reprQuote s = 39 := by
  unfold reprQuote
  split
  · exact .inl rfl
  · exact .inr rfl
theorem rc_nm {s : Str} (h : nmOk s) : ∀ c ∈ s.cps.toList, PySem.Builtin.Str.reprChar (reprQuote s) c = [c] := fun c hc => by
  obtain ⟨h1, h2⟩ := h.1 c hc
  rcases rq_or s with e | e
  · rw [e]; exact (rc_let c h1 h2).1
  · rw [e]; exact (rc_let c h1 h2).2
theorem fold_add {f : Nat → List Nat} : ∀ {l : List Nat} {n : Nat}, (∀ c ∈ l, f c = [c]) → l.foldl (fun n c => n + (f c).length) n = n + l.length
  | [], n, _ => rfl
  | c :: l, n, h => by
    rw [List.foldl_cons, h c List.mem_cons_self, fold_add fun x hx => h x (List.mem_cons_of_mem _ hx)]
    simp only [List.length_cons,
                                                                                                              List.length_nil]
    omega
theorem fold_app {f : Nat → List Nat} : ∀ {l : List Nat} {a : Array Nat}, (∀ c ∈ l, f c = [c]) → (l.foldl (fun out c => out ++ (f c).toArray) a).toList = a.toList ++ l
  | [], a, _ => by simp
  | c :: l, a, h => by
    rw [List.foldl_cons, h c List.mem_cons_self, fold_app fun x hx => h x (List.mem_cons_of_mem _ hx)]
    simp
theorem nm_shown {s : Str} (h : nmOk s) : (PyData.str s).shown.length ≤ 10 ∧ PyData.strOk (PyData.str s).shown = true := by
  have e : (PyData.str s).shown = reprText s := by simp only [PyData.shown]
  rw [e]
  refine ⟨?_, ?_⟩
  · rw [← reprLen_eq, ← Array.foldl_toList, fold_add (rc_nm h)]
    have := h.2.2
    have : s.cps.toList.length = s.cps.size := Array.length_toList
    omega
  · unfold PyData.strOk reprText
    rw [Array.all_eq_true']
    intro c hc
    rw [← Array.mem_toList_iff, Array.toList_push, ← Array.foldl_toList, fold_app (rc_nm h)] at hc
    have q : reprQuote s < 1000 := by rcases rq_or s with e | e <;> rw [e] <;> decide
    simp only [List.mem_append, List.mem_singleton] at hc
    refine decide_eq_true ?_
    rcases hc with (hc | hc) | hc
    · omega
    · have := (h.1 c hc).2; omega
    · omega
theorem nm_txtD {s : Str} (h : nmOk s) : Txt 10 (.str s) := ⟨rfl, (nm_shown h).1, (nm_shown h).2⟩
end DL

namespace DL
open PySem L2 PySem.Spec PyProof.Rows
/-! ### dict(pairs), the pairs a list of tuples with unlike keys -/
def pairK : D → Option (Key × D)
  | .tup [k, d] => (keyOf k).map fun q => (q, d)
  | _ => none
def pairsK : List D → Option (List (Key × D))
  | [] => some []
  | d :: l => (pairK d).bind fun q => (pairsK l).map (q :: ·)
def fDictPO (a : Option D) (e : Env) : Out D := match a with
  | some (.lst l) => (match pairsK l with
    | some ps => if (ps.map (·.1)).Nodup then .ok (.dct (ps.map (·.1)) (ps.map (·.2))) e else .bad
    | none => .bad)
  | _ => .bad
def fDictP (fs : M (List R)) : M D := fun e => (fs e).bnd fun rs e1 => match rs with
  | [r] => fDictPO (e1.rd r) e1
  | _ => .bad
theorem mergeK_new : ∀ {more kvs : List (Key × V)}, (more.map (·.1)).Nodup → (∀ kv ∈ more, ∀ q ∈ kvs, q.1 ≠ kv.1) → mergeK kvs more = kvs ++ more
  | [], kvs, _, _ => by simp [mergeK]
  | p :: r, kvs, nd, h => by
    rw [List.map_cons] at nd
    obtain ⟨n1, n2⟩ :=
                                                                                                              List.nodup_cons.mp nd
    have e : putK kvs p.1 p.2 = kvs ++ [p] := by
      unfold putK
      rw [if_neg]
      intro z
      obtain ⟨q, hq, e⟩ := List.any_eq_true.mp z
      exact h p List.mem_cons_self q hq (of_decide_eq_true e)
    show mergeK (putK kvs p.1 p.2) r = _
    rw [e, mergeK_new n2 fun kv hkv q hq => ?_]
    · simp
    · rcases List.mem_append.mp
                                                                                                              hq with hq | hq
      · exact h kv (List.mem_cons_of_mem _ hkv) q hq
      · rw [List.mem_singleton.mp
                                                                                                              hq]
        exact fun z => n1 (by rw [z]; exact List.mem_map.mpr ⟨kv, hkv, rfl⟩)
section
variable {X : Cx} {cl : Str → Addr} {F : Fra} {W : WX}
theorem Rep.key {K : PySem.W.Frag} {G : Hp} {d : D} {k : Key} {v : V} (h : Rep K cl G d v) (e : keyOf d = some k) : v = kV k := keyOf_rel (H := G) (.inl h) e
theorem pairsK_ok {K : PySem.W.Frag} {G : Hp} : ∀ {l : List D} {vs : List V} {ps : List (Key × D)}, RepL K cl G l vs → pairsK l = some ps →
    ∃ (as : List Addr) (us : List V), vs = as.map V.ref ∧ us.length = ps.length ∧ Paired (fun p kv => SqT K G p [kV kv.1, kv.2]) as ((ps.map (·.1)).zip us) ∧ RepL K cl G (ps.map (·.2)) us
  | [], _, _, .nil, e => by cases e; exact ⟨[], [], rfl, rfl, .nil, .nil⟩
  | d :: l, _, ps, .cons (v := v) r t, e => by
    obtain ⟨q, e1, e2⟩ := Option.bind_eq_some_iff.mp e
    obtain ⟨ps', e3, rfl⟩ := Option.map_eq_some_iff.mp e2
    obtain ⟨as, us, rfl, hl, hp, hr⟩ := pairsK_ok t e3
    unfold pairK at e1
    split at e1
    · rename_i kd dd
      obtain ⟨k, hk, rfl⟩ := Option.map_eq_some_iff.mp e1
      cases r with
      | tup h r =>
        cases r with
        | cons r1 r2 =>
          cases r2 with
          | cons r3 r4 =>
            cases r4
            rename_i a v1 v2
            rw [r1.key hk] at h
            exact ⟨a :: as, v2 :: us, rfl, by simp [hl], .cons h hp, .cons r3 hr⟩
    · cases e1
theorem Paired.mono {α β : Type} {P Q : α → β → Prop} (i : ∀ a b, P a b → Q a b) : ∀ {as : List α} {bs : List β}, Paired P as bs → Paired Q as bs
  | _, _, .nil => .nil
  | _, _, .cons h t => .cons (i _ _ h) (Paired.mono i t)
theorem rf_dictP {x : Str} {p pos : Pos} {a : Expr} {es : List Expr} {fs : M (List R)} (hc : X.calm = true) (hg : Gl X x) (hm : X.mg x = none) (hv : bootBuiltins x = some (.type "dict")) (ha : RA X cl F W (a :: es) fs)
    (hn : x ≠ "__name__" := by decide) (hdb : (x == ("__debug__" : Str)) = false := by decide) (he : starEach (a :: es) X.env = (false, eval a X.env) :: starEach es X.env := by rfl) (hpl : (backTo pos (starEach es X.env)).any (·.1) = false := by rfl) :
    RF X cl F W (.Call (.Name x p) (a :: es) [] pos) (fDictP fs) := by
  refine ⟨PE.imp (pe_callTy (call_dictP hc) hg hm hv ha.pa hn hdb he hpl) fun σ H Q ⟨e, G, st, q⟩ => tA_then st q fun rs e1 vs H1 G1 s1 k1 r1 z => ?_⟩
  match rs, r1, z with
  | [], _, z => exact z.elim
  | _ :: _ :: _, _, z => exact z.elim
  | [r], .cons (v := v) rr .nil, z =>
    cases hd : e1.rd r with
    | none => simp only [fDictPO, hd] at z; exact z.elim
    | some d =>
      simp only [fDictPO, hd] at z
      have t := s1.top rr hd
      cases d with
      | lst l =>
        simp only at z
        cases hp : pairsK l with
        | none => rw [hp] at z; exact z.elim
        | some ps =>
          rw [hp] at z
          simp only at z
          by_cases nd : (ps.map (·.1)).Nodup
          · rw [if_pos nd] at z
            obtain ⟨a, vs, rfl, h1, rl⟩ := t.lst s1.ret.gh
            obtain ⟨as, us, rfl, hl, pp, hr⟩ := pairsK_ok rl hp
            refine ⟨a, as, (ps.map (·.1)).zip us, rfl, SqL.of h1, Paired.mono (fun _ _ h => SqT.same s1.ret.gh h) pp, fun p hp => ?_⟩
            have e0 : ((ps.map (·.1)).zip us).map (·.1) = ps.map (·.1) := List.map_fst_zip (by rw [List.length_map]; omega)
            have em := mergeK_new (more := (ps.map (·.1)).zip us) (kvs := []) (by rw [e0]; exact nd) (by intro _ _ _ h; cases h)
            rw [em, List.nil_append]
            obtain ⟨a1, a2, a3, a4, a5, a6⟩ := s1.new (o := .dK ((ps.map (·.1)).zip us)) k1 hp
            exact z p _ G1 a1 a2 ⟨us, upd_same, by rw [List.length_map]; exact hl.symm, hr⟩ a3 a4 a5 a6
          · rw [if_neg nd] at z; exact z.elim
      | _ => exact z.elim
/-- .. as data -/
def dictPD : List D → Option D
  | [.lst l] => (pairsK l).bind fun ps => if (ps.map (·.1)).Nodup then some (.dct (ps.map (·.1)) (ps.map (·.2))) else none
  | _ => none
theorem cd_dictP (hc : X.calm = true) : CallD X cl (.type "dict") dictPD := by
  refine ⟨_, call_dictP hc, fun H G xs ds dz Q gh t e k => ?_⟩
  unfold dictPD at e
  split at e
  · obtain ⟨ps, hp, e⟩ := Option.bind_eq_some_iff.mp e
    split at e
    · rename_i nd
      cases e
      obtain ⟨v, rfl, tv⟩ := topL1 t
      obtain ⟨a, vs, rfl, h1, rl⟩ := tv.lst gh
      obtain ⟨as, us, rfl, hl, pp, hr⟩ := pairsK_ok rl hp
      refine ⟨a, as, (ps.map (·.1)).zip us, rfl, SqL.of h1, Paired.mono (fun _ _ h => SqT.same gh h) pp, fun p hp => ?_⟩
      have e0 : ((ps.map (·.1)).zip us).map (·.1) = ps.map (·.1) := List.map_fst_zip (by rw [List.length_map]; omega)
      have em := mergeK_new (more := (ps.map (·.1)).zip us) (kvs := []) (by rw [e0]; exact nd) (by intro _ _ _ h; cases h)
      rw [em, List.nil_append]
      exact k _ _ _ (.lay .refl hp) (.dct (.inl upd_same) (by rw [List.length_map]; exact hl.symm) (hr.mono (same_upd (gh.free hp))))
    · cases e
  · cases e
end
end DL

namespace DL
open PySem L2 PySem.Spec PyProof.Rows
/-! ### sorted(set(xs)), xs a list of ints -/
section
variable {prog : Program} {w : World} {A :
                                                                                                              Around} {E : Value → Shared → Prop} {s : Shared}
theorem set_lstI {l : Addr} {items : Array Value} {xs : List Int} {Q : Value → Shared → Prop} (hh : A.handled = none) (hl : s.heap.IsList l items) (hi : PyProof.Rows.IntsAre items.toList xs) (room : xs.length + 1 < scanBound)
    (h : ∀ (h' : Heap) (tk : Nat), (∃ c, c ≤ xs.length ∧ SetR w h' s.heap.objs.size (fun j => decide (j ∈ xs)) c) → (∀ b o, b < s.heap.objs.size → s.heap.get? b = some o → h'.get? b = some o) → Q (.ref s.heap.objs.size) { s with heap := h', toks := tk }) :
    wpAny (model prog w) A (call (.type
                                                                                                              "set") [.ref l]) Q E s := by
  obtain ⟨c, tl, mro⟩ := PySem.F.called_set.mro
  have made := PySem.F.called_set.made
  have sub := PySem.F.called_set.sub
  refine wpAny_call
                                                                                                              (codeAny_of_tree ?_)
  show wpAny _ _ (callAny
                                                                                                              (.type "set") _) _ _ _
  refine wpAny_pure ⟨Code.quiet_builtin _ (by decide
                                                                                                              +kernel), codeAny_builtin PySem.F.entry_type_call ?_⟩
  rw [Around.under_plain (weight_type_call_type
                                                                                                              "set" [.ref l] []) rfl]
  have nt := PySem.F.called_set.notType
  have cc := PySem.F.called_set.canCreate
  have tc := PySem.F.typeCall_set_1 (.ref l)
  repeat (any_goals (first
                                                                                                              | assumption | wp_step))
  refine codeAny_mono (code_set_led1 (P := prog) (w := w) (.ref l) (E := E) (Q₁ := fun v s₁ => v = .ref s.heap.objs.size ∧ s₁ = { s with heap := s.heap.push (so (!w.params.followText "set-order")) }) ⟨rfl, rfl⟩) fun r s₁ hr => ?_
  cases r with
  | error e => exact hr
  | ok fl =>
    cases fl with
    | ret v =>
      obtain ⟨rfl, rfl⟩ := hr
      have hS : (s.heap.push (so (!w.params.followText "set-order"))).get? s.heap.objs.size = some (so (!w.params.followText "set-order")) := Heap.get?_push_size _ rfl
      have hT : Shared.TypeIs { s with heap := s.heap.push (so (!w.params.followText "set-order")) } (.ref s.heap.objs.size) "set" := ⟨_, hS, rfl⟩
      have li := PySem.F.called_set.init.lookup
      have bi := PySem.F.called_set.init.bind (.ref s.heap.objs.size)
      repeat (any_goals (first
                                                                                                              | assumption | wp_step))
      refine codeAny_mono (codeAny_call_builtin (R := wants (fun r s₂ => r = .none ∧ ∃ h' tk, s₂ = { s with heap := h', toks := tk } ∧ (∃ c, c ≤ xs.length ∧ SetR w h' s.heap.objs.size (fun j => decide (j ∈ xs)) c) ∧ (∀ b o, b < s.heap.objs.size → s.heap.get? b = some o → h'.get? b = some o)) E) PySem.F.called_set.init.plain PySem.F.entry_set_init (check_set_init_1 hT ?_)) fun r₂ s₂ hr₂ => ?_
      · obtain ⟨ol, hol,
                                                                                                              hcl, nl, hdl⟩ := hl
        obtain ⟨ocls, odict,
                                                                                                              odata, oslots⟩ := ol
        simp only at hcl hdl
        subst hcl; subst hdl
        have hol1 : (s.heap.push (so (!w.params.followText "set-order"))).get? l = some { cls := .type "list", dict := odict, data := .seq items nl, slots := oslots } := Heap.get?_push_of_some _ hol
        have s1 := PySem.F.sub_list_set
        have s2 := PySem.F.sub_list_frozenset
        have nd : (Value.type "list" == Value.type "dict") = false := by decide
        have hl1 : (s.heap.push (so (!w.params.followText "set-order"))).IsList l items := ⟨_, hol1, rfl, nl, rfl⟩
        unfold Builtin.«set.__init__»
                                                                                                              noKeywords Builtin.Frozenset.updateFrom
        generalize hPI : pyIter = PI
        wp_walk
        subst hPI
        refine wpAny_pyIter_list
                                                                                                              hl1 ?_
        refine wpAny_bind
                                                                                                              (wpAny_runValue ?_)
        have lt : l < s.heap.objs.size := Heap.lt_size hol
        have h3 : A.in1.in1.in1.handled = none := by simp [hh]
        have ne : l ≠ (s.heap.push (so (!w.params.followText "set-order"))).objs.size := by rw [Heap.size_push]; exact Nat.ne_of_lt (Nat.lt_succ_of_lt lt)
        have out : s.heap.objs.size ∉ [(s.heap.push (so (!w.params.followText "set-order"))).objs.size, l] := by
          rw [Heap.size_push]
          intro z
          rcases List.mem_cons.mp
                                                                                                              z with z | z
          · exact Nat.ne_of_lt (Nat.lt_succ_self _) z
          · exact Nat.ne_of_gt lt (List.mem_singleton.mp z)
        have sz : xs.length = items.size := by
          have q := IntsAre.length hi
          rw [Array.length_toList] at q
          exact q.symm
        have val : ∀ (i : Nat) (v : Value), items[i]? = some v → ∃ k t, xs[i]? = some k ∧ v = .int k t := fun i v hv => by
          have hi' : i < xs.length := by rw [sz]; exact (Array.getElem?_eq_some_iff.mp hv).1
          obtain ⟨t, e⟩ := PyProof.Rows.IntsAre.int_at hi i v (by rw [Array.getElem?_toList]; exact hv)
          refine ⟨xs[i], t, List.getElem?_eq_getElem hi', ?_⟩
          rw [e]
          congr 1
          simp [List.getD, List.getElem?_eq_getElem hi']
        refine set_update_ints ((Walks.list h3 _ l ne items).toS) s.heap.objs.size out xs sz.symm room val (items.size - 0) 0 _ (by omega) (Nat.zero_le _) ⟨⟨_, Heap.get?_push_size _ rfl, rfl, rfl⟩, (hl1.push _)⟩ ?new ?fin
        case new =>
          exact ⟨0, Nat.le_refl 0, setR_new_at (Heap.get?_push_of_some _ hS)⟩
        case fin =>
          intro s' c mv hc hS'
          obtain ⟨h', g', d',
                                                                                                              tk', os'⟩ := s'
          obtain rfl : g' = s.gens := mv.gens
          obtain rfl : d' = s.drawn := mv.drawn
          obtain rfl : os' = s.os := mv.os
          refine wpAny_pure (wpAny_pure ⟨rfl, h', tk', rfl, ⟨c, by omega, hS'⟩, fun b o hb e => mv.heap b o (fun z => ?_) (Heap.get?_push_of_some _ (Heap.get?_push_of_some _ e))⟩)
          rcases List.mem_cons.mp
                                                                                                              z with z | z
          · exact Nat.ne_of_lt hb z
          · rw [List.mem_singleton, Heap.size_push] at z
            exact Nat.ne_of_lt (Nat.lt_succ_of_lt hb) z
      · cases r₂ with
        | error e => exact hr₂
        | ok fl₂ =>
          cases fl₂ with
          | ret r =>
            obtain ⟨rfl, h', tk, rfl, hS', keep⟩ := hr₂
            repeat (any_goals (first
                                                                                                              | assumption | wp_step))
            exact h _ _ hS' keep
          | _ => exact hr₂.elim
    | _ => exact hr.elim
end
/-- the ascending list of a list's members -/
def SrtSet (xs ys : List Int) : Prop := ys.Pairwise (· < ·) ∧ ∀ k, k ∈ ys ↔ k ∈ xs
def ins1 (x : Int) : List Int → List Int
  | [] => [x]
  | y :: l => if x < y then x :: y :: l else if x = y then y :: l else y :: ins1 x l
def srtSet (xs : List Int) : List Int := xs.foldr ins1 []
theorem mem_ins1 {x k : Int} : ∀ {l : List Int}, k ∈ ins1 x l ↔ k = x ∨ k ∈ l
  | [] => by simp [ins1]
  | y :: l => by
    unfold ins1
    split
    · simp
    · split
      · rename_i e; subst e; simp
      · rw [List.mem_cons, mem_ins1, List.mem_cons]
        constructor
        · rintro (h | h | h)
          · exact .inr (.inl h)
          · exact .inl h
          · exact .inr (.inr h)
        · rintro (h | h | h)
          · exact .inr (.inl h)
          · exact .inl h
          · exact .inr (.inr h)
theorem ins1_srt {x : Int} : ∀ {l : List Int}, l.Pairwise (· < ·) → (ins1 x l).Pairwise (· < ·)
  | [], _ => by simp [ins1]
  | y :: l, h => by
    obtain ⟨h1, h2⟩ :=
                                                                                                              List.pairwise_cons.mp h
    unfold ins1
    split
    · rename_i c
      exact List.pairwise_cons.mpr ⟨fun z hz => by
        rcases List.mem_cons.mp
                                                                                                              hz with rfl | hz
        · exact c
        · exact Int.lt_trans c (h1 z hz), h⟩
    · split
      · exact h
      · exact List.pairwise_cons.mpr ⟨fun z hz => by
          rcases mem_ins1.mp hz with rfl | hz
          · omega
          · exact h1 z hz, ins1_srt h2⟩
theorem srtSet_ok : ∀ xs : List Int, SrtSet xs (srtSet xs)
  | [] => ⟨List.Pairwise.nil, fun k => Iff.rfl⟩
  | x :: xs => by
    obtain ⟨h1, h2⟩ := srtSet_ok xs
    exact ⟨ins1_srt h1, fun k => by
      show k ∈ ins1 x (srtSet xs) ↔ _
      rw [mem_ins1, h2, List.mem_cons]⟩
theorem srt_uniq : ∀ {a b : List Int}, a.Pairwise (· < ·) → b.Pairwise (· < ·) → (∀ k, k ∈ a ↔ k ∈ b) → a = b
  | [], [], _, _, _ => rfl
  | [], y :: b, _, _, h => nomatch (h y).mpr List.mem_cons_self
  | x :: a, [], _, _, h => nomatch (h x).mp List.mem_cons_self
  | x :: a, y :: b, ha, hb, h => by
    obtain ⟨a1, a2⟩ := List.pairwise_cons.mp ha
    obtain ⟨b1, b2⟩ := List.pairwise_cons.mp hb
    have e : x = y := by
      rcases List.mem_cons.mp ((h x).mp List.mem_cons_self) with e | e
      · exact e
      · rcases List.mem_cons.mp ((h y).mpr List.mem_cons_self) with e' | e'
        · exact e'.symm
        · have := a1 y e'
          have := b1 x e
          omega
    subst e
    rw [srt_uniq a2 b2 fun k => ⟨fun hk => ?_, fun hk => ?_⟩]
    · rcases List.mem_cons.mp ((h k).mp (List.mem_cons_of_mem _ hk)) with e | e
      · have := a1 k hk; omega
      · exact e
    · rcases List.mem_cons.mp ((h k).mpr (List.mem_cons_of_mem _ hk)) with e | e
      · have := b1 k hk; omega
      · exact e
def intsD : List D → Option (List Int)
  | [] => some []
  | .int i :: l => (intsD l).map (i :: ·)
  | _ :: _ => none
theorem intsD_map : ∀ l : List Int, intsD (l.map D.int) = some l
  | [] => rfl
  | i :: l => by rw [List.map_cons, intsD, intsD_map l]; rfl
theorem repL_intsD {K : PySem.W.Frag} {cl : Str → Addr} {G : Hp} : ∀ {l : List D} {ns : List Int} {vs : List V}, intsD l = some ns → RepL K cl G l vs → vs = ns.map V.int
  | [], _, _, e, .nil => by cases e; rfl
  | d :: l, ns, _, e, .cons r t => by
    unfold intsD at e
    split at e
    · rename_i z; cases z
    · rename_i i l' z
      cases z
      obtain ⟨ns', e1, rfl⟩ := Option.map_eq_some_iff.mp e
      cases r
      rw [repL_intsD e1 t]
      rfl
    · cases e
/-- sorted(set(xs)) -/
def srtSetD : List D → Option D
  | [.lst l] => (intsD l).bind fun ns => if ns.length ≤ 60 then some (.lst ((srtSet ns).map D.int)) else none
  | _ => none
section
variable {X : Cx} {cl : Str → Addr} {F : Fra} {W : WX}
def rSetL (K : PySem.W.Frag) (w : World) : List V → Hp → VK → Prop := fun vs H Q => ∃ (l : Addr) (ns : List Int), vs = [V.ref l] ∧ SqL K H l (ns.map V.int) ∧ ns.length ≤ 60 ∧ ∀ a c, H a = none → c ≤ ns.length → Q (.ref a) (upd H a (SetO w a (fun j => decide (j ∈ ns)) c))
theorem cr_setL (hc : X.calm = true) : CallR X (.type "set") (rSetL X.K X.w) := by
  intro pins s σ
                                                                                                              H xs us Q I r h
  obtain ⟨l, ns, rfl, hl, h1, q⟩ := h
  rw [Vals.ref1 r]
  obtain ⟨its, rv, pl,
                                                                                                              hz⟩ := I.list hl
  have hn : H s.heap.objs.size = none
                                                                                                              := I.hok.fresh (Nat.le_refl _)
  refine set_lstI (xs := ns) (I.ok.hd hc) pl.isList (by simpa using rv.ints) (by unfold scanBound; omega) fun h' tk ⟨c, hcl, R⟩ k => ?_
  exact ⟨.ref s.heap.objs.size, upd H s.heap.objs.size (SetO X.w s.heap.objs.size (fun j => decide (j ∈ ns)) c), I.laid (t' := tk) (fun b o e => k b o (Heap.lt_size e) e) (Nat.le_refl _) (setO_new R), rfl, q _ c hn hcl⟩
theorem re_srtSet {a : Expr} {fs : M (List R)} {p p2 q pos : Pos} (hc : X.calm = true) (hg : Gl X "sorted") (hm : X.mg "sorted" = none) (hg2 : Gl X "set") (hm2 : X.mg "set" = none) (hv : bootBuiltins "sorted" = some (.builtin "sorted")) (hv2 : bootBuiltins "set" = some (.type "set")) (ha : RA X cl F W [a] fs)
    (na : starEach [a] X.env = (false, eval a X.env) :: starEach [] X.env := by rfl) (nb : starEach [Expr.Call (.Name "set" p2) [a] [] q] X.env = (false, eval (Expr.Call (.Name "set" p2) [a] [] q) X.env) :: starEach [] X.env := by rfl) : RE X cl F W (.Call (.Name "sorted" p) [.Call (.Name "set" p2) [a] [] q] [] pos) (cCB srtSetD fs) := by
  refine ⟨PE.imp (pe_callB (cr_sortedSet hc) hg hm hv (pa_cons (pe_callTy (cr_setL hc) hg2 hm2 hv2 ha.pa (by decide) (by decide) na rfl) pa_nil nb) (by decide) (by decide) nb rfl) fun σ H Q h => ?_⟩
  refine tCB_D (f := .none) (r := fun xs H1 Q2 => rSetL X.K X.w xs H1 fun x H2 => rSortedSet X.w [x] H2 Q2) (fun H G xs ds dz Q gh t e k => ?_) h
  unfold srtSetD at e
  split at e
  · obtain ⟨ns, hy, e⟩ := Option.bind_eq_some_iff.mp e
    split at e
    · rename_i h1
      cases e
      obtain ⟨v, rfl, tv⟩ := topL1 t
      obtain ⟨a, vs, rfl, h2, r⟩ := tv.lst gh
      rw [repL_intsD hy r] at h2
      refine ⟨a, ns, rfl, SqL.of h2, h1, fun b c hb hcl => ⟨b, _, c, rfl, upd_same, by omega, fun ms p pw hm hl hp => ?_⟩⟩
      obtain ⟨o1, o2⟩ := srtSet_ok ns
      have em : ms = srtSet ns := srt_uniq pw o1 fun k => by rw [hm, o2]; exact decide_eq_true_iff
      rw [em]
      refine k _ _ _ (.lay (.grow .refl (same_upd hb)) hp) (.lst upd_same ?_)
      exact RepL.of_ints _
    · cases e
  · cases e
end
end DL

namespace DL
open PySem L2 PySem.Spec PyProof.Rows
/-! ### == of two tuples, item by item, where a comparison may change the state -/
open PySem.AutoSeq1
                                                                                                              (wpAny_loadPart')
section
variable {prog : Program} {w : World} {A
                                                                                                              : Around} {E : Value → Shared → Prop}
def EqCh (prog : Program) (w : World) (A : Around) (E : Value → Shared → Prop) (Q : Bool → Shared → Prop) : List (Value × Value) → Shared → Prop
  | [], s => Q true s
  | (y, x) :: r, s => wpAny (model prog w) A (eqBool y x) (fun k s1 => if k = true then EqCh prog w A E Q r s1 else Q false s1) E s
theorem tuple_chain {l b : Addr} {items items2 : Array Value} {Q : Value → Shared → Prop} {s : Shared} (hl : s.heap.IsTuple l items) (hb : s.heap.IsTuple b items2) (hs : items.size = items2.size)
    (h : EqCh prog w A E (fun k s' => Q (.bool k) s') (items.toList.zip items2.toList) s) :
    wpAny (model prog w) A (Builtin.«tuple.__eq__» ⟨[.ref l, .ref b], []⟩) (fun fin s' => ∃ v, fin = .done (.ret v) ∧ Q v s') E s := by
  obtain ⟨⟨cls, dd, data, sl⟩,
                                                                                                              ho, hc, n, hd⟩ := id hl
  obtain ⟨⟨cls2, dd2, data2, sl2⟩,
                                                                                                              ho2, hc2, n2, hd2⟩ := id hb
  simp only at hc hd hc2 hd2
  subst hc hd hc2 hd2
  obtain ⟨hp, g,
                                                                                                              d, tk, os⟩ := s
  have f2 :=
                                                                                                              AutoSeq1.sub_tuple_tuple
  wp_walk using wpAny_loadPart' ho, wpAny_loadPart' ho2, wpAny_forIn_list _ (fun rest b s' => b.1 = none ∧ EqCh prog w A E (fun k s' => Q (.bool k) s') rest s') _
  case turn =>
    rintro ⟨y, x⟩ rest b s' ⟨hb', hR⟩
    refine wpAny_bind (wpAny_mono hR (fun k s1 hk => ?_) fun _ _ e => e)
    cases k with
    | true =>
      rw [if_pos rfl] at hk
      obtain ⟨hp1, g1,
                                                                                                              d1, tk1, os1⟩ := s1
      wp_walk
      exact ⟨rfl, hk⟩
    | false =>
      rw [if_neg Bool.false_ne_true] at hk
      obtain ⟨hp1, g1,
                                                                                                              d1, tk1, os1⟩ := s1
      wp_walk
      exact ⟨_, rfl, hk⟩
  case fin =>
    rintro ⟨b1, b2⟩ s' ⟨hb', hR⟩
    simp only at hb'
    subst hb'
    obtain ⟨hp1, g1, d1, tk1, os1⟩ := s'
    wp_walk
    refine ⟨_, rfl, ?_⟩
    have e : (items.size == items2.size) = true := by rw [hs]; exact beq_self_eq_true _
    show Q (.bool (items.size == items2.size)) _
    rw [e]
    exact hR
  case h =>
    exact ⟨rfl, h⟩
theorem rc_chain {l b : Addr} {items items2 : Array Value} {Q : Value → Shared → Prop} {s : Shared} (hl : s.heap.IsTuple l items) (hb : s.heap.IsTuple b items2) (hs : items.size = items2.size) (hu : A.units < cLine)
    (h : EqCh prog w A.in1 E (fun k s' => Q (.bool k) s') (items.toList.zip items2.toList) s) : wpAny (model prog w) A (richCompare .Eq (.ref l) (.ref b)) Q E s := by
  obtain ⟨o, ho, hc,
                                                                                                              n, hd⟩ := id hl
  obtain ⟨o2, ho2, hc2, n2, hd2⟩ := id hb
  refine wpAny_richCompare_same_room (T := "tuple") (op := .Eq) ⟨_, ho, hc⟩ ⟨_, ho2, hc2⟩ PySem.F.slot_tuple_eq (wpAny_call_entry PySem.F.slot_tuple_eq ⟨_, ho, hc⟩ PySem.F.entry_tuple_eq (tuple_chain (Q := fun v s' => v ≠ Value.notImplemented ∧ Q v s') hl hb hs ?_) (PySem.F.args_tuple_eq_2 _ _)) hu
  have : ∀ (r : List (Value × Value)) (s : Shared), EqCh prog w A.in1 E (fun k s' => Q (.bool k) s') r s → EqCh prog w A.in1 E (fun k s' => Value.bool k ≠ Value.notImplemented ∧ Q (.bool k) s') r s := by
    intro r
    induction r with
    | nil => exact fun s h => ⟨(fun x => nomatch x), h⟩
    | cons p r ih =>
      obtain ⟨y, x⟩ := p
      intro s h
      refine wpAny_mono h (fun k s1 hk => ?_) fun _ _ e => e
      cases k with
      | true => rw [if_pos rfl] at hk ⊢; exact ih s1 hk
      | false => rw [if_neg Bool.false_ne_true] at hk ⊢; exact ⟨(fun x => nomatch x), hk⟩
  exact this _ s h
end
end DL

namespace DL
open PySem L2 PySem.Spec PyProof.Rows
/-- a == b for two tuples of two, the first items by an own == that says True -/
def eqPairOwn (c : Str) (Φ : Fn) (a b : D) : Option D := match a, b with
  | .tup [x, t], .tup [y, u] => if askEq c Φ x y = some true ∧ shp t = true ∧ shp u = true then some (.bl (eqB t u)) else none
  | _, _ => none
section
variable {X : Cx} {cl : Str → Addr} {F : Fra} {W : WX} {k : Nat} {f : Addr} {fd : FuncData} {ps : List Str} {Φ : Fn} {c : Str}
theorem od_eqPair (hs : PySem.W.findIn X.K (.ref (cl c)) "__eq__" = some (some (.ref f))) (hf : PySem.W.isFn X.K (.ref f) = true) (Fn : FnOk X.prog X.w X.K X.mg X.base (L2N.CX X.prog X.w) k f fd ps (spD X.K cl Φ)) (hr : Room (k + 1) X.A) (hb : Binds X.K fd ps []) (hu : X.A.units + 65 < cLine) :
    OpD X cl (compareOp .Eq) (eqPairOwn c Φ) := by
  refine ⟨fun x y H Q => ∃ p q a a' dd dd' fs fs' x1 y1 d e, x = .ref p ∧ y = .ref q ∧ SqT X.K H p [.ref a, x1] ∧ SqT X.K H q [.ref a', y1] ∧ H a = some (.ins (cl c) dd fs) ∧ H a' = some (.ins (cl c) dd' fs') ∧ spD X.K cl Φ [.ref a, .ref a'] H (fun v H' => v = .bl true ∧ Same H H') E0 ∧
    (∀ H', Same H H' → Dp X.K H' x1 d ∧ Dp X.K H' y1 e) ∧ SeqAt.shaped d = true ∧ SeqAt.shaped e = true ∧ ∀ H', Same H H' → Q (.bl (PyData.eqv d e)) H', ?_, ?_⟩
  · intro pins s σ H x y v u Q I rx ry h
    obtain ⟨p, q, a, a', dd, dd', fs, fs', x1, y1, d, e, rfl, rfl, hp, hq, ha, ha', sp, dp, sd, se, fin⟩ := h
    cases rx
    cases ry
    obtain ⟨its, r, pl, _⟩ := I.tuple hp
    obtain ⟨its2, r2, pl2, _⟩ := I.tuple hq
    cases r with
    | cons r0 r1 =>
      cases r1 with
      | cons r1 rn =>
        cases rn
        cases r2 with
        | cons q0 q1 =>
          cases q1 with
          | cons q1 qn =>
            cases qn
            cases r0
            cases q0
            have sb : L2.Sub X (k + 1) X.A := ⟨hr, rfl⟩
            have second : ∀ s1 H', Inv X pins σ H' s1 → Same H H' → EqCh X.prog X.w X.A.in1 X.xe (fun k s' => EP X pins σ Q (.bool k) s') [(_, _)] s1 := fun s1 H' I' sm => by
              obtain ⟨d1, d2⟩ := dp H' sm
              obtain ⟨as, e1⟩ := Dp.reads I' d x1 _ d1 r1
              obtain ⟨bs, e2⟩ := Dp.reads I' e y1 _ d2 q1
              refine SeqAt.EqAt.inModel (PySem.W.keq_at (A := X.A) e1 e2 sd se (by show X.A.units + 1 + 64 < cLine; omega)) X.prog X.w _ _ ?_
              have z : EP X pins σ Q (.bool (PyData.eqv d e)) s1 := ⟨.bl _, H', I', rfl, fin H' sm⟩
              cases q : PyData.eqv d e with
              | true => rw [q] at z; rw [if_pos rfl]; exact z
              | false => rw [q] at z; rw [if_neg Bool.false_ne_true]; exact z
            refine rc_chain pl pl2 rfl hr.units0 ?_
            show wpAny _ _ (eqBool (.ref a) (.ref a')) _ _ _
            unfold eqBool
            refine wpAny_holding ?_
            refine wpAny_ite_split (fun hab => ?_) fun hab => ?_
            · refine wpAny_bind
                                                                                                              (wpAny_rule ?_)
              refine wpAny_pure ?_
              rw [if_pos rfl]
              exact second s H I (.refl _)
            · obtain ⟨mA, J, _⟩ := ins_get I.hok ha
              obtain ⟨mB, J', _⟩ := ins_get I.hok ha'
              obtain ⟨od, J, _⟩ := J.look
              obtain ⟨od', J',
                                                                                                              _⟩ := J'.look
              obtain ⟨m, hF⟩ := I.fr
              refine wpAny_bind (PySem.W.cmp_K (op := .Eq) (tb := .ref (cl c)) sb.in1.room.units0 hF I.ok.mod.kin J J'.type (by simp [PySem.W.notFirst]) hs hf ?_)
              refine wpAny_mono (call_sub Fn sb.in1 hb I (.cons (show RelV (.ref a) (.ref a) from rfl) (.cons (show RelV (.ref a') (.ref a') from rfl) .nil)) sp) (fun r s' z => ?_) fun _ _ z => z
              obtain ⟨w, H', I', rw_, ⟨e, sm⟩⟩ := z
              subst e
              cases rw_
              refine wpAny_truthy_bool ?_
              rw [if_pos rfl]
              exact second s' H' I' sm
  · intro H G x y dx dy dz Q g tx ty hg q
    unfold eqPairOwn at hg
    split at hg
    · rename_i xd td yd ud
      split at hg
      · rename_i hh
        obtain ⟨h1, h2, h3⟩ := hh
        cases hg
        obtain ⟨p, vs, rfl, hp, rp⟩ := tx.tup g
        obtain ⟨p2, vs2, rfl, hp2, rp2⟩ := ty.tup g
        cases rp with
        | cons r0 r1 =>
          cases r1 with
          | cons r1 rn =>
            cases rn
            cases rp2 with
            | cons q0 q1 =>
              cases q1 with
              | cons q1 qn =>
                cases qn
                obtain ⟨a, a', dd, dd', fs, fs', rfl, rfl, ha, ha', sp⟩ := askEq_ok g (.inl r0) (.inl q0) h1
                obtain ⟨p1, s1⟩ := shp_inv h2
                obtain ⟨p2', s2⟩ := shp_inv h3
                refine ⟨p, p2, a, a', dd, dd', fs, fs', _, _, td.py, ud.py, rfl, rfl, hp, hp2, ha, ha', sp, fun H' sm => ⟨((r1.mono g).mono sm).dp p1, ((q1.mono g).mono sm).dp p2'⟩, s1, s2, fun H' sm => q _ H' G (.grow .refl sm) .bl⟩
      · cases hg
    · cases hg
end
end DL

namespace DL
open PySem L2 PySem.Spec PyProof.Rows
/-! ### a, b = xs, xs a list -/
def gTL (gs : List Tg) : Tg := fun d e => match d with
  | .lst ds => gTs gs ds e
  | _ => none
section
variable {X : Cx} {cl : Str → Addr} {F : Fra} {W : WX}
theorem rg_tL {xs : List Expr} {gs : List Tg} {ws : List Nat} {k : Nat} {pos : Pos} (hc : X.calm = true) (h : RGs X cl F ws xs gs) (hn : (assignEach xs X.env).length = gs.length := by rfl) (hst : (assignEach xs X.env).findIdx? (·.1) = none := by rfl) : RG X cl F ws (.Tuple xs k pos) (gTL gs) := by
  refine ⟨PG.imp (pg_unl hc h.pgs hn hst) fun v σ H Q ⟨e, e', G, d, st, r, h, q⟩ => ?_, fun d e e' q => ?_⟩
  · cases d with
    | lst ds =>
      cases r with
      | lst h1 r => exact ⟨_, _, rfl, SqL.of (st.ret.gh _ _ h1), by rw [← r.length]; exact gTs_len h, e, e', G, ds, st, r, h, q⟩
    | _ => cases h
  · cases d with
    | lst ds => exact h.fr _ _ _ q
    | _ => cases q
end
end DL

namespace DL
open PySem L2 PySem.Spec PyProof.Rows
/-! ### a name that owns the list of a comprehension -/
def fLc (vs : List Nat) (fi : M (List D)) (g : Tg) (ft : M Bool) (fe : M R) : M D := fun e => (fi e).bnd fun ds e1 => if plainAt e1 vs then (match lcL vs g ft fe ds [] e1 with
  | .ok out e2 => .ok (.lst out) (e1.back e2 vs)
  | _ => .bad) else .bad
theorem fLc_of {vs : List Nat} {fi : M (List D)} {g : Tg} {ft : M Bool} {fe : M R} {e e' : Env} {d : D} (h : cLc vs fi g ft fe e = .ok (.val d) e') : fLc vs fi g ft fe e = .ok d e' := by
  unfold cLc at h
  unfold fLc
  cases q : fi e with
  | bad => rw [q] at h; cases h
  | exn x e1 => rw [q] at h; cases h
  | ok ds e1 =>
    rw [q] at h
    simp only [v_bnd] at h ⊢
    split at h
    · rename_i pl
      rw [if_pos pl]
      cases z : lcL vs g ft fe ds [] e1 with
      | bad => rw [z] at h; cases h
      | exn x e2 => rw [z] at h; cases h
      | ok out e2 =>
        rw [z] at h
        cases h
        rfl
    · cases h
section
variable {K : PySem.W.Frag} {cl : Str → Addr} {F : Fra} {e e' : Env} {σ σ' : L2.St} {H G H' G' : Hp}
theorem lc_F {W : WX} {vs ws : List Nat} {fi : M (List D)} {g : Tg} {ft : M Bool} {fe : M R} {Q : VK} (hw : ∀ i ∈ ws, i ∈ vs) (hfr : ∀ d e e', g d e = some e' → EAgr ws e e') (h : tFr K cl F W (fLc vs fi g ft fe) σ H Q) :
    tLc (fun σ H Q => ∃ e G, Stt K cl F e σ H G ∧ Post K cl F W σ (fi e) fun ds e' => ∀ J H' G', Stt K cl F e' σ H' G' → Kp F σ e H G e' H' G' → ItOk K cl G' J ds → Q J H') (tG K cl F ws g) (tB' K cl F W0 ft) (tD K cl F W0 fe) vs σ H Q := by
  obtain ⟨e0, G0, st, q⟩ := h
  refine tI_then st q fun ds e1 J H1 G1 s1 k1 it z p hp => ?_
  by_cases pl : plainAt e1 vs = true
  · rw [if_pos pl] at z
    cases hl : lcL vs g ft fe ds [] e1 with
    | bad => rw [hl] at z; exact z.elim
    | exn x e2 => rw [hl] at z; exact z.elim
    | ok out e2 =>
      rw [hl] at z
      obtain ⟨lp, hp0⟩ := s1.fresh hp
      refine ⟨fun i m H => ∃ e acc G, LcI K cl F σ vs p e1 H1 G1 e acc H G ∧ m = ds.length - i ∧ i ≤ ds.length ∧ lcL vs g ft fe (ds.drop i) acc e = .ok out e2, ⟨ds.length, e1, [], G1, ?_, by omega, Nat.zero_le _, by simpa using hl⟩, ?_⟩
      · have g1p : G1 p = none := s1.ret.gh.free hp
        exact ⟨(s1.layL hp).wipe vs, .refl _, ⟨[], upd_same, .nil⟩, g1p, fun a o h1 _ => ⟨by rw [upd_ne (ne_of_none h1 hp)]; exact h1, fun g => g⟩, fun i d _ h => ⟨d, h⟩⟩
      · rintro i m H ⟨e, acc, G, L, rfl, hi, hl⟩
        obtain ⟨it1, it2⟩ := it H G L.gg L.st.ret.gh
        by_cases hlt : i < ds.length
        · have hd : ds[i]? = some ds[i] := List.getElem?_eq_getElem hlt
          obtain ⟨hgo, hy⟩ := it1 i _ hd
          refine .inr ⟨hgo, fun H' => ∃ e acc G, LcI K cl F σ vs p e1 H1 G1 e acc H' G ∧ lcL vs g ft fe (ds.drop (i + 1)) acc e = .ok out e2, fun H' ⟨e', acc', G', L', hl'⟩ => ⟨ds.length - (i + 1), by omega, e', acc', G', L', rfl, hlt, hl'⟩, fun x H2 y => ?_⟩
          obtain ⟨G2, sp, rx⟩ := hy x H2 y
          rw [List.drop_eq_getElem_cons hlt] at hl
          have hl : (match g ds[i] (e.wipe vs) with
            | none => Out.bad
            | some e1 => match ft e1 with
              | .ok true e2 => (match fe e2 with
                | .ok r e3 => (match e3.frz r with
                  | some (y, e4) => if acc.length < sizeLine then lcL vs g ft fe (ds.drop (i + 1)) (acc ++ [y]) e4 else .bad
                  | none => .bad)
                | _ => .bad)
              | .ok false e2 => lcL vs g ft fe (ds.drop (i + 1)) acc e2
              | _ => .bad) = .ok out e2 := hl
          cases hg : g ds[i] (e.wipe vs) with
          | none => rw [hg] at hl; cases hl
          | some e3 =>
            rw [hg] at hl
            refine ⟨e.wipe vs, e3, G2, _, L.st.step sp, rx, hg, fun σ2 ag s2 => ⟨wipe_agr ag hw, e3, G2, s2, ?_⟩⟩
            obtain ⟨sub, gg2, ⟨us, hu1, hu2⟩, gp2, kp2⟩ := L.turn lp sp hw ag (hfr _ _ _ hg)
            have wag := wipe_agr ag hw
            cases ht : ft e3 with
            | bad => simp only [ht] at hl; cases hl
            | exn x e4 => simp only [ht] at hl; cases hl
            | ok b e4 =>
              simp only [ht] at hl
              cases b with
              | false =>
                intro H3 G3 s3 k3
                refine iteF ⟨e4, acc, G3, ⟨?_, gg2.trans k3.gg, ⟨us, (k3.kp p _ hu1 (lp.sub sub)).1, hu2.mono k3.gg⟩, (k3.kp p _ hu1 (lp.sub sub)).2 gp2, fun a o h1 l => ?_, fun j d _ h => ?_⟩, hl⟩
                · have := s3.wipe vs; rw [wag] at this; exact this
                · obtain ⟨q1, q2⟩ := kp2 a o h1 l
                  obtain ⟨q3, q4⟩ := k3.kp a o q1 (l.sub sub)
                  exact ⟨q3, fun g => q4 (q2 g)⟩
                · obtain ⟨d', h'⟩ := k3.ow j d h
                  exact (sub.ow j d' h').2
              | true =>
                intro H3 G3 s3 k3
                refine iteT ⟨e4, G3, s3, ?_⟩
                cases hf : fe e4 with
                | bad => simp only [hf] at hl; cases hl
                | exn x e5 => simp only [hf] at hl; cases hl
                | ok r e5 =>
                  simp only [hf] at hl
                  intro y H4 G4 s4 k4 r4
                  cases hz : e5.frz r with
                  | none => simp only [hz] at hl; cases hl
                  | some py =>
                    obtain ⟨dy, e6⟩ := py
                    simp only [hz] at hl
                    by_cases hsz : acc.length < sizeLine
                    · rw [if_pos hsz] at hl
                      obtain ⟨G5, s5, k5, r5⟩ := frz_ok s4 r4 hz
                      have kk := (k3.trans k4).trans k5
                      obtain ⟨h4p, g5p⟩ := kk.kp p _ hu1 (lp.sub sub)
                      have g5p := g5p gp2
                      refine ⟨us, h4p, by rw [← hu2.length]; exact hsz, e6, acc ++ [dy], G5, ⟨?_, gg2.trans kk.gg, ⟨us ++ [y], upd_same, (hu2.mono kk.gg).append (.cons r5 .nil)⟩, g5p, fun a o h1 l => ?_, fun j d _ h => ?_⟩, hl⟩
                      · have := s5.wipe vs
                        rw [wag] at this
                        refine this.updL h4p g5p hp0 ⟨lp.1, fun j d hj => ?_⟩
                        by_cases hjv : j ∈ vs
                        · cases wipe_in vs e6 hjv hj
                        · rw [wipe_out vs e6 hjv] at hj
                          obtain ⟨d', h'⟩ := kk.ow j d hj
                          obtain ⟨_, d2, h2⟩ := sub.ow j d' h'
                          rw [wipeσ_out vs σ hjv]
                          exact lp.2 j d2 h2
                      · obtain ⟨q1, q2⟩ := kp2 a o h1 l
                        obtain ⟨q3, q4⟩ := kk.kp a o q1 (l.sub sub)
                        exact ⟨by rw [upd_ne (ne_of_none h1 hp)]; exact q3, fun g => q4 (q2 g)⟩
                      · obtain ⟨d', h'⟩ := kk.ow j d h
                        exact (sub.ow j d' h').2
                    · rw [if_neg hsz] at hl; cases hl
        · have e3 : i = ds.length := by omega
          subst e3
          rw [List.drop_length] at hl
          cases hl
          obtain ⟨us, hu1, hu2⟩ := L.hd
          have sb : Stt K cl F (e1.back e2 vs) σ H G := s1.back pl L.gg L.st
          have lb : Loose F (e1.back e2 vs) σ p := ⟨lp.1, fun j d hj => by
            by_cases hjv : j ∈ vs
            · rw [back_in vs e1 e2 (by rw [← s1.len, ← wipe_len vs e2, ← L.st.len, wipe_length]) hjv] at hj
              exact lp.2 j d hj
            · rw [back_out vs e1 e2 hjv] at hj
              obtain ⟨d', h'⟩ := L.ow j d hjv hj
              exact lp.2 j d' h'⟩
          refine .inl ⟨it2, z p H _ sb (k1.trans ⟨L.gg, fun a o h1 l => ?_, fun j d hj => ?_⟩) ⟨us, hu1, hu2⟩ L.gd hp0 lb fun b u q lb' => ?_⟩
          · exact L.kp a o h1 l
          · by_cases hjv : j ∈ vs
            · rw [back_in vs e1 e2 (by rw [← s1.len, ← wipe_len vs e2, ← L.st.len, wipe_length]) hjv] at hj
              exact ⟨d, hj⟩
            · rw [back_out vs e1 e2 hjv] at hj
              exact L.ow j d hjv hj
          · obtain ⟨q1, _⟩ := k1.kp b u q lb'
            exact ne_of_none q1 hp
  · rw [if_neg pl] at z; exact z.elim
end
section
variable {X : Cx} {cl : Str → Addr} {F : Fra} {W : WX}
theorem rf_lc {elt tg iter : Expr} {ifs : List Expr} {scope : Scope} {own : List (Str × Nat)} {ws : List Nat} {pos : Pos} {fi : M (List D)} {g : Tg} {ft : M Bool} {fe : M R} (hc : X.calm = true) (hN : X.N.Nodup) (hi : RI X cl F W tg iter fi) (ok : BlkOk X.N X.env.scope scope own)
    (hg : ∀ (s : Shared) (H : Hp) (C : Addr) (cs : List (Str × Addr)) (fp : List Addr), RG (X.blk s H scope (compEnvC scope cs C X.env) fp) cl F ws tg g)
    (ht : ∀ (s : Shared) (H : Hp) (C : Addr) (cs : List (Str × Addr)) (fp : List Addr), RTs (X.blk s H scope (compEnvC scope cs C X.env) fp) cl F W0 ifs ft)
    (he : ∀ (s : Shared) (H : Hp) (C : Addr) (cs : List (Str × Addr)) (fp : List Addr), RE (X.blk s H scope (compEnvC scope cs C X.env) fp) cl F W0 elt fe)
    (hw : ∀ i ∈ ws, i ∈ own.map (·.2) := by decide) (hs : ∀ x, foldedSetIterable iter X.env x = pure x := by intro _; rfl) : RF X cl F W (.ListComp elt [⟨tg, iter, ifs, 0⟩] scope pos) (fLc (own.map (·.2)) fi g ft fe) :=
  ⟨⟨fun pins s σ H Q I h => (pe_lc hc hN hi.pi ok (fun s H C cs fp => (hg s H C cs fp).pg) (fun s H C cs fp => (ht s H C cs fp).pts) (fun s H C cs fp => (he s H C cs fp).pe) hs).run pins s σ H Q I (lc_F hw (hg s H 0 [] []).fr h)⟩⟩
theorem rs_setLcN {i : Nat} {y : Str} {py : Pos} {elt tg iter : Expr} {ifs : List Expr} {scope : Scope} {own : List (Str × Nat)} {ws : List Nat} {pos spos : Pos} {fi : M (List D)} {g : Tg} {ft : M Bool} {fe : M R} (hc : X.calm = true) (hN : X.N.Nodup) (hi : RI X cl F W tg iter fi) (ok : BlkOk X.N X.env.scope scope own)
    (hg : ∀ (s : Shared) (H : Hp) (C : Addr) (cs : List (Str × Addr)) (fp : List Addr), RG (X.blk s H scope (compEnvC scope cs C X.env) fp) cl F ws tg g)
    (ht : ∀ (s : Shared) (H : Hp) (C : Addr) (cs : List (Str × Addr)) (fp : List Addr), RTs (X.blk s H scope (compEnvC scope cs C X.env) fp) cl F W0 ifs ft)
    (he : ∀ (s : Shared) (H : Hp) (C : Addr) (cs : List (Str × Addr)) (fp : List Addr), RE (X.blk s H scope (compEnvC scope cs C X.env) fp) cl F W0 elt fe)
    (hsw : swapsWith (.ListComp elt [⟨tg, iter, ifs, 0⟩] scope pos) (some (.Name y py)) spos.line X.env = pure true)
    (hy : X.N[i]? = some y := by rfl) (hyl : X.env.scope.names.lookup y = some .local := by rfl)
    (hw : ∀ i ∈ ws, i ∈ own.map (·.2) := by decide) (hs : ∀ x, foldedSetIterable iter X.env x = pure x := by intro _; rfl) : RS X cl F W (.Assign [.Name y py] (.ListComp elt [⟨tg, iter, ifs, 0⟩] scope pos) spos) (sOwn i (fLc (own.map (·.2)) fi g ft fe)) := by
  refine ⟨⟨fun pins s σ H D I ⟨e, G, st, q⟩ => (ps_setLc (te := tD X.K cl F W0 fe) (tt := tB' X.K cl F W0 ft) (g := tG X.K cl F ws g) hc hN hy hyl hsw hi.pi ok (fun s H C cs fp => (hg s H C cs fp).pg) (fun s H C cs fp => (ht s H C cs fp).pts) (fun s H C cs fp => (he s H C cs fp).pe) hs).run pins s σ H D I ?_⟩⟩
  refine lc_F (W := W) hw (hg s H 0 [] []).fr ?_
  refine tFr_st st q fun d e1 a H1 G1 s1 k1 o g h0 l n z => ?_
  exact z _ H1 G1 (s1.setOwn o g h0 l) (.refl _)
end
end DL

namespace DL
open PySem L2 PySem.Spec PyProof.Rows
section
variable {X : Cx} {cl : Str → Addr} {F : Fra} {W : WX}
/-! ### x, y, z, t = a, b, c, d, where a new list may be a name's own -/
def sPar4P (i j l m : Nat) (f g h k : M P) : M Fl := fun e => (f e).bnd fun p e1 => (g e1).bnd fun q e2 => (h e2).bnd fun t e3 => (k e3).bnd fun u e4 => .ok .nx ((((e4.setS i p.s).setS j q.s).setS l t.s).setS m u.s)
theorem rs_par4P {i j l m : Nat} {x y z t : Str} {a b c d : Expr} {f g h k : M P} {px py pz pw pt pt2 pos : Pos} {kt k2 : Nat} (hcm : X.calm = true) (hN : X.N.Nodup) (ha : RP X cl F W a f) (hb : RP X cl F W b g) (hc : RP X cl F W c h) (hd : RP X cl F W d k)
    (hi : X.N[i]? = some x := by rfl) (hj : X.N[j]? = some y := by rfl) (hl : X.N[l]? = some z := by rfl) (hm : X.N[m]? = some t := by rfl)
    (hx : Loc X.env.scope x := by first | exact Or.inl rfl | exact Or.inr rfl) (fx : X.fn x = true ∨ X.env.scope.names.lookup x = some .local := by first | exact .inl rfl | exact .inr rfl) (hy : Loc X.env.scope y := by first | exact Or.inl rfl | exact Or.inr rfl) (fy : X.fn y = true ∨ X.env.scope.names.lookup y = some .local := by first | exact .inl rfl | exact .inr rfl) (hz : Loc X.env.scope z := by first | exact Or.inl rfl | exact Or.inr rfl) (fz : X.fn z = true ∨ X.env.scope.names.lookup z = some .local := by first | exact .inl rfl | exact .inr rfl) (ht : Loc X.env.scope t := by first | exact Or.inl rfl | exact Or.inr rfl) (ft : X.fn t = true ∨ X.env.scope.names.lookup t = some .local := by first | exact .inl rfl | exact .inr rfl)
    (hw : swappedStores [.Tuple [.Name x px, .Name y py, .Name z pz, .Name t pw] kt pt] (.Tuple [a, b, c, d] k2 pt2) X.env = pure none := by rfl)
    (hs : swapsWithSole [.Tuple [.Name x px, .Name y py, .Name z pz, .Name t pw] kt pt] (.Tuple [a, b, c, d] k2 pt2) pos.line X.env = pure false := by rfl)
    (hg : (assignEach [.Tuple [.Name x px, .Name y py, .Name z pz, .Name t pw] kt pt] X.env).map (·.2) = [assign (.Tuple [.Name x px, .Name y py, .Name z pz, .Name t pw] kt pt) X.env] := by rfl)
    (hn : (assignEach [.Name x px, .Name y py, .Name z pz, .Name t pw] X.env).length = 4 := by rfl) (hst : (assignEach [.Name x px, .Name y py, .Name z pz, .Name t pw] X.env).findIdx? (·.1) = none := by rfl)
    (g1 : (assignEach [.Name x px, .Name y py, .Name z pz, .Name t pw] X.env).map (·.2) = assign (.Name x px) X.env :: (assignEach [.Name y py, .Name z pz, .Name t pw] X.env).map (·.2) := by rfl)
    (g2 : (assignEach [.Name y py, .Name z pz, .Name t pw] X.env).map (·.2) = assign (.Name y py) X.env :: (assignEach [.Name z pz, .Name t pw] X.env).map (·.2) := by rfl)
    (g3 : (assignEach [.Name z pz, .Name t pw] X.env).map (·.2) = assign (.Name z pz) X.env :: (assignEach [.Name t pw] X.env).map (·.2) := by rfl)
    (g4 : (assignEach [.Name t pw] X.env).map (·.2) = assign (.Name t pw) X.env :: (assignEach [] X.env).map (·.2) := by rfl)
    (h1 : starEach [a, b, c, d] X.env = (false, eval a X.env) :: starEach [b, c, d] X.env := by rfl) (h2 : starEach [b, c, d] X.env = (false, eval b X.env) :: starEach [c, d] X.env := by rfl) (h3 : starEach [c, d] X.env = (false, eval c X.env) :: starEach [d] X.env := by rfl) (h4 : starEach [d] X.env = (false, eval d X.env) :: starEach [] X.env := by rfl) :
    RS X cl F W (.Assign [.Tuple [.Name x px, .Name y py, .Name z pz, .Name t pw] kt pt] (.Tuple [a, b, c, d] k2 pt2) pos) (sPar4P i j l m f g h k) := by
  refine ⟨PS.imp (ps_asg (pe_tup (pa_cons ha.pe (pa_cons hb.pe (pa_cons hc.pe (pa_cons hd.pe pa_nil h4) h3) h2) h1)) (pg_tup hcm (pgs_cons (pg_name hN hi hx fx) (pgs_cons (pg_name hN hj hy fy) (pgs_cons (pg_name hN hl hz fz) (pgs_cons (pg_name hN hm ht ft) pgs_nil g4) g3) g2) g1) hn hst) hs hw hg) fun D σ H ⟨e, G, st, q⟩ => ⟨e, G, st, ?_⟩⟩
  cases hf : f e with
  | bad => simp only [sPar4P, hf] at q; exact q
  | exn x e1 => simp only [sPar4P, hf] at q; exact Xn.of q
  | ok p1 e1 =>
    simp only [sPar4P, hf] at q
    intro u1 H1 G1 s1 k1 r1 n1
    refine ⟨e1, G1, s1, ?_⟩
    cases hgg : g e1 with
    | bad => simp only [Out.bnd, hgg] at q; exact q
    | exn x e2 => simp only [Out.bnd, hgg] at q; exact Xn.of q
    | ok p2 e2 =>
      simp only [Out.bnd, hgg] at q
      intro u2 H2 G2 s2 k2 r2 n2
      refine ⟨e2, G2, s2, ?_⟩
      cases hh : h e2 with
      | bad => simp only [Out.bnd, hh] at q; exact q
      | exn x e3 => simp only [Out.bnd, hh] at q; exact Xn.of q
      | ok p3 e3 =>
        simp only [Out.bnd, hh] at q
        intro u3 H3 G3 s3 k3 r3 n3
        refine ⟨e3, G3, s3, ?_⟩
        cases hk : k e3 with
        | bad => simp only [Out.bnd, hk] at q; exact q
        | exn x e4 => simp only [Out.bnd, hk] at q; exact Xn.of q
        | ok p4 e4 =>
          simp only [Out.bnd, hk] at q
          intro u4 H4 G4 s4 k4 r4 n4
          refine ⟨by rw [sizeLine_eq]; exact (by decide : (4 : Nat) ≤ 16777216), fun p hp => ⟨p, _, rfl, .inl (.inl upd_same), rfl, _, _, rfl, _, _, rfl, _, _, rfl, _, _, rfl, rfl, ?_⟩⟩
          obtain ⟨s5, k5, _, _, _, _⟩ := s4.new (o := .tup [u1, u2, u3, u4]) .refl hp
          have ne : ∀ {pa pb : P} {ea : Env} {Ha Ga : Hp} {ua ub : V}, PRel X.K cl F σ ea Ha Ga pa ua → (∀ d, pb = .n d → ∀ b o, Ha b = some o → Loose F ea σ b → ub ≠ .ref b) → ∀ d d1, pb = .n d → pa = .n d1 → ub ≠ ua := fun {pa pb ea Ha Ga ua ub} ra nb d d1 e1 e2 => by
            subst e2
            obtain ⟨b1, e4, o1, g1, h01, l1⟩ := ra
            obtain ⟨oo, qq⟩ := o1.ex
            rw [e4]
            exact nb d e1 b1 oo qq l1
          have r1b := r1.mono k2
          have r1c := r1b.mono k3
          have r2c := r2.mono k3
          have r1e := (r1c.mono k4).mono k5
          have r2e := (r2c.mono k4).mono k5
          have r3e := (r3.mono k4).mono k5
          have r4e := r4.mono k5
          have ln : e4.s.length = σ.length := s4.len.symm
          have t1 := s5.setP r1e i
          have r2' := PRel.setP (i := i) (p := p1) ln r2e (ne r1 n2) (fun _ _ => trivial)
          have t2 := t1.setP r2' j
          have r3' := PRel.setP (i := i) (p := p1) ln r3e (ne r1b n3) (fun _ _ => trivial)
          have r3'' := PRel.setP (i := j) (p := p2) (by simpa [Env.setS] using ln) r3' (ne r2 n3) (fun _ _ => trivial)
          have t3 := t2.setP r3'' l
          have r4' := PRel.setP (i := i) (p := p1) ln r4e (ne r1c n4) (fun _ _ => trivial)
          have r4'' := PRel.setP (i := j) (p := p2) (by simpa [Env.setS] using ln) r4' (ne r2c n4) (fun _ _ => trivial)
          have r4''' := PRel.setP (i := l) (p := p3) (by simpa [Env.setS] using ln) r4'' (ne r3 n4) (fun _ _ => trivial)
          exact q _ _ G4 (t3.setP r4''' m) (((k1.gg.trans k2.gg).trans k3.gg).trans k4.gg)
end
end DL

namespace DL
open PySem L2 PySem.Spec PyProof.Rows
/-! ### t * 1 is t itself -/
theorem tuple_mul1 (l : Addr) (items : Array Value) (n : Nat) (dd : Option Addr) (sl : Array (Option Value)) (u : Tok) :
    Meets (Builtin.«tuple.__mul__» ⟨[.ref l, .int 1 u], []⟩) (fun _ R s => s.heap.get? l = some { cls := .type "tuple", dict := dd, data := .seq items n, slots := sl } ∧ R (.ok (.ret (Value.ref l))) s) :=
  .of_wp fun prog
                                                                                                              w A R s h => by
    obtain ⟨hp, g,
                                                                                                              d, tk, os⟩ := s
    obtain ⟨hl, h⟩ := h
    have f1 := AutoSeq1.idx_int
    have c0 : (decide ((1 : Int) < -(2 ^ 63)) || decide ((1 : Int) ≥ 2 ^ 63)) = false := by decide
    have c1 : (items.isEmpty || (1 : Int) == 1) = true := by rw [Bool.or_eq_true]; exact .inr rfl
    wp_walk using
                                                                                                              wpAny_loadPart' hl
    repeat (first
      | (refine wpAny_ite_false (decide_eq_false (by rw [c0]; exact
                                                                                                              Bool.false_ne_true)) ?_; wp_walk using wpAny_loadPart' hl)
      | (refine wpAny_ite_true (decide_eq_true c1) ?_; wp_walk using wpAny_loadPart' hl))
    exact ⟨_, rfl, h⟩
def rRepT1 (K : PySem.W.Frag) : R2 := fun x y H Q => ∃ l xs, x = .ref l ∧ y = .int 1 ∧ SqT K H l xs ∧ xs ≠ [] ∧ Q (.ref l) H
section
variable {X : Cx} {cl : Str → Addr}
theorem op_repT1 : OpR X (binaryOp .Mult) (rRepT1 X.K) := by
  intro pins s σ H x
                                                                                                              y v u Q I rx ry h
  obtain ⟨l, xs, rfl, rfl, hT, hne, q⟩ := h
  cases rx
  obtain ⟨t, rfl⟩ := ry
  obtain ⟨its, r, ⟨⟨cls, dd, data, sl⟩,
                                                                                                              ho, hc, n, hd⟩, hs⟩ := I.tuple hT
  simp only at hc hd
  subst hc hd
  refine wpAny_binaryOp_repeat_ref (T := "tuple") (U := "int") (by decide) ⟨_, ho, rfl⟩ (fun s' => typeIs_int s' 1 t) noFill_tuple_mul F.fills_int_mul F.slot_int_rmul repeat_tuple F.slot_int_index.lookup
    (call_meets F.slot_int_rmul (typeIs_int s 1 t) F.entry_int_rmul (F.args_int_rmul_2 _ _) (int_rmul_tuple 1 t l its.toArray n dd sl)
      ⟨ho, rfl, ⟨_, ho, rfl⟩, call_meets F.slot_tuple_mul ⟨_, ho, rfl⟩ F.entry_tuple_mul (F.args_tuple_mul_2 _ _) (tuple_mul1 l its.toArray n dd sl t) ⟨ho, ?_⟩⟩)
  exact ⟨.ref l, _, I, rfl, q⟩
def mulTD : D → D → Option D
  | .tup a, .int k => if a ≠ [] ∧ 1 ≤ k ∧ k ≤ 1000 ∧ a.length ≤ 1000 then some (.tup (List.replicate k.toNat a).flatten) else none
  | _, _ => none
theorem od_mulT : OpD X cl (binaryOp .Mult) mulTD := by
  refine ⟨_, op_repT1.or op_repT, fun H G x y dx dy dz Q gh tx ty e k => ?_⟩
  unfold mulTD at e
  split at e
  · split at e
    · cases e
      rename_i a i h
      obtain ⟨a1, v1, rfl, h1, r1⟩ := tx.tup gh
      by_cases c : i = 1
      · subst c
        refine .inl ⟨a1, v1, rfl, ty.int, h1, fun z => h.1 (by subst z; cases r1; rfl), ?_⟩
        have e1 : (List.replicate (1 : Int).toNat a).flatten = a := by simp
        rw [e1] at k
        have tr : Rep X.K cl G (.tup a) (.ref a1) := by
          rcases tx with t | ⟨_, _, _, t⟩
          · exact t
          · exact t.elim
        exact k _ H G .refl tr
      · refine .inr ⟨a1, _, v1, rfl, ty.int, h1, fun z => h.1 (by subst z; cases r1; rfl), by omega, h.2.2.1, by rw [← r1.length]; exact h.2.2.2, fun p hp => ?_⟩
        exact k _ _ _ (.lay .refl hp) (.tup (SqT.of upd_same) ((r1.rep _).mono (same_upd (gh.free hp))))
    · cases e
  · cases e
end
end DL

namespace DL
open PySem L2 PySem.Spec PyProof.Rows
/-! ### sep.join(texts), text.split(sep) -/
def strsOf : List D → Option (List Str)
  | [] => some []
  | .str s :: l => (strsOf l).map (s :: ·)
  | _ :: _ => none
theorem strsOf_vals {K : PySem.W.Frag} {cl : Str → Addr} {G : Hp} : ∀ {l : List D} {vs : List V} {ys : List Str}, RepL K cl G l vs → strsOf l = some ys → vs = ys.map V.str
  | [], _, ys, .nil, e => by cases e; rfl
  | d :: l, _, ys, .cons r t, e => by
    cases d with
    | str s =>
      obtain ⟨ys', e1, rfl⟩ := Option.map_eq_some_iff.mp e
      cases r
      rw [strsOf_vals t e1]
      rfl
    | _ => cases e
def joinD (a : Str) : D → Option D
  | .lst l => (strsOf l).bind fun ys => if (ys.map (·.length)).sum + ys.length * a.length ≤ 16777216 then some (.str (Txt.join a ys)) else none
  | .tup l => (strsOf l).bind fun ys => if (ys.map (·.length)).sum + ys.length * a.length ≤ 16777216 then some (.str (Txt.join a ys)) else none
  | _ => none
def splitD (a : Str) : D → Option D
  | .str b => if (b.length == 0) = false ∧ a.length + 2 ≤ sizeLine then some (.lst ((Txt.split a b).map D.str)) else none
  | _ => none
def cStr1 (g : Str → D → Option D) (fo fe : M R) : M R := fun e => (fo e).bnd fun r e1 => match r with
  | .val (.str a) => (fe e1).bnd fun q e2 => opt ((e2.rd q).bind (g a)) e2
  | _ => .bad
section
variable {X : Cx} {cl : Str → Addr} {F : Fra} {W : WX}
theorem re_join {o x : Expr} {fo fe : M R} {apos pos : Pos} (ho : RE X cl F W o fo) (he : RE X cl F W x fe) (hs : starEach [x] X.env = [(false, eval x X.env)] := by rfl) (hbase : attributeBase o "join" X.env (eval o X.env) = eval o X.env := by rfl) (hline : (apos.endLine == pos.line) = true := by rfl) :
    RE X cl F W (.Call (.Attribute o "join" apos) [x] [] pos) (cStr1 joinD fo fe) := by
  refine ⟨PE.imp (pe_join ho.pe he.pe hs hbase hline) fun σ H Q ⟨e, G, st, q⟩ => tD_then st q fun r e1 v H1 G1 s1 k1 r1 z => ?_⟩
  cases r with
  | whole i => exact z.elim
  | val d =>
    cases d with
    | str a =>
      cases r1
      refine ⟨⟨a, rfl⟩, tD_then s1 z fun q e2 y H2 G2 s2 k2 r2 z => ?_⟩
      cases hq : e2.rd q with
      | none => rw [hq] at z; exact z.elim
      | some d =>
        rw [hq, Option.bind_some] at z
        have t := s2.top r2 hq
        cases d with
        | lst l =>
          simp only [joinD] at z
          cases hy : strsOf l with
          | none => rw [hy] at z; exact z.elim
          | some ys =>
            rw [hy, Option.bind_some] at z
            split at z
            · rename_i hz
              obtain ⟨p, vs, rfl, h1, rr⟩ := t.lst s2.ret.gh
              rw [strsOf_vals rr hy] at h1
              exact ⟨a, p, ys, rfl, rfl, .inl (.inl (.inl h1)), hz, z _ _ _ s2 (k1.trans k2) .str⟩
            · exact z.elim
        | tup l =>
          simp only [joinD] at z
          cases hy : strsOf l with
          | none => rw [hy] at z; exact z.elim
          | some ys =>
            rw [hy, Option.bind_some] at z
            split at z
            · rename_i hz
              obtain ⟨p, vs, rfl, h1, rr⟩ := t.tup s2.ret.gh
              rw [strsOf_vals rr hy] at h1
              exact ⟨a, p, ys, rfl, rfl, .inr h1, hz, z _ _ _ s2 (k1.trans k2) .str⟩
            · exact z.elim
        | _ => exact z.elim
    | _ => exact z.elim
theorem repStrs {K : PySem.W.Frag} {cl : Str → Addr} {G : Hp} : ∀ ys : List Str, RepL K cl G (ys.map D.str) (ys.map V.str)
  | [] => .nil
  | y :: ys => .cons .str (repStrs ys)
theorem re_split {o x : Expr} {fo fe : M R} {apos pos : Pos} (ho : RE X cl F W o fo) (he : RE X cl F W x fe) (hs : starEach [x] X.env = [(false, eval x X.env)] := by rfl) (hbase : attributeBase o "split" X.env (eval o X.env) = eval o X.env := by rfl) (hline : (apos.endLine == pos.line) = true := by rfl) :
    RE X cl F W (.Call (.Attribute o "split" apos) [x] [] pos) (cStr1 splitD fo fe) := by
  refine ⟨PE.imp (pe_split ho.pe he.pe hs hbase hline) fun σ H Q ⟨e, G, st, q⟩ => tD_then st q fun r e1 v H1 G1 s1 k1 r1 z => ?_⟩
  cases r with
  | whole i => exact z.elim
  | val d =>
    cases d with
    | str a =>
      cases r1
      refine ⟨⟨a, rfl⟩, tD_then s1 z fun q e2 y H2 G2 s2 k2 r2 z => ?_⟩
      cases hq : e2.rd q with
      | none => rw [hq] at z; exact z.elim
      | some d =>
        rw [hq, Option.bind_some] at z
        have t := s2.top r2 hq
        cases d with
        | str b =>
          simp only [splitD] at z
          split at z
          · rename_i hz
            have ey := t.str
            subst ey
            refine ⟨a, b, rfl, rfl, hz.1, hz.2, fun p hp => ?_⟩
            have sp : Step H2 G2 (upd H2 p (.lst ((Txt.split a b).map V.str))) (upd G2 p (.lst ((Txt.split a b).map V.str))) := .lay .refl hp
            exact z _ _ _ (s2.step sp) ((k1.trans k2).trans (Kp.step s2 sp)) (.lst upd_same (repStrs _))
          · exact z.elim
        | _ => exact z.elim
    | _ => exact z.elim
end
end DL


/-! exceptions of own classes above any of the language's plain ones: made with one value kept -/
namespace PySem
namespace DLX
open PySem.W
open PySem.Calls
open PyProof.Rows PySem.HandSPX
abbrev tailOf (B : String) : List Value := [.type B, .type "Exception", .type "BaseException", .type "object"]
/-- a plain error class of the language: how it is made, how its objects keep a field -/
structure BaseB (B nw iw : String) : Prop where
  f : ExcBaseFacts B nw iw (tailOf B)
  st : StoreFacts B (tailOf B) "object.__setattr__" "object"
theorem base_VE : BaseB "ValueError" "ValueError.__new__" "ValueError.__init__" := ⟨F.excBase_ValueError, F.store_ValueError⟩
theorem base_LE : BaseB "LookupError" "LookupError.__new__" "LookupError.__init__" := ⟨F.excBase_LookupError, F.store_LookupError⟩
theorem base_AE : BaseB "ArithmeticError" "ArithmeticError.__new__" "ArithmeticError.__init__" := ⟨F.excBase_ArithmeticError, F.store_ArithmeticError⟩
open Builtin Builtin.ObjectAttr in
/-- an error's first field: it gets its dict -/
theorem osaT {prog : Program} {w : World} {A : Around} {R : Result → Shared → Prop} {s : Shared} {B nw iw : String} {K : W.Frag} {name : Str} {tk : Tok} {v : Value} {x C : Addr} {fv : Array Value} {cd : ClassData} (Z : BaseB B nw iw) (X : K.In s.heap)
    (there : s.heap.get? x = some { cls := .ref C, data := .fields fv }) (over : W.excOver K C (tailOf B) = true) (hcd : W.clsIn K C = some cd) (hh : cd.hasDict = true) (free : W.findIn K (.ref C) name = some none)
    (done : ∀ (hn : Heap) (tn : Nat), s.heap.objs.size ≠ x → (∀ b o, b ≠ x → s.heap.get? b = some o → hn.get? b = some o) → hn.get? x = some { cls := .ref C, dict := some s.heap.objs.size, data := .fields fv } →
      hn.Ns1 s.heap.objs.size (fun y => if y = name then some v else none) → R (.ok (.ret .none)) { s with heap := hn, toks := tn }) :
    codeAny (model prog w) A (.call (.builtin "object.__setattr__")
      ⟨[.ref x, .str name tk, v], []⟩) R s := by
  obtain ⟨hp, gs, dr, tks, os⟩ := s
  refine W.osa_openX Z.st X (od := none) (r := none) ⟨there, rfl, rfl, trivial⟩ over (by unfold W.takerIn; rw [free]; rfl) fun b => ?_
  have off : hp.objs.size ≠ x := (Nat.ne_of_lt (Heap.lt_size there)).symm
  have cls : W.Looks (model prog w) hp (classData C) cd := W.looks_clsIn X hcd
  cases cd
  dsimp only at hh
  subst hh
  show wpAny _ _ (storeInOwnDict _ _ _ _ _ _) _ _ _
  unfold storeInOwnDict
  unfold ownDictForStores
  repeat' first
    | (with_reducible refine wpAny_loadPart_at there ?_)
    | (with_reducible refine cls.at ?_)
    | (with_reducible refine store_in_new ?_ ?_)
    | wp_step
  · refine ⟨_, #[], _, Eq.trans (Heap.get?_update_ne _ _ _ _ off) (Heap.get?_push_at rfl rfl), rfl, fun _ z => ?_, fun _ => rfl⟩
    simp at z
  · intro hn tn names same
    refine done hn tn off (fun b o hb ho => ?_) ?_ names
    · have nb : b ≠ hp.objs.size := Nat.ne_of_lt (Heap.lt_size ho)
      rw [same.2 b nb, Heap.get?_update_ne _ _ _ _ hb]
      exact (Heap.get?_push_of_some _ ho :)
    · rw [same.2 x off.symm]
      exact Heap.get?_update_self _ (Heap.get?_push_of_some _ there) rfl
end DLX
end PySem

namespace DL
open PySem PySem.Spec PyProof.Rows L2 PySem.DLX
/-- what the written part says of the class at C, above the plain class B -/
structure ErrC (K : PySem.W.Frag) (C : Addr) (B nw iw : String) : Prop where
  base : BaseB B nw iw
  init : PySem.W.excInitIn K C (tailOf B) nw = true
  over : PySem.W.excOver K C (tailOf B) = true
  cd : ∃ cd, PySem.W.clsIn K C = some cd ∧ cd.hasDict = true
  isE : PySem.W.subIn K (.ref C) (.type "BaseException") = some true
  keeps : PySem.W.keepIn K (.ref C) = true
  setA : PySem.W.findIn K (.ref C) "__setattr__" = some (some (.builtin "object.__setattr__"))
  ofT : PySem.W.typeIn K (.ref C) = some (.type "type")
/-- the error e of class C gets a dict d with one name -/
def given (H : Hp) (a C d : Addr) (f : Str) (y : V) : Hp := upd (upd H d (exd d [(f, y)])) a (exo a C (some d))
section
variable {H : Hp} {a C d : Addr} {f : Str} {y : V}
theorem given_at {b : Addr} (h1 : b ≠ a) (h2 : b ≠ d) : given H a C d f y b = H b := by unfold given; rw [upd_ne h1, upd_ne h2]
theorem given_a : given H a C d f y a = some (exo a C (some d)) := upd_same
theorem given_d (h : d ≠ a) : given H a C d f y d = some (exd d [(f, y)]) := by unfold given; rw [upd_ne h, upd_same]
/-- what is no error without a dict stays told -/
theorem given_keep (ea : H a = some (exo a C none)) (nd : H d = none) {b : Addr} {u : HO} (hb : H b = some u) (hu : exo a C none ≠ u) : given H a C d f y b = some u := by
  have n1 : b ≠ a := at_ne ea hb hu
  have n2 : b ≠ d := fun z => by rw [z, nd] at hb; cases hb
  rw [given_at n1 n2, hb]
end
section
variable {X : Cx} {pins : List (Addr × Obj)} {σ : L2.St} {H : Hp} {s : Shared} {a C : Addr} {f : Str} {y : V} {u : Value} {Q : Unit → Shared → Prop} {E : Value → Shared → Prop} {A : Around} {B nw iw : String}
/-- the invariant when an error has its first field -/
theorem given_inv {h' : Heap} {tn : Nat} {t1 : Addr} {mA : Str → Option Value} (I : Inv X pins σ H s) (ea : H a = some (exo a C none)) (off : s.heap.objs.size ≠ a) (keep : ∀ b o, b ≠ a → s.heap.get? b = some o → h'.get? b = some o)
    (obj : h'.get? a = some { cls := .ref C, dict := some s.heap.objs.size, data := .fields #[.ref t1, .none, .none, .none, .bool false, .none] }) (names : h'.Ns1 s.heap.objs.size mA) (rel : ∀ g, RelO (List.lookup g [(f, y)]) (mA g)) :
    Inv X pins σ (given H a C s.heap.objs.size f y) { s with heap := h', toks := tn } := by
  have nd : H s.heap.objs.size = none := I.hok.fresh (Nat.le_refl _)
  have old : ∀ {b : Addr}, H b = none → b ≠ a := fun {b} n z => by rw [z, ea] at n; cases n
  have low : ∀ {b : Addr} {o : Obj}, s.heap.get? b = some o → b ≠ s.heap.objs.size := fun z => Nat.ne_of_lt (Heap.lt_size z)
  have step : Un X.fs [] H (given H a C s.heap.objs.size f y) s.heap h' := by
    constructor
    · exact fun b o hb n _ _ => keep b o (old n) hb
    · exact fun b o hb n _ _ => ⟨_, keep b o (old n) hb⟩
    · exact fun b o hb n _ => (given_at (old n) (low hb)).trans n
    · intro b o hb _
      rcases Classical.em (b = a) with rfl | ne
      · exact ⟨_, obj⟩
      · exact ⟨_, keep b o ne hb⟩
    · exact fun b xs z => given_keep ea nd z exo_tup
    · exact fun b o v z => given_keep ea nd z exo_frz
    · exact fun b ps z => ⟨#[], by rw [given_keep ea nd z exo_tbl, Array.append_empty]⟩
  refine I.un (t' := tn) step fun b o told => ?_
  rcases Classical.em (b = a) with rfl | n1
  · cases (given_a.symm.trans told)
    exact exo_ok obj
  rcases Classical.em (b = s.heap.objs.size) with rfl | n2
  · cases ((given_d off).symm.trans told)
    exact exd_ok names rel
  rw [given_at n1 n2] at told
  refine (I.hok b o told).stay (fun c v hc z => keep c v (fun w => ?_) z) (fun c z => given_keep ea nd z exo_own) fun c xs z => given_keep ea nd z exo_tup
  rcases hc with hc | hc
  · exact n1 (hc.symm.trans w)
  · exact at_ne ea hc exo_own w
/-- the first field is kept -/
theorem ostT (T : ErrC X.K C B nw iw) (I : Inv X pins σ H s) (e : H a = some (exo a C none)) (hno : PySem.W.findIn X.K (.ref C) f = some none) (ry : RelV y u)
    (h : ∀ dx s', H dx = none → dx ≠ a → Inv X pins σ (given H a C dx f y) s' → Q () s') : wpAny (model X.prog X.w) A (setAttr (.ref a) f u) Q E s := by
  obtain ⟨cd, cl, dict⟩ := T.cd
  obtain ⟨t1, there⟩ := exo_at I.hok e
  refine PySem.W.set_plain I.kIn (od := none) ⟨there, rfl, rfl, trivial⟩ T.setA (osaT T.base I.kIn there T.over cl dict hno fun hn tn off keep obj names => ?_)
  exact h _ _ (I.hok.fresh (Nat.le_refl _)) off (given_inv I e off keep obj names (relO_put (fs := []) ry fun g => True.intro))
end
end DL

namespace DL
open PySem PySem.Spec PyProof.Rows L2 PySem.DLX
/-! ### the __init__ that keeps one value -/
def spI (C : Addr) (f : Str) : Sp := fun vs H Q E => ∃ (a : Addr) (y : V), vs = [.ref a, y] ∧ H a = some (exo a C none) ∧ ∀ dx, H dx = none → dx ≠ a → Q .non (upd (upd H dx (exd dx [(f, y)])) a (exo a C (some dx)))
def tOs (C : Addr) (f : Str) (to te : TE) : TS := fun D σ H => te σ H fun y H1 => to σ H1 fun x H2 => ∃ a : Addr, x = .ref a ∧ H2 a = some (exo a C none) ∧ ∀ dx, H2 dx = none → dx ≠ a → D.nx σ (upd (upd H2 dx (exd dx [(f, y)])) a (exo a C (some dx)))
section
variable {X : Cx} {o e : Expr} {to te : TE} {f B nw iw : Str} {C : Addr} {p' pos : Pos} {B nw iw : String}
theorem ps_os (T : ErrC X.K C B nw iw) (hno : PySem.W.findIn X.K (.ref C) f = some none) (ho : PE X o to) (he : PE X e te) (hs : swapsWith e (some (.Attribute o f p')) pos.line X.env = pure false := by rfl) : PS X (.Assign [.Attribute o f p'] e pos) (tOs C f to te) := by
  constructor
  intro pins s σ H D I h
  refine plainObj_wpAny_Assign_Attribute (thn (he.run pins s σ H _ I h) fun v s1 ⟨y, H1, I1, r1, q1⟩ => thn (ho.run pins s1 σ H1 _ I1 q1) fun u s2 ⟨x, H2, I2, r2, a, ex, ea, q⟩ => ?_) hs
  subst ex
  have eu : u = Value.ref a := r2
  subst eu
  exact ostT T I2 ea hno r1 fun dx s' n ne J => ⟨σ, _, J, q dx n ne⟩
end
section
variable {P : Program} {w : World} {K : PySem.W.Frag} {mg : Str → Option Value} {base : Heap} {k : Nat} {f : Addr} {fd : FuncData} {x qual s v fl : Str} {params : Arguments} {scope : Scope} {C : Addr} {p1 p2 p' pos : Pos} {B nw iw : String}
theorem init_ok (T : ErrC K C B nw iw) (hno : PySem.W.findIn K (.ref C) fl = some none) (Fn : FunD K x qual params [.Assign [.Attribute (.Name s p1) fl p'] (.Name v p2) pos] scope [] [] f fd) (S : FnScope [s, v] [s, v] scope)
    (hs : Vis scope s) (hv : Vis scope v) (h1 : (s == ("__debug__" : Str)) = false := by decide) (h2 : (s == ("__classdict__" : Str)) = false := by decide) (h3 : (v == ("__debug__" : Str)) = false := by decide) (h4 : (v == ("__classdict__" : Str)) = false := by decide) :
    FnOk P w K mg base (L2N.CX P w) (k + 1) f fd [s, v] (spI C fl) := by
  refine FunD.ok Fn S (fun vs H Q E h => ?_) fun cdv A outer sh H vs Q E hr h => ?_
  · obtain ⟨a, y, rfl, _⟩ := h
    rfl
  · obtain ⟨a, y, rfl, ha, q⟩ := h
    refine ⟨_, pss_one (ps_os T hno (pe_var (i := 0) rfl hs h1 h2) (pe_var (i := 1) rfl hv h3 h4)), ?_⟩
    exact ⟨y, rfl, .ref a, rfl, a, rfl, ha, fun dx n ne => q dx n ne⟩
end

/-! ### C(v) as what is raised -/
section
variable {X : Cx} {x fl : Str} {e : Expr} {te : TE} {p pos : Pos} {C fI : Addr} {k : Nat} {fd : FuncData} {ps : List Str} {B nw iw : String}
theorem upd_del {H1 : Hp} {a d : Addr} {o o1 o2 u : HO} (h : H1 a = none) (hd : d ≠ a) : upd (del (upd (upd (upd H1 a o) d o1) a o2) a) d u = upd H1 d u := by
  funext b
  by_cases hb : b = d
  · rw [hb, upd_same, upd_same]
  · rw [upd_ne hb, upd_ne hb]
    by_cases ha : b = a
    · rw [ha, del_same, h]
    · rw [del_ne ha, upd_ne ha, upd_ne hb, upd_ne ha]
/-- the arguments, then the error, laid on the heap -/
def laidE (h : Heap) (us : List Value) (C : Addr) : Heap := (h.push (PySem.W.kdv_tup us)).push (PySem.HandSPX.excO C h.objs.size)
theorem laidE_keep {h : Heap} {us : List Value} {C b : Addr} {o : Obj} (z : h.get? b = some o) : (laidE h us C).get? b = some o := by
  unfold laidE
  exact Heap.get?_push_of_some _ (Heap.get?_push_of_some _ z)
theorem laidE_inv {pins : List (Addr × Obj)} {σ : L2.St} {H : Hp} {s : Shared} {us : List Value} {C : Addr} (I : Inv X pins σ H s) :
    Inv X pins σ (upd H (s.heap.objs.size + 1) (exo (s.heap.objs.size + 1) C none)) { s with heap := laidE s.heap us C } := by
  have here : (laidE s.heap us C).get? (s.heap.objs.size + 1) = some (PySem.HandSPX.excO C s.heap.objs.size) := by
    unfold laidE
    heap_get
  exact Inv.laid (t' := s.toks) I (fun _ _ z => laidE_keep z) (Nat.le_add_right _ 1) (exo_ok here)
/-- one value, of which P is true -/
def oneV (P : V → Hp → Prop) : List V → Hp → Prop
  | [y], H => P y H
  | _, _ => False
theorem oneV_of {P : V → Hp → Prop} {H : Hp} : ∀ {vs : List V}, oneV P vs H → ∃ y, vs = [y] ∧ P y H
  | [y], z => ⟨y, rfl, z⟩
/-- what an error's __init__ tells -/
def keptE (H : Hp) (e C : Addr) (fl : Str) (y : V) : VK := fun v H2 => v = .non ∧ ∃ d, d ≠ e ∧ H d = none ∧ H2 = given (upd H e (exo e C none)) e C d fl y
theorem pmk_err (T : ErrC X.K C B nw iw) (iC : PySem.W.findIn X.K (.ref C) "__init__" = some (some (.ref fI))) (tI : PySem.W.typeIn X.K (.ref fI) = some (.type "function"))
    (F1 : FnOk X.prog X.w X.K X.mg X.base (L2N.CX X.prog X.w) k fI fd ps (spI C fl)) (hr : Room (k + 1) X.A) (hb : Binds X.K fd ps []) (hg : Gl X x) (hm : X.mg x = some (.ref C)) (ha : PE X e te)
    (hdb : (x == ("__debug__" : Str)) = false := by decide) (he : starEach [e] X.env = (false, eval e X.env) :: starEach [] X.env := by rfl) (hpl : (backTo pos (starEach [] X.env)).any (·.1) = false := by rfl) :
    L2N.PMk X (.Call (.Name x p) [e] [] pos) (fun σ H Q => te σ H fun y H1 => ∀ d, H1 d = none → Q (.ref C) (some d) (upd H1 d (.xd [(fl, y)]))) := by
  intro pins s σ H Q I h
  refine wpAny_Call_Name_kw (ld_glob I hg hm
    ?_ hdb)
  refine PySem.W.callWith_K (h₀ := X.base) I.ok.mod.kin T.keeps (thn ((pa_cons ha pa_nil he).run pos pins s σ H (oneV fun y H1 => ∀ d, H1 d = none → Q (.ref C) (some d) (upd H1 d (.xd [(fl, y)]))) I h) fun us s1 ⟨vs, H1, I1, rel, one⟩ => ⟨I1.kIn, ?_⟩) he hpl
  change wpAny _ _ (call (.ref C) us) _ _ _
  obtain ⟨y, rfl, told⟩ := oneV_of one
  obtain ⟨nm, N, qn, bs, bm, hd, sn, sub, ab, col, dd, k0, k1, k2, k3, k5, hC, like⟩ := PySem.W.excInit_of I1.kIn T.init
  have new : H1 (s1.heap.objs.size + 1) = none := I1.hok.fresh (Nat.le_add_right _ 1)
  have J := laidE_inv (us := us) (C := C) I1
  have args : Vals [V.ref (s1.heap.objs.size + 1), y] (Value.ref (s1.heap.objs.size + 1) :: us) := .cons rfl rel
  have spec : spI C fl [V.ref (s1.heap.objs.size + 1), y] (upd H1 (s1.heap.objs.size + 1) (exo (s1.heap.objs.size + 1) C none)) (keptE H1 (s1.heap.objs.size + 1) C fl y) (fun _ _ _ => False) :=
    ⟨_, _, rfl, upd_same, fun d nd off => ⟨rfl, d, off, (upd_ne off).symm.trans nd, rfl⟩⟩
  have few : us.length = 1 := (Paired.length rel).symm
  have bind := hb { s1 with heap := laidE s1.heap us C } (Value.ref (s1.heap.objs.size + 1) :: us) J.kIn (by
    rw [List.append_nil, ← F1.len _ _ _ _ spec, List.length_cons, few]
    rfl)
  rw [List.append_nil] at bind
  refine wpAny_call (PySem.HandSPX.call_own T.base.f like hC (PySem.W.looks_findIn I1.kIn iC) (fun self => PySem.W.bind_fn I1.kIn self tI) (by rw [few, sizeLine_eq]; simp)
    (codeAny_mono (F1.run _ X.stack _ _ ⟨Value.ref (s1.heap.objs.size + 1) :: us, []⟩ _ _ _ (fun _ _ _ => False) (hr.make C us []) (J.env0.make C us []) bind args spec) fun r s' out => ?_))
  match r, out with
  | .error er, out =>
    obtain ⟨_, _, _, _, _, _, _, _, _, _, _, _, no⟩ := out
    exact no.elim
  | .ok .next, no => exact no.elim
  | .ok .brk, no => exact no.elim
  | .ok .cont, no => exact no.elim
  | .ok (.ret u), ⟨v, H2, os2, bare2, un2, ok2, rv, ev, d, off, nd, eH⟩ =>
    subst ev eH
    have at_d := given_d (H := upd H1 (s1.heap.objs.size + 1) (exo (s1.heap.objs.size + 1) C none)) (C := C) (f := fl) (y := y) off
    obtain ⟨hp, gs, dr, tk, os⟩ := s1
    obtain ⟨hp2, gs2, dr2, tk2, os'⟩ := s'
    obtain ⟨t0, G, Inew, keepG, geG, objE, newE⟩ := mk_end0 (d2 := dr2) (t2 := tk2) I1 (Nat.le_add_right _ 1) (fun _ _ z => laidE_keep z) un2 ok2 os2 bare2 given_a at_d nd
    unfold given at Inew newE
    rw [upd_del new off] at Inew newE
    exact ⟨rv, ⟨hp.objs.size + 1, _, _, ⟨G, gs2, dr2, tk2, os'⟩, _, .ref C, some d, rfl, Inew, keepG, geG, objE, ⟨rfl, rfl, fun vs hv => by cases hv; rfl⟩, rfl, rfl, newE, rfl, bare2, raises_own T.isE T.ofT, told d nd⟩⟩
end
def raiseF (c fl : Str) (o : Option (D × Env)) : Out Fl := match o with
  | some (d, e) => .exn ⟨c, [fl], [d]⟩ e
  | none => .bad
/-- raise C(a) -/
def sRaise (c fl : Str) (f : M R) : M Fl := fun e => (f e).bnd fun r e1 => raiseF c fl (e1.frz r)
section
variable {X : Cx} {cl : Str → Addr} {F : Fra} {W : WX} {x fl : Str} {a : Expr} {fa : M R} {p pos pos' : Pos} {fI : Addr} {k : Nat} {fd : FuncData} {ps : List Str} {B nw iw : String}
theorem rs_raise (hc : X.calm = true) (tk : L2N.Takes X W) (T : ErrC X.K (cl x) B nw iw) (iC : PySem.W.findIn X.K (.ref (cl x)) "__init__" = some (some (.ref fI))) (tI : PySem.W.typeIn X.K (.ref fI) = some (.type "function"))
    (F1 : FnOk X.prog X.w X.K X.mg X.base (L2N.CX X.prog X.w) k fI fd ps (spI (cl x) fl)) (hr : Room (k + 1) X.A) (hb : Binds X.K fd ps []) (hg : Gl X x) (hm : X.mg x = some (.ref (cl x))) (ha : RE X cl F W a fa)
    (hdb : (x == ("__debug__" : Str)) = false := by decide) (he : starEach [a] X.env = (false, eval a X.env) :: starEach [] X.env := by rfl) (hpl : (backTo pos (starEach [] X.env)).any (·.1) = false := by rfl) :
    RS X cl F W (.Raise (some (.Call (.Name x p) [a] [] pos)) none pos') (sRaise x fl fa) := by
  refine ⟨PS.imp (L2N.ps_raise hc tk (pmk_err T iC tI F1 hr hb hg hm ha.pe hdb he hpl)) fun D σ H ⟨e, G, st, q⟩ => tD_st st q fun r e1 v H1 G1 s1 k1 r1 z => ?_⟩
  cases y : e1.frz r with
  | none => rw [y] at z; exact z.elim
  | some pr =>
    obtain ⟨d, e2⟩ := pr
    rw [y] at z
    obtain ⟨G2, s2, k2, r2⟩ := frz_ok s1 r1 y
    intro dx hdx
    have sp : Step H1 G2 (upd H1 dx (.xd [(fl, v)])) (upd G2 dx (.xd [(fl, v)])) := .lay .refl hdx
    exact z (.ref (cl x)) (some dx) σ _ _ (s2.step sp) ⟨rfl, .inr ⟨dx, [v], rfl, upd_same, rfl, .cons (r2.mono (sp.same s2.ret.gh).2.1) .nil⟩⟩
end
end DL

namespace DL
open PySem PySem.Spec PyProof.Rows L2 PySem.DLX L2H
/-! ### the exception at hand -/
/-- what the class must say, so that isinstance asks its instances rightly and their values are read -/
abbrev ErrI (K : PySem.W.Frag) (C : Addr) : Prop := ExcC K C
theorem cls_of {K : PySem.W.Frag} {C : Addr} (h : PySem.W.hasDictIn K C = true) : (PySem.W.clsIn K C).isSome = true := by
  unfold PySem.W.hasDictIn at h
  cases q : PySem.W.clsIn K C with
  | none => rw [q] at h; cases h
  | some _ => rfl
/-- X handles the exception x, which stands at F.ex -/
structure HotX (X : Cx) (cl : Str → Addr) (F : Fra) (x : Exc) (p : Addr × Obj) (dd : Option Addr) : Prop where
  at_ : p.1 = F.ex
  pin : p ∈ X.pn
  hot : Hot1 X.A p
  zn : L2N.Zn (.ref (cl x.c)) dd p.2
  fl : ∃ vs, p.2.data = .fields vs
  ex : ExcAt X.K cl x (.ref (cl x.c)) dd F.H0 F.G0
section
variable {X : Cx} {cl : Str → Addr} {F : Fra} {W : WX} {x : Exc} {p : Addr × Obj} {dd : Option Addr} {pins : List (Addr × Obj)} {σ : L2.St} {H G : Hp} {s : Shared} {e : Env}
theorem HotX.inst (h : HotX X cl F x p dd) (I : Inv X pins σ H s) (st : Stt X.K cl F e σ H G) : ∃ od, PySem.W.InstAt s.heap F.ex p.2 (cl x.c) od ∧ (∀ d, dd = some d → od = s.heap.get? d) := by
  obtain ⟨ha, _⟩ := I.pin p (List.mem_append_left _ h.pin)
  rw [h.at_] at ha
  obtain ⟨vs, hd⟩ := h.fl
  have nc : PySem.W.notCls p.2 = true := by unfold PySem.W.notCls; rw [hd] <;> rfl
  have zc := h.zn.zc
  cases dd with
  | none => exact ⟨none, ⟨ha, zc.1, nc, by rw [zc.2]; trivial⟩, fun d z => nomatch z⟩
  | some d =>
    obtain ⟨_, z⟩ := h.ex
    rcases z with ⟨_, _, z⟩ | ⟨d', us, e1, e2, _⟩
    · cases z
    · cases e1
      have q : H d = some (.xd (x.ns.zip us)) := st.ret.gh _ _ (st.ret.g0 _ _ e2)
      have hx : ObjOk X.prog X.w H s.heap d (.xd (x.ns.zip us)) := I.hok d _ q
      obtain ⟨mA, ⟨o, es, ep, ho, _⟩, _⟩ := hx
      exact ⟨some o, ⟨ha, zc.1, nc, by rw [zc.2]; exact ho⟩, fun d' z => by cases z; exact ho.symm⟩
end
def cIsX (i : Nat) (b : Bool) : M R := fun e => match e.s[i]? with
  | some .ptr => .ok (.val (.bl b)) e
  | _ => .bad
def cXf (i : Nat) (f : Str) (x : Exc) : M R := fun e => match e.s[i]?, x.ns, x.l with
  | some .ptr, [g], [d] => if g = f then .ok (.val d) e else .bad
  | _, _, _ => .bad
section
variable {X : Cx} {cl : Str → Addr} {F : Fra} {W : WX} {x : Exc} {pr : Addr × Obj} {dd : Option Addr}
theorem re_isX (i : Nat) {b : Bool} {n : Str} {c : Expr} {v2 : V} {cv : Value} {p p1 pos : Pos} (h : HotX X cl F x pr dd) (T : ErrI X.K (cl x.c)) (hc2 : PE X c (tC v2)) (hv2 : ∀ u, RelV v2 u → u = cv) (kt : PySem.W.kitOne X.K (.ref (cl x.c)) cv = some b)
    (hg : Gl X "isinstance") (hm : X.mg "isinstance" = none)
    (hN : X.N[i]? = some n := by rfl) (hv : Vis X.env.scope n := by first | exact Or.inl rfl | exact Or.inr (Or.inl rfl) | exact Or.inr (Or.inr rfl)) (hd : (n == ("__debug__" : Str)) = false := by decide)
    (hcd : (n == ("__classdict__" : Str)) = false := by decide)
    (he : starEach [.Name n p1, c] X.env = (false, eval (.Name n p1) X.env) :: starEach [c] X.env := by rfl) (he2 : starEach [c] X.env = (false, eval c X.env) :: starEach [] X.env := by rfl) (hpl : (backTo pos (starEach [c] X.env)).any (·.1) = false := by rfl) :
    RE X cl F W (.Call (.Name "isinstance" p) [.Name n p1, c] [] pos) (cIsX i b) := by
  have key : CallR X (.builtin "isinstance") (fun xs H Q => ∃ e G σ, (∀ pins s, Inv X pins σ H s → True) ∧ Stt X.K cl F e σ H G ∧ xs = [.ref F.ex, v2] ∧ Q (.bl b) H) := by
    intro pins s σ H xs us Q I r hh
    obtain ⟨e, G, σ', _, st, rfl, q⟩ := hh
    cases r with
    | cons rx rr =>
      cases rr with
      | cons rt rr =>
        cases rr
        cases rx
        have ec := hv2 _ rt
        subst ec
        have inst : ∃ od, PySem.W.InstAt s.heap F.ex pr.2 (cl x.c) od := by
          obtain ⟨ha, _⟩ := I.pin pr (List.mem_append_left _ h.pin)
          rw [h.at_] at ha
          obtain ⟨vs, hd⟩ := h.fl
          have nc : PySem.W.notCls pr.2 = true := by unfold PySem.W.notCls; rw [hd] <;> rfl
          have zc := h.zn.zc
          cases dd with
          | none => exact ⟨none, ha, zc.1, nc, by rw [zc.2]; trivial⟩
          | some d =>
            obtain ⟨_, z⟩ := h.ex
            rcases z with ⟨_, _, z⟩ | ⟨d', us, e1, e2, _⟩
            · cases z
            · cases e1
              have q : H d = some (.xd (x.ns.zip us)) := st.ret.gh _ _ (st.ret.g0 _ _ e2)
              have hx : ObjOk X.prog X.w H s.heap d (.xd (x.ns.zip us)) := I.hok d _ q
              obtain ⟨mA, ⟨o, es, ep, ho, _⟩, _⟩ := hx
              exact ⟨some o, ha, zc.1, nc, by rw [zc.2]; exact ho⟩
        obtain ⟨od, J⟩ := inst
        exact PySem.W.kia_one (PySem.W.kitx_exc (cls_of T.hd) T.hg T.hk T.hs T.ha T.hn T.ht T.hm) I.kIn J kt (fun z => nomatch z) fun tk => ⟨.bl b, H, I.kept (t' := tk) fun _ _ z => z, rfl, q⟩
  refine ⟨PE.imp (pe_callB key hg hm (by decide +kernel) (pa_cons (pe_var hN hv hd hcd) (pa_cons hc2 pa_nil he2) he) (by decide) (by decide) he hpl) fun σ H Q ⟨e, G, st, q⟩ => ?_⟩
  unfold cIsX at q
  cases y : e.s[i]? with
  | none => rw [y] at q; exact q.elim
  | some z =>
    rw [y] at q
    have sl := st.slot i z y
    cases z with
    | ptr => exact ⟨.ref F.ex, sl, e, G, σ, fun _ _ _ => trivial, st, rfl, q (.bl b) H G st .refl .bl⟩
    | _ => exact q.elim
/-- isinstance(e, C), C a class of the program; of the language -/
theorem re_isXC (i : Nat) {b : Bool} {n y : Str} {p p1 p2 pos : Pos} (h : HotX X cl F x pr dd) (T : ErrI X.K (cl x.c)) (kt : PySem.W.kitOne X.K (.ref (cl x.c)) (.ref (cl y)) = some b)
    (hg : Gl X "isinstance") (hm : X.mg "isinstance" = none) (hg2 : Gl X y) (hm2 : X.mg y = some (.ref (cl y))) (hdb : (y == ("__debug__" : Str)) = false := by decide)
    (hN : X.N[i]? = some n := by rfl) (hv : Vis X.env.scope n := by first | exact Or.inl rfl | exact Or.inr (Or.inl rfl) | exact Or.inr (Or.inr rfl)) (hd : (n == ("__debug__" : Str)) = false := by decide)
    (hcd : (n == ("__classdict__" : Str)) = false := by decide)
    (he : starEach [.Name n p1, .Name y p2] X.env = (false, eval (.Name n p1) X.env) :: starEach [.Name y p2] X.env := by rfl) (he2 : starEach [.Name y p2] X.env = (false, eval (.Name y p2) X.env) :: starEach [] X.env := by rfl) (hpl : (backTo pos (starEach [.Name y p2] X.env)).any (·.1) = false := by rfl) :
    RE X cl F W (.Call (.Name "isinstance" p) [.Name n p1, .Name y p2] [] pos) (cIsX i b) :=
  re_isX i h T (pe_glob (v := .ref (cl y)) hg2 hm2 rfl hdb) (fun u r => r) kt hg hm hN hv hd hcd he he2 hpl
theorem re_isXT (i : Nat) {b : Bool} {n y : Str} {Ty : String} {p p1 p2 pos : Pos} (h : HotX X cl F x pr dd) (T : ErrI X.K (cl x.c)) (kt : PySem.W.kitOne X.K (.ref (cl x.c)) (.type Ty) = some b)
    (hg : Gl X "isinstance") (hm : X.mg "isinstance" = none) (hg2 : Gl X y) (hm2 : X.mg y = none) (hv2 : bootBuiltins y = some (.type Ty)) (hn : y ≠ "__name__" := by decide) (hdb : (y == ("__debug__" : Str)) = false := by decide)
    (hN : X.N[i]? = some n := by rfl) (hv : Vis X.env.scope n := by first | exact Or.inl rfl | exact Or.inr (Or.inl rfl) | exact Or.inr (Or.inr rfl)) (hd : (n == ("__debug__" : Str)) = false := by decide)
    (hcd : (n == ("__classdict__" : Str)) = false := by decide)
    (he : starEach [.Name n p1, .Name y p2] X.env = (false, eval (.Name n p1) X.env) :: starEach [.Name y p2] X.env := by rfl) (he2 : starEach [.Name y p2] X.env = (false, eval (.Name y p2) X.env) :: starEach [] X.env := by rfl) (hpl : (backTo pos (starEach [.Name y p2] X.env)).any (·.1) = false := by rfl) :
    RE X cl F W (.Call (.Name "isinstance" p) [.Name n p1, .Name y p2] [] pos) (cIsX i b) :=
  re_isX i h T (pe_bltn (v := .ty Ty) hg2 hm2 hv2 rfl hn hdb) (fun u r => r) kt hg hm hN hv hd hcd he he2 hpl
/-- e.f -/
theorem re_xf (i : Nat) {n f : Str} {p1 pos : Pos} (h : HotX X cl F x pr dd) (T : ErrI X.K (cl x.c)) (hno : PySem.W.findIn X.K (.ref (cl x.c)) f = some none)
    (hN : X.N[i]? = some n := by rfl) (hv : Vis X.env.scope n := by first | exact Or.inl rfl | exact Or.inr (Or.inl rfl) | exact Or.inr (Or.inr rfl)) (hd : (n == ("__debug__" : Str)) = false := by decide)
    (hcd : (n == ("__classdict__" : Str)) = false := by decide)
    (hb : attributeBase (.Name n p1) f X.env (eval (.Name n p1) X.env) = eval (.Name n p1) X.env := by rfl) : RE X cl F W (.Attribute (.Name n p1) f pos) (cXf i f x) := by
  refine ⟨⟨fun pins s σ H Q I ⟨e, G, st, q⟩ => ?_⟩⟩
  unfold cXf at q
  cases y : e.s[i]? with
  | none => rw [y] at q; exact q.elim
  | some z =>
    rw [y] at q
    have sl := st.slot i z y
    obtain ⟨xc, xn, xl⟩ := x
    match z, xn, xl, q with
    | .ptr, [g], [d], q =>
      have q9 : Post X.K cl F W σ (if g = f then (.ok (.val d) e : Out R) else .bad) (fun r e' => ∀ (v : V) (H' G' : Hp), Stt X.K cl F e' σ H' G' → Kp F σ e H G e' H' G' → RR X.K cl σ G' r v → Q v H') := q
      clear q
      by_cases hgf : g = f
      · rw [if_pos hgf] at q9
        subst hgf
        refine attr_of hb (thn ((pe_var (pos := p1) hN hv hd hcd).run pins s σ H (fun v H1 => v = .ref F.ex ∧ H1 = H) I ⟨.ref F.ex, sl, rfl, rfl⟩) fun u s1 hh => ?_)
        obtain ⟨x', H1, I1, rx, ex, eH⟩ := hh
        subst ex
        subst eH
        obtain rfl : u = Value.ref F.ex := rx
        obtain ⟨ha, _⟩ := I1.pin pr (List.mem_append_left _ h.pin)
        rw [h.at_] at ha
        obtain ⟨vs, hdt⟩ := h.fl
        have nc : PySem.W.notCls pr.2 = true := by unfold PySem.W.notCls; rw [hdt] <;> rfl
        have zc := h.zn.zc
        obtain ⟨_, ze⟩ := h.ex
        rcases ze with ⟨z1, _, _⟩ | ⟨d', us, e1, e2, e3, e4⟩
        · cases z1
        · cases e4 with
          | @cons _ v _ _ r4 t4 =>
            cases t4
            have q4 : H1 d' = some (.xd [(g, v)]) := st.ret.gh _ _ (st.ret.g0 _ _ e2)
            have hx : ObjOk X.prog X.w H1 s1.heap d' (.xd [(g, v)]) := I1.hok d' _ q4
            obtain ⟨mA, hns, hr⟩ := hx
            obtain ⟨od, ho, look⟩ := lookIn_ns hns
            obtain ⟨u, hu, ru⟩ := RelO.some_of (v := v) (o := mA g) (by have := hr g; simpa [List.lookup] using this)
            have J : PySem.W.InstAt s1.heap F.ex pr.2 (cl xc) (some od) := ⟨ha, zc.1, nc, by rw [zc.2, e1]; exact ho⟩
            exact HandSPX.exc_get I1.kIn J T.hg T.hk T.hs (PySem.W.findObj_own T.hd hno rfl (by rw [look, hu])) (handed_of ru) ⟨v, H1, I1.tok _, ru, q9 v H1 G st .refl (r4.mono st.ret.g0)⟩
      · rw [if_neg hgf] at q9; exact q9.elim
    | .un, _, _, q | .dat _, _, _, q | .own _, _, _, q | .jar _, _, _, q => exact q.elim
    | .ptr, [], _, q | .ptr, _ :: _ :: _, _, q | .ptr, [_], [], q | .ptr, [_], _ :: _ :: _, q => exact q.elim
end
end DL

namespace DL
open PySem PySem.Spec PyProof.Rows L2 PySem.DLX L2H
theorem Ret.re {K : PySem.W.Frag} {cl : Str → Addr} {F : Fra} {H G : Hp} {j : List D} (r : Ret K cl F H G j) (a : Addr) : Ret K cl ⟨F.H0, F.G0, F.js, a⟩ H G j := ⟨r.gh, r.g0, r.jars, r.fr, r.fg⟩
/-! ### defs that get the exception at hand -/
def E00 : XK := fun _ _ _ => False
def W00 : WX := fun _ _ _ _ => False
theorem takes00 {X : Cx} : L2N.Takes X W00 := fun _ _ x => by
  obtain ⟨_, _, _, _, _, _, _, _, _, _, _, _, _, _, _, _, no⟩ := x
  exact no.elim
def envX (n : Nat) : Env := ⟨.ptr :: List.replicate (n - 1) .un, []⟩
def fnX (n : Nat) (g : M Fl) : OutF := outF (g (envX n))
structure FnX (P : Program) (w : World) (K : PySem.W.Frag) (mg : Str → Option Value) (base : Heap) (cl : Str → Addr) (cs : List Str) (k : Nat) (f : Addr) (fd : FuncData) (n : Str) (Φ : Exc → OutF) : Prop where
  run : ∀ (A : Around) (outer : List PySem.Env) (s : Shared) (H G : Hp) (args : Args) (Q : VK) (p : Addr × Obj) (dd : Option Addr) (x : Exc), RoomH k A → A.guards = some [] → x.c ∈ cs → Hot1 A p → L2N.Zn (.ref (cl x.c)) dd p.2 → (∃ vs, p.2.data = .fields vs) → ExcAt K cl x (.ref (cl x.c)) dd H G →
    PinOk outer H s p → Env0 P w K mg base A outer s H → BindsTo s fd args [(n, .ref p.1)] → Same G H → PostFn K cl ⟨H, G, [], p.1⟩ Q E00 (Φ x) → codeAny (model P w) A (.call (.ref f) args) (CR (L2N.CX P w) outer P w H s Q E00) s
theorem stt_startX {K : PySem.W.Frag} {cl : Str → Addr} {H G : Hp} {a : Addr} {N : List Str} (gh : Same G H) (hN : 1 ≤ N.length) : Stt K cl ⟨H, G, [], a⟩ (envX N.length) (L2.start N [.ref a]) H G := by
  refine ⟨⟨gh, .refl _, ⟨rfl, List.nodup_nil, fun k b d h => by simp at h⟩, fun a o h _ => h, fun a o _ h => h⟩, fun a ha => by simp at ha, by simp [envX, L2.start], fun i x h => ?_, fun i k d d' a h1 h2 h3 h4 => ?_⟩
  · cases i with
    | zero =>
      have h : some S.ptr = some x := h
      cases h
      rfl
    | succ i =>
      have h : (List.replicate (N.length - 1) S.un)[i]? = some x := h
      rw [List.getElem?_replicate] at h
      split at h
      · cases h; trivial
      · cases h
  · cases i with
    | zero =>
      have h1 : some S.ptr = some (.own d) := h1
      cases h1
    | succ i =>
      have h : (List.replicate (N.length - 1) S.un)[i]? = some (.own d) := h1
      rw [List.getElem?_replicate] at h
      split at h
      · cases h
      · cases h
section
variable {P : Program} {w : World} {K : PySem.W.Frag} {mg : Str → Option Value} {base : Heap} {cl : Str → Addr} {cs : List Str} {k : Nat} {f : Addr} {fd : FuncData} {x qual n : Str} {params : Arguments} {body : List Stmt} {scope : Scope} {N : List Str} {g : Exc → M Fl}
/-- THE RULE for such a def -/
theorem fn_X (Fn : FunD K x qual params body scope [] [] f fd) (S : FnScope N [n] scope)
    (hbody : ∀ (F : Fra) (cdv : Value) (A : Around) (outer : List PySem.Env) (s : Shared) (H : Hp) (p : Addr × Obj) (dd : Option Addr) (y : Exc), RoomH k (A.deeper (envOfC qual scope s.heap.objs.size f cdv)) → A.guards = some [] → y.c ∈ cs →
      HotX (cxH (L2N.CX P w) P w K mg base N qual scope f cdv A outer s H E00 p) cl F y p dd →
      RSs (cxH (L2N.CX P w) P w K mg base N qual scope f cdv A outer s H E00 p) cl F W00 body (g y)) :
    FnX P w K mg base cl cs (k + 1) f fd n (fun y => fnX N.length (g y)) := by
  obtain ⟨oc, od, dV, kV, doc, pm, an, cdv, ct, osl, rfl, lk, hcd, _, _⟩ := Fn.ex
  refine ⟨fun A outer s H G args Q p dd y hr hG hy hot hz hf hex hpin e0 hb gh q => ?_⟩
  have hpl : 1 ≤ N.length := by
    have := congrArg List.length S.pre
    rw [List.length_take] at this
    have h1 : [n].length = 1 := rfl
    omega
  have up : ∀ b o, base.get? b = some o → s.heap.get? b = some o := fun b o z => (e0.bs b o z).1
  have par : ∀ y ∈ [(n, Value.ref p.1)], scope.names.lookup y.1 = some .local ∨ (scope.names.lookup y.1 = some .cell ∧ ((cellsFrom (s.heap.objs.size + 1) scope.names []).lookup y.1).isSome = true) := by
    intro y hy
    cases List.mem_singleton.mp hy
    exact (S.par n List.mem_cons_self).imp_right fun z => ⟨z, PySem.W.cellsFrom_some _ _ _ (.inl z)⟩
  refine codeAny_call_function hr.depth (e0.mod.kin.keeps up _ _ lk) rfl S.co S.gen rfl (PySem.W.codeRec_of (e0.mod.kin.keeps up) hcd) (hb _ _ _ _ ?_)
  refine wpAny_newFunctionEnv_cells S.kind par fun env he s1 new => ?_
  subst he
  refine ⟨(e0.mod.nolimit.keeps up).keeps new.toInCall.keep, codeAny_func ?_⟩
  have HX : HotX (cxH (L2N.CX P w) P w K mg base N qual scope f cdv A outer s H E00 p) cl ⟨H, G, [], p.1⟩ y p dd := ⟨rfl, List.mem_cons_self, hot, hz, hf, hex⟩
  have begun : tSt K cl ⟨H, G, [], p.1⟩ W00 (g y) { nx := fun _ H' => Q .non H', rt := Q } (L2.start N [.ref p.1]) H := ⟨envX N.length, G, stt_startX gh hpl, PostFn.of (E := E00) q⟩
  refine wpAny_mono ((hbody _ cdv A outer s H p dd y (hr.deeper _) hG hy HX).pss.run [] s1 _ H _ (inv_startH (vs := [.ref p.1]) S hpin e0 rfl (.cons (show L2.RelV (.ref p.1) (Value.ref p.1) from rfl) .nil) new) begun) (fun fl s' hs => ?_) fun _ _ z => z
  match fl, hs with
  | .ret u, ⟨v, _, H', J, rv, told⟩ => exact ⟨v, H', J.os, J.bare, J.base, J.hok, rv, told⟩
  | .next, ⟨_, H', J, told⟩ => exact ⟨.non, H', J.os, J.bare, J.base, J.hok, rfl, told⟩
  | .brk, ⟨_, _, _, no⟩ => exact no.elim
  | .cont, ⟨_, _, _, no⟩ => exact no.elim
end
/-- f(e) -/
def callOk (e : Env) (o : OutF) : Out R := match o with
  | .ok d [] => .ok (.val d) e
  | _ => .bad
def cCallX (i : Nat) (o : OutF) : M R := fun e => match e.s[i]? with
  | some .ptr => callOk e o
  | _ => .bad
section
variable {X : Cx} {cl : Str → Addr} {F : Fra} {W : WX} {x : Exc} {pr : Addr × Obj} {dd : Option Addr} {cs : List Str} {k : Nat} {f : Addr} {fd : FuncData} {n m y : Str} {Φ : Exc → OutF} {p p1 pos : Pos}
theorem re_callX (i : Nat) (h : HotX X cl F x pr dd) (Fn : FnX X.prog X.w X.K X.mg X.base cl cs k f fd n Φ) (hx : x.c ∈ cs) (hr : RoomH k X.A) (hG : X.A.guards = some []) (hg : Gl X y) (hm : X.mg y = some (.ref f)) (hk : PySem.W.keepIn X.K (.ref f) = true) (hb : Binds X.K fd [n] [])
    (hN : X.N[i]? = some m := by rfl) (hv : Vis X.env.scope m := by first | exact Or.inl rfl | exact Or.inr (Or.inl rfl) | exact Or.inr (Or.inr rfl)) (hd : (m == ("__debug__" : Str)) = false := by decide)
    (hcd : (m == ("__classdict__" : Str)) = false := by decide) (hdb : (y == ("__debug__" : Str)) = false := by decide)
    (he : starEach [.Name m p1] X.env = (false, eval (.Name m p1) X.env) :: starEach [] X.env := by rfl) (hpl : (backTo pos (starEach [] X.env)).any (·.1) = false := by rfl) :
    RE X cl F W (.Call (.Name y p) [.Name m p1] [] pos) (cCallX i (Φ x)) := by
  refine ⟨⟨fun pins s σ H Q I ⟨e, G, st, q⟩ => ?_⟩⟩
  unfold cCallX at q
  cases yy : e.s[i]? with
  | none => rw [yy] at q; exact q.elim
  | some z =>
    rw [yy] at q
    have sl := st.slot i z yy
    cases z with
    | ptr =>
      have q : Post X.K cl F W σ (callOk e (Φ x)) (fun r e' => ∀ (v : V) (H' G' : Hp), Stt X.K cl F e' σ H' G' → Kp F σ e H G e' H' G' → RR X.K cl σ G' r v → Q v H') := q
      have ha : PA X [.Name m p1] _ := pa_cons (pe_var (pos := p1) hN hv hd hcd) pa_nil he
      refine wpAny_Call_Name_kw (ld_glob I hg hm
        ?_ hdb)
      refine PySem.W.callWith_K (h₀ := X.base) I.ok.mod.kin hk (thn (ha.run pos pins s σ H (fun vs H1 => vs = [.ref F.ex] ∧ H1 = H) I ⟨.ref F.ex, sl, rfl, rfl⟩) fun us s1 ⟨vs, H1, I1, r1, ev, eH⟩ => ⟨I1.kIn, ?_⟩) he hpl
      subst ev
      subst eH
      cases r1 with
      | cons ra rb =>
        cases rb
        cases ra
        have b := hb s1 [.ref F.ex] I1.kIn rfl
        have P1 := I1.pin pr (List.mem_append_left _ h.pin)
        have hpin : PinOk X.stack H1 s1 pr := ⟨P1.1, P1.2.1, fun hm => (List.mem_cons.mp (I1.stkSub pr.1 hm)).elim P1.2.2.1 P1.2.2.2.1, P1.2.2.2.2⟩
        have hex : ExcAt X.K cl x (.ref (cl x.c)) dd H1 G := by
          obtain ⟨z1, z2⟩ := h.ex
          refine ⟨z1, z2.imp id fun ⟨d, vs, a1, a2, a3, a4⟩ => ⟨d, vs, a1, st.ret.g0 _ _ a2, a3, a4.mono st.ret.g0⟩⟩
        have b' : BindsTo s1 fd ⟨[.ref F.ex], []⟩ [(n, .ref pr.1)] := by rw [h.at_]; exact b
        refine wpAny_call (codeAny_mono (Fn.run X.A X.stack s1 H1 G ⟨[.ref F.ex], []⟩ Q pr dd x hr hG hx h.hot h.zn h.fl hex hpin I1.env0 b' st.ret.gh ?_) fun r s' hq => ?_)
        · cases o : Φ x with
          | bad => rw [o] at q; exact q.elim
          | exn y j => rw [o] at q; exact q.elim
          | ok d j =>
            rw [o] at q
            cases j with
            | cons => exact q.elim
            | nil =>
              intro v H' G' rt rv
              obtain ⟨s3, k3⟩ := st.called (rt.re 0)
              exact q v H' G' s3 k3 rv
        · cases r with
          | error er =>
            obtain ⟨_, _, _, _, _, _, _, _, _, _, _, _, z⟩ := hq
            exact z.elim
          | ok fl =>
            cases fl with
            | ret u => exact I1.after hq
            | next => exact False.elim hq
            | brk => exact False.elim hq
            | cont => exact False.elim hq
    | _ => exact q.elim
end
end DL

namespace DL
open PySem PySem.Spec PyProof.Rows L2 PySem.DLX L2H
/-! ### try: body, except (x1, x2, x3) as n: suite -/
theorem flying_push {B h : Heap} {l : List PySem.Env} {a : Addr} {Z : Obj → Prop} (x : HandSPX.FlyingZ B l a Z h) (o : Obj) : HandSPX.FlyingZ B l a Z (h.push o) := by
  obtain ⟨k1, k2, k3, oe, vs, T, oT, ts, he, hz, hd, h1, hnT, hTe, hT, hdT, h3⟩ := x
  exact ⟨fun b u q => Heap.get?_push_of_some _ (k1 b u q), k2, k3.of_keeps fun b u q _ => ⟨u, Heap.get?_push_of_some _ q, rfl⟩, oe, vs, T, oT, ts, Heap.get?_push_of_some _ he, hz, hd, h1, hnT, hTe, Heap.get?_push_of_some _ hT, hdT, h3⟩
/-- an error that flies is no frame -/
theorem err_apart {B h : Heap} {l : List PySem.Env} {a : Addr} {Z : Obj → Prop} (x : HandSPX.FlyingZ B l a Z h) : a ∉ frs l := fun hm => by
  obtain ⟨oe, vs, at_a, _, fields⟩ := x.there
  obtain ⟨_, of, at_f, no⟩ := x.2.2.1.mem hm
  cases at_a.symm.trans at_f
  exact no vs fields
theorem apart_env {X : Cx} {a : Addr} (hf : X.env.frame = some X.env.locals) (h : a ∉ frs (X.env :: X.outer)) : a ≠ X.env.locals ∧ a ∉ X.fs := by
  constructor
  · intro z
    exact h (List.mem_filterMap.mpr ⟨X.env, .head _, z ▸ hf⟩)
  · intro z
    obtain ⟨e, he, q⟩ := List.mem_filterMap.mp z
    exact h (List.mem_filterMap.mpr ⟨e, .tail _ he, q⟩)
/-- what the suite has to reach, so that the try reaches D -/
def freed (i : Nat) (D : Ends) : Ends := { nx := fun σ' H' => D.nx (σ'.set i none) H', rt := D.rt, bk := fun σ' H' => D.bk (σ'.set i none) H', ct := fun σ' H' => D.ct (σ'.set i none) H' }
section
variable {X : Cx} {n : Str} {i : Nat} {pins : List (Addr × Obj)}
/-- behind the suite the name is gone -/
theorem suite_end (ok : X.Ok) (hN : X.N.Nodup) (hi : X.N[i]? = some n) (hln : X.env.kindOf n = some .local) {a : Addr} {q : Addr × Obj} {D : Ends} {pos' : Pos} {s6 : Shared} : ∀ (fl : Flow), L2.SP (X.suite a (q :: (X.pn ++ pins))) [] (freed i D) fl s6 →
    wpAny (model X.prog X.w) X.A (do bindName X.env n .none; unbindBehindTheSuite X.env n pos') (fun _ s7 => L2.SP X pins D fl s7) X.xe s6
  | .next, ⟨_, _, J, z⟩ => gone_ok (J.unsuite ok) hN hi hln fun _ J7 => ⟨_, _, J7, z⟩
  | .brk, ⟨_, _, J, z⟩ => gone_ok (J.unsuite ok) hN hi hln fun _ J7 => ⟨_, _, J7, z⟩
  | .cont, ⟨_, _, J, z⟩ => gone_ok (J.unsuite ok) hN hi hln fun _ J7 => ⟨_, _, J7, z⟩
  | .ret _, ⟨_, _, _, J, r, z⟩ => gone_ok (J.unsuite ok) hN hi hln fun _ J7 => ⟨_, _, _, J7, r, z⟩
end
/-- the tuple of the classes that are asked -/
def askT (C1 C2 C3 : Addr) : Obj := { cls := .type "tuple", data := .seq [Value.ref C1, .ref C2, .ref C3].toArray }
def wT (K : PySem.W.Frag) (cs : List Value) (i : Nat) (ts : Addr → Value → Option Addr → TS) (D : Ends) : WX := fun cls d σ H => PySem.W.exmAny K cls cs = some true ∧ ∀ a, H a = none → ts a cls d (freed i D) (σ.set i (some (.ref a))) H
section
variable {X : Cx} {x1 x2 x3 n : Str} {C1 C2 C3 : Addr} {i kk : Nat} {body suite : List Stmt} {b₀ : Stmt} {p1 p2 p3 tpos pos pos' : Pos} {tb : WX → TS} {ts : Addr → Value → Option Addr → TS}
theorem ps_tryT (hs : X.stack = X.env :: X.outer) (hf : X.env.frame = some X.env.locals) (hN : X.N.Nodup) (hi : X.N[i]? = some n) (hln : X.env.kindOf n = some .local)
    (g1 : Gl X x1) (m1 : X.mg x1 = some (.ref C1)) (g2 : Gl X x2) (m2 : X.mg x2 = some (.ref C2)) (g3 : Gl X x3) (m3 : X.mg x3 = some (.ref C3))
    (hb : ∀ (W : WX) (pn : List (Addr × Obj)) (xe : Value → Shared → Prop), L2N.Takes (X.tr pn xe) W → PassesOwn (model X.prog X.w) X.A X.env xe → PSs (X.tr pn xe) body (tb W))
    (hsu : ∀ (a : Addr) (oe : Obj) (cls : Value) (d : Option Addr) (pn : List (Addr × Obj)), L2N.Zn cls d oe → (∃ vs, oe.data = .fields vs) → PSs (X.suite a ((a, oe) :: pn)) (b₀ :: suite) (ts a cls d))
    (b1 : (x1 == ("__debug__" : Str)) = false := by decide) (b2 : (x2 == ("__debug__" : Str)) = false := by decide) (b3 : (x3 == ("__debug__" : Str)) = false := by decide) :
    PS X (.Try body [.ExceptHandler (some (.Tuple [.Name x1 p1, .Name x2 p2, .Name x3 p3] kk tpos)) (some n) (b₀ :: suite) pos'] [] [] pos) (fun D σ H => tb (wT X.K [.ref C1, .ref C2, .ref C3] i ts D) D σ H) := by
  constructor
  intro pins s σ H D I h
  have ok := I.ok
  have stk : X.A.frames = some (X.env :: X.outer) := ok.frames.trans (congrArg some hs)
  refine wpAny_Try_except ?_
  refine wpAny_mono ((hb (wT X.K [.ref C1, .ref C2, .ref C3] i ts D) (X.pn ++ pins) (fun e s₁ => wpAny (model X.prog X.w) X.A (noteFrame e X.env) (fun _ s₂ => wpAny (model X.prog X.w) X.A (setFlight e none) (fun _ s₃ =>
    wpAny (model X.prog X.w) X.A (handleBy e X.env [.ExceptHandler (some (.Tuple [.Name x1 p1, .Name x2 p2, .Name x3 p3] kk tpos)) (some n) (b₀ :: suite) pos']) (L2.SP X pins D) X.xe s₃) X.xe s₂) X.xe s₁) (fun u s' raised => ?_) PassesOwn.looking).run [] s σ H D (I.toTry _) h) (fun fl s1 out => ?_) (fun e s1 z => z)
  · obtain ⟨a, B, sI, _, σ', H', cls, d, rfl, Iin, nb, up, sky, na, os, ag, asked, yes⟩ := raised
    have J := Inv.ofTry Iin ok
    rw [hs] at sky
    change wpAny (model X.prog X.w) X.A (noteFrame _ _) _ _ _
    refine L2N.Sky.land L2N.Zn.steady stk hf sky fun hA flA upA => ?_
    have JA : Inv X pins σ' H' { s' with heap := hA } := J.landed nb flA.1 (up.trans upA) os ag
    obtain ⟨oA, _, atA, zA, fA⟩ := flA.there
    obtain ⟨nL, nF⟩ := apart_env hf (err_apart flA)
    have SA := JA.suite atA fA na nL nF
    have more : ∀ b u, hA.get? b = some u → (hA.push (askT C1 C2 C3)).get? b = some u := fun _ _ z => Heap.get?_push_of_some _ z
    have type_ : PySem.W.Looks (model X.prog X.w) hA (typeOf (.ref a)) cls := fun _ _ _ _ k z => wpAny_typeOf_ref (k a oA atA) (zA.1 ▸ z)
    have yes3 := PySem.W.exm_tup3 (M := model X.prog X.w) (JA.kIn.keeps more) (type_.keeps more) (Heap.get?_push_size hA rfl) asked
    refine wpAny_handleBy_cons (codeAny_handlers_test (Tuple_ ?_)) (fun z => nomatch z)
    change wpAny _ _ (spliced [(false, eval (.Name x1 p1) X.env), (false, eval (.Name x2 p2) X.env), (false, eval (.Name x3 p3) X.env)]) _ _ _
    refine Calls.spliced_cons (ld_glob (X := X.suite a ((a, oA) :: (X.pn ++ pins))) SA g1 m1 (Calls.spliced_cons (ld_glob (X := X.suite a ((a, oA) :: (X.pn ++ pins))) SA g2 m2 (Calls.spliced_cons (ld_glob (X := X.suite a ((a, oA) :: (X.pn ++ pins))) SA g3 m3 (Calls.spliced_nil ?_) b3)) b2)) b1)
    refine wpAny_newObj_type (yes3.here (codeAny_handlers_suite_as ?_))
    refine HandSPX.lands_againZ (flying_push flA (askT C1 C2 C3)) fun hB flB upB => ?_
    have JB : Inv X pins σ' H' { s' with heap := hB } := J.landed nb flB.1 (((up.trans upA).trans (.of_keeps more)).trans upB) os ag
    obtain ⟨oB, _, atB, zB, fB⟩ := flB.there
    refine store_ok (X := X.suite a ((a, oB) :: (X.pn ++ pins))) (v := .ref a) (JB.suite atB fB na nL nF) hN hi (.inl hln) rfl (fun s5 S5 => ?_) (.inr hln)
    exact wpAny_mono ((hsu a oB cls d (X.pn ++ pins) zB ⟨_, fB⟩).run [] s5 _ H' _ S5 (yes a na)) (fun fl s6 out => suite_end ok hN hi hln fl out) fun _ _ z => z.elim
  · match fl, out with
    | .next, ⟨_, _, J, z⟩ => exact wpAny_execs_nil ⟨_, _, J.ofTry ok, z⟩
    | .brk, ⟨_, _, J, z⟩ => exact ⟨_, _, J.ofTry ok, z⟩
    | .cont, ⟨_, _, J, z⟩ => exact ⟨_, _, J.ofTry ok, z⟩
    | .ret _, ⟨_, _, _, J, r, z⟩ => exact ⟨_, _, _, J.ofTry ok, r, z⟩
end

/-! ### the mirror of try -/
def S.noP : S → S
  | .ptr => .un
  | x => x
/-- all pointers are forgotten, slot i is one -/
def Env.bare (e : Env) (i : Nat) : Env := ⟨(e.s.map S.noP).set i .ptr, e.j⟩
def rtO (o : Out Fl) : Out Fl := match o with
  | .ok (.rt d) e => .ok (.rt d) e
  | _ => .bad
def sTry (i : Nat) (cs : List Str) (fb : M Fl) (fsu : Exc → M Fl) : M Fl := fun e => match fb e with
  | .exn x e1 => if x.c ∈ cs then rtO (fsu x (e1.bare i)) else .bad
  | .ok f e1 => .ok f e1
  | .bad => .bad
section
variable {K : PySem.W.Frag} {cl : Str → Addr} {F : Fra} {e : Env} {σ : L2.St} {H G : Hp} {a : Addr}
theorem Stt.bare (st : Stt K cl F e σ H G) (i : Nat) : Stt K cl ⟨F.H0, G, F.js, a⟩ (e.bare i) (σ.set i (some (.ref a))) H G := by
  obtain ⟨⟨gh, g0, jr, fr, fg⟩, jh, len, slot, inj⟩ := st
  have hσ : ∀ {j : Nat}, j ≠ i → (σ.set i (some (V.ref a)))[j]? = σ[j]? := fun hj => List.getElem?_set_ne (Ne.symm hj)
  have hs : ∀ {j : Nat} {x : S}, (e.bare i).s[j]? = some x → (j = i ∧ i < e.s.length ∧ x = .ptr) ∨ (j ≠ i ∧ ∃ y, e.s[j]? = some y ∧ x = y.noP) := fun {j x} h => by
    have h : ((e.s.map S.noP).set i .ptr)[j]? = some x := h
    by_cases hj : j = i
    · subst hj
      have hl : j < ((e.s.map S.noP).set j .ptr).length := (List.getElem?_eq_some_iff.mp h).1
      have hl' : j < e.s.length := by simpa using hl
      rw [List.getElem?_set_self (by simpa using hl')] at h
      cases h
      exact .inl ⟨rfl, hl', rfl⟩
    · rw [List.getElem?_set_ne (Ne.symm hj), List.getElem?_map] at h
      obtain ⟨y, hy, rfl⟩ := Option.map_eq_some_iff.mp h
      exact .inr ⟨hj, y, hy, rfl⟩
  have own : ∀ {j : Nat} {d : D}, (e.bare i).s[j]? = some (.own d) → j ≠ i ∧ e.s[j]? = some (.own d) := fun {j d} h => by
    rcases hs h with ⟨_, _, z⟩ | ⟨hj, y, hy, z⟩
    · cases z
    · cases y <;> cases z
      exact ⟨hj, hy⟩
  refine ⟨⟨gh, .refl _, jr, fr, fun a o _ z => z⟩, jh, by simp [Env.bare, len], fun j x h => ?_, fun j k d d' b h1 h2 h3 h4 => ?_⟩
  · rcases hs h with ⟨rfl, hl, rfl⟩ | ⟨hj, y, hy, rfl⟩
    · exact List.getElem?_set_self (by rw [len]; exact hl)
    · have z := slot j y hy
      cases y with
      | un => trivial
      | dat d => obtain ⟨v, z1, z2⟩ := z; exact ⟨v, by rw [hσ hj]; exact z1, z2⟩
      | own d => obtain ⟨p, z1, z2, z3, z4⟩ := z; exact ⟨p, by rw [hσ hj]; exact z1, z2, z3, z4⟩
      | jar k => obtain ⟨p, z1, z2⟩ := z; exact ⟨p, z1, by rw [hσ hj]; exact z2⟩
      | ptr => trivial
  · obtain ⟨j1, j2⟩ := own h1
    obtain ⟨k1, k2⟩ := own h2
    rw [hσ j1] at h3
    rw [hσ k1] at h4
    exact inj j k d d' b j2 k2 h3 h4
end
section
variable {X : Cx} {cl : Str → Addr} {F : Fra} {W : WX} {x1 x2 x3 n : Str} {i kk : Nat} {body suite : List Stmt} {b₀ : Stmt} {p1 p2 p3 tpos pos pos' : Pos} {cs : List Str} {fb : M Fl} {fsu : Exc → M Fl}
theorem rs_try (i : Nat) (hs : X.stack = X.env :: X.outer) (hf : X.env.frame = some X.env.locals) (hN : X.N.Nodup) (hi : X.N[i]? = some n) (hln : X.env.kindOf n = some .local)
    (g1 : Gl X x1) (m1 : X.mg x1 = some (.ref (cl x1))) (g2 : Gl X x2) (m2 : X.mg x2 = some (.ref (cl x2))) (g3 : Gl X x3) (m3 : X.mg x3 = some (.ref (cl x3)))
    (hcs : ∀ c ∈ cs, PySem.W.exmAny X.K (.ref (cl c)) [.ref (cl x1), .ref (cl x2), .ref (cl x3)] = some true)
    (hb : ∀ (W : WX) (pn : List (Addr × Obj)) (xe : Value → Shared → Prop), L2N.Takes (X.tr pn xe) W → PassesOwn (model X.prog X.w) X.A X.env xe → RSs (X.tr pn xe) cl F W body fb)
    (hsu : ∀ (a : Addr) (oe : Obj) (pn : List (Addr × Obj)) (G1 : Hp) (x : Exc) (dd : Option Addr), x.c ∈ cs → HotX (X.suite a ((a, oe) :: pn)) cl ⟨F.H0, G1, F.js, a⟩ x (a, oe) dd → RSs (X.suite a ((a, oe) :: pn)) cl ⟨F.H0, G1, F.js, a⟩ W00 (b₀ :: suite) (fsu x))
    (b1 : (x1 == ("__debug__" : Str)) = false := by decide) (b2 : (x2 == ("__debug__" : Str)) = false := by decide) (b3 : (x3 == ("__debug__" : Str)) = false := by decide) :
    RS X cl F W (.Try body [.ExceptHandler (some (.Tuple [.Name x1 p1, .Name x2 p2, .Name x3 p3] kk tpos)) (some n) (b₀ :: suite) pos'] [] [] pos) (sTry i cs fb fsu) := by
  refine ⟨PS.imp (ps_tryT (tb := fun W => tSt X.K cl F W fb)
    (ts := fun a cls d D σ H => ∃ x e G1, cls = .ref (cl x.c) ∧ x.c ∈ cs ∧ ExcAt X.K cl x cls d H G1 ∧ Stt X.K cl ⟨F.H0, G1, F.js, a⟩ e σ H G1 ∧ PostF X.K cl ⟨F.H0, G1, F.js, a⟩ W00 D G1 (fsu x e))
    hs hf hN hi hln g1 m1 g2 m2 g3 m3 (fun W pn xe tk hp => (hb W pn xe tk hp).pss) (fun a oe cls d pn hz hfl => ?_) b1 b2 b3) fun D σ H ⟨e, G, st, q⟩ => ⟨e, G, st, ?_⟩⟩
  · refine ⟨fun pins s σ H D I ⟨x, e, G1, ec, hx, hex, st, q⟩ => ?_⟩
    subst ec
    have HX : HotX (X.suite a ((a, oe) :: pn)) cl ⟨F.H0, G1, F.js, a⟩ x (a, oe) d :=
      ⟨rfl, List.mem_cons_self, ⟨rfl, by obtain ⟨vs, hv⟩ := hfl; exact ⟨vs, hv, hz.2.2 vs hv⟩⟩, hz, hfl, hex⟩
    exact (hsu a oe pn G1 x d hx HX).pss.run pins s σ H D I ⟨e, G1, st, q⟩
  · unfold sTry at q
    cases o : fb e with
    | ok fl e1 => rw [o] at q; cases fl <;> exact q
    | bad => rw [o] at q; exact q
    | exn x e1 =>
      rw [o] at q
      intro cls dd σ' H' G' s1 hex
      have q : PostF X.K cl F W D G (if x.c ∈ cs then rtO (fsu x (e1.bare i)) else .bad) := q
      by_cases hx : x.c ∈ cs
      · rw [if_pos hx] at q
        have ec := hex.1
        refine ⟨by rw [ec]; exact hcs _ hx, fun a na => ⟨x, e1.bare i, G', ec, hx, hex, s1.bare i, ?_⟩⟩
        cases o2 : fsu x (e1.bare i) with
        | bad => rw [o2] at q; exact q
        | exn y e2 => rw [o2] at q; exact q.elim
        | ok fl e2 =>
          rw [o2] at q
          cases fl with
          | rt d =>
            intro v H2 G2 r rv
            refine q v H2 G2 ⟨r.gh, s1.ret.g0.trans r.g0, r.jars, r.fr, fun b o h1 h2 => r.fg b o h1 (s1.ret.fg b o h1 h2)⟩ rv
          | nx => exact q.elim
          | bk => exact q.elim
          | ct => exact q.elim
      · rw [if_neg hx] at q; exact q.elim
end
end DL

namespace DL
open PySem PySem.Spec PyProof.Rows L2 PySem.DLX L2H LamX
/-- a lambda's object, made in X -/
abbrev lamO (X : Cx) (params : Arguments) (body : Expr) (scope : Scope) (pm : Value) (c' : Addr) (ctv : Value) : Obj :=
  PySem.W.kla_obj "<lambda>" (X.env.qual ++ "<lambda>") params body scope (cloFrom X.env.cells scope.names []) pm c' ctv
/-- the table with one more code object -/
def grown (H : Hp) (P : Addr) (ps : Array Value) (pos : Pos) (c' : Addr) (q : Str) : Hp := upd (upd H P (.tbl (ps ++ #[rawInt pos.line, rawInt pos.col, .ref c']))) c' (CodeO c' q)
/-- a lambda stands at f, its code object at c' -/
structure Made (X : Cx) (pins : List (Addr × Obj)) (σ : L2.St) (params : Arguments) (body : Expr) (scope : Scope) (f c' : Addr) (H : Hp) (s : Shared) : Prop where
  inv : Inv X pins σ H s
  obj : ∃ pm ctv, s.heap.get? f = some (lamO X params body scope pm c' ctv)
  new : H f = none
  off : f ∉ frs X.stack
  code : H c' = some (CodeO c' (X.env.qual ++ "<lambda>"))
section
variable {X : Cx} {pins : List (Addr × Obj)}
theorem fresh_frs {σ : L2.St} {H : Hp} {s : Shared} {f : Addr} (I : Inv X pins σ H s) (h : s.heap.objs.size ≤ f) : f ∉ frs X.stack := fun z => by
  rcases List.mem_cons.mp (I.stkSub f z) with rfl | old
  · exact absurd I.lt (Nat.not_lt_of_le h)
  · exact I.nofs h old
/-- a lambda is made: what its table is then -/
theorem lam_new {σ : L2.St} {H : Hp} {s : Shared} {c P : Addr} {ps : Array Value} {params : Arguments} {body : Expr} {scope : Scope} {pos : Pos} {E Q : Value → Shared → Prop} (I : Inv X pins σ H s) (TB : TabB X.base X.mg c P) (hcode : X.env.code = .ref c)
    (hP : H P = some (.tbl ps)) (ht : TriplesOk ps.toList) (known : ∀ (pos : Pos) (cv : Value), codeAmong pos ps.toList = some cv → ∃ c, cv = .ref c ∧ H c = some (CodeO c (X.env.qual ++ "<lambda>")))
    (hdef : defaultsOf params X.env = ([], [])) (hfree : ∀ y ∈ scope.names, y.2 = .free → ∃ c, X.env.cells.lookup y.1 = some c)
    (next : ∀ (f c' : Addr) (H1 : Hp) (s' : Shared), Made X pins σ params body scope f c' H1 s' → (H1 = H ∨ (H c' = none ∧ c' ≠ P ∧ H1 = grown H P ps pos c' (X.env.qual ++ "<lambda>"))) → Q (.ref f) s') :
    wpAny (model X.prog X.w) X.A
      (eval (.Lambda params body scope pos) X.env) Q E s := by
  have tab := I.hok P _ hP
  have bm := TB.bm.keeps I.bk
  have glob := I.mod.glob.keeps I.bk
  have cd := TB.code.keeps I.bk
  refine PySem.W.kla_eval (E := E) hdef ?_
  rcases found : codeAmong pos ps.toList with _ | cv
  · refine PySem.W.kla_makeFunction (ps := ps) (P := P) (c := c) (mg := X.mg) (closure_ok hfree) I.ok.glob glob hcode cd tab ht found TB.gP bm fun c' ctv hp tk kept low below rec tabN => ?_
    obtain ⟨_, oc, vs, t, e2, at_c, fields, q1⟩ := rec
    cases e2
    have le : s.heap.objs.size ≤ hp.objs.size := Nat.le_trans low (Nat.le_of_lt below)
    have nc := I.hok.fresh low
    have J : Inv X pins σ (grown H P ps pos c' (X.env.qual ++ "<lambda>")) { s with heap := hp.push (lamO X params body scope ((X.mg "__name__").getD .none) c' ctv), toks := tk } :=
      inv_table I hP (fun b o nb z => Heap.get?_push_of_some _ (kept b o nb z)) (Heap.get?_push_of_some _ tabN) low ⟨oc, vs, t, Heap.get?_push_of_some _ at_c, fields, q1⟩
    refine next hp.objs.size c' _ _ ⟨J, ⟨_, ctv, Heap.get?_push_size _ rfl⟩, ?_, fresh_frs I le, upd_same⟩ (.inr ⟨nc, Ne.symm (ne_of_none hP nc), rfl⟩)
    unfold grown
    rw [upd_ne (Nat.ne_of_gt below), upd_ne (Nat.ne_of_gt (Nat.lt_of_lt_of_le (Heap.lt_size tab) le))]
    exact I.hok.fresh le
  · obtain ⟨c', rfl, there⟩ := known pos cv found
    refine PySem.W.kla_makeFunctionHit (ps := ps) (P := P) (c := c) (mg := X.mg) (closure_ok hfree) I.ok.glob glob hcode cd tab ht found bm fun ctv hp tk kept le => ?_
    exact next hp.objs.size c' H _ ⟨I.kept fun b o z => Heap.get?_push_of_some _ (kept b o z), ⟨_, ctv, Heap.get?_push_size _ rfl⟩, I.hok.fresh le, fresh_frs I le, there⟩ (.inl rfl)
end
/-! ### the state behind it -/
section
variable {K : PySem.W.Frag} {cl : Str → Addr} {F : Fra} {e : Env} {σ : L2.St} {H G : Hp} {k : Nat} {P c' : Addr} {q : Str}
theorem Stt.lamNew (st : Stt K cl F e σ H G) (hk : F.js[k]? = some P) (hj : e.j[k]? = some (.tab q)) {ps : Array Value} {pos : Pos} (hP : H P = some (.tbl ps)) (hn : H c' = none) (hne : c' ≠ P) :
    Stt K cl F e σ (upd (upd H P (.tbl (ps ++ #[rawInt pos.line, rawInt pos.col, .ref c']))) c' (CodeO c' q)) (upd G c' (CodeO c' q)) ∧
    Kp F σ e H G e (upd (upd H P (.tbl (ps ++ #[rawInt pos.line, rawInt pos.col, .ref c']))) c' (CodeO c' q)) (upd G c' (CodeO c' q)) := by
  obtain ⟨⟨gh, g0, jr, fr, fg⟩, jh, len, slot, inj⟩ := st
  have hg : G c' = none := gh.free hn
  have g1 : Same G (upd G c' (CodeO c' q)) := same_upd hg
  have hPj : P ∈ F.js := List.mem_of_getElem? hk
  obtain ⟨gP, tP⟩ := jr.at_ k P _ hk hj
  obtain ⟨ps', p1, p2, p3⟩ := (show TabX H G P q from tP)
  rw [hP] at p1
  cases p1
  have at_ : ∀ {b : Addr} {o : HO}, H b = some o → b ≠ P → upd (upd H P (.tbl (ps ++ #[rawInt pos.line, rawInt pos.col, .ref c']))) c' (CodeO c' q) b = some o := fun {b o} h1 h2 => by
    rw [upd_ne (ne_of_none h1 hn), upd_ne h2]; exact h1
  have own : ∀ {b : Addr} {d : D}, Own K cl H G b d → b ≠ P → Own K cl (upd (upd H P (.tbl (ps ++ #[rawInt pos.line, rawInt pos.col, .ref c']))) c' (CodeO c' q)) (upd G c' (CodeO c' q)) b d := fun {b d} h hb => h.mono (fun o z => at_ z hb) g1
  have gn : ∀ {b : Addr} {o : HO}, H b = some o → G b = none → upd G c' (CodeO c' q) b = none := fun {b o} h1 h2 => by rw [upd_ne (ne_of_none h1 hn)]; exact h2
  have tri : TriplesOk (ps ++ #[rawInt pos.line, rawInt pos.col, .ref c']).toList ∧ ∀ (p' : Pos) (cv : Value), codeAmong p' (ps ++ #[rawInt pos.line, rawInt pos.col, .ref c']).toList = some cv → codeAmong p' ps.toList = some cv ∨ cv = .ref c' := by
    rw [Array.toList_append] -- the table, a triple longer
    exact ⟨PySem.TriplesOk_snoc _ _ _ _ p2, fun p' cv hc => among_app _ p2 hc⟩
  refine ⟨⟨⟨fun b u z => ?_, g0.trans g1, ⟨jr.len, jr.nd, fun i b d h1 h2 => ?_⟩, fun b o h1 h2 => at_ (fr b o h1 h2) fun z => h2 (z ▸ hPj), fun b o h1 h2 => ?_⟩, jh, len, fun i x hx => ?_, inj⟩, ⟨g1, fun b o h1 h2 => ⟨at_ h1 fun z => h2.1 (z ▸ hPj), fun z => gn h1 z⟩, fun i d h => ⟨d, h⟩⟩⟩
  · by_cases hb : b = c'
    · rw [hb, upd_same] at z ⊢; exact z
    · rw [upd_ne hb] at z
      exact at_ (gh _ _ z) fun w => by rw [w, gP] at z; cases z
  · obtain ⟨q1, q2⟩ := jr.at_ i b d h1 h2
    obtain ⟨o, q3⟩ := q2.ex
    refine ⟨gn q3 q1, ?_⟩
    by_cases hb : b = P
    · have ik : i = k := by
        subst hb
        have i1 := (List.getElem?_eq_some_iff.mp h1)
        have i2 := (List.getElem?_eq_some_iff.mp hk)
        exact (List.getElem_inj jr.nd).mp (i1.2.trans i2.2.symm)
      subst ik
      rw [hj] at h2
      cases h2
      rw [hb]
      refine ⟨_, by rw [upd_ne (Ne.symm hne), upd_same], tri.1, fun p' cv hc => ?_⟩
      rcases tri.2 p' cv hc with z | z
      · obtain ⟨c0, e1, e2⟩ := p3 p' cv z
        exact ⟨c0, e1, g1 _ _ e2⟩
      · exact ⟨c', z, upd_same⟩
    · exact own q2 hb
  · by_cases hp : b ∈ F.js
    · obtain ⟨i, hi⟩ := List.getElem?_of_mem hp
      have hl : i < e.j.length := by rw [jr.len]; exact (List.getElem?_eq_some_iff.mp hi).1
      obtain ⟨q1, q2⟩ := jr.at_ i b _ hi (List.getElem?_eq_getElem hl)
      obtain ⟨o, q3⟩ := q2.ex
      exact gn q3 q1
    · exact gn (fr b o h1 hp) (fg b o h1 h2)
  · have z := slot i x hx
    cases x with
    | un => trivial
    | dat d => obtain ⟨v, z1, z2⟩ := z; exact ⟨v, z1, z2.mono g1⟩
    | own d =>
      obtain ⟨p, z1, z2, z3, z4⟩ := z
      obtain ⟨o, q3⟩ := z4.ex
      exact ⟨p, z1, gn q3 z2, z3, own z4 fun w => jh P hPj (w ▸ z3)⟩
    | jar k => exact z
    | ptr => exact z
end
end DL

namespace DL
open PySem PySem.Spec PyProof.Rows L2 PySem.DLX L2H LamX
/-- the context of a lambda's body, entered at s from the frames outer -/
def lamC (X : Cx) (A : Around) (outer : List PySem.Env) (s : Shared) (H : Hp) (E : XK) (scope : Scope) (f c' : Addr) : Cx :=
  { lamCx X A outer s H E scope f c' with
    xe := fun e s' => wpAny (model X.prog X.w) (A.deeper (lamEnv X scope s.heap.objs.size f c')) (leaving (lamEnv X scope s.heap.objs.size f c') e) (fun _ s'' => L2N.CX X.prog X.w outer H s E e s'') (fun e' s'' => L2N.CX X.prog X.w outer H s E e' s'') s' }
theorem lamC_takes {X : Cx} {A : Around} {outer : List PySem.Env} {s : Shared} {H : Hp} {E : XK} {scope : Scope} {f c' : Addr} : L2N.Takes (lamC X A outer s H E scope f c') (fun c d _ H => E c d H) := L2N.takes_of rfl rfl rfl rfl
theorem lam_startN {X : Cx} {pins : List (Addr × Obj)} {σ : L2.St} {H HZ : Hp} {s s1 : Shared} {A : Around} {outer : List PySem.Env} {E : XK} {scope : Scope} {f c' : Addr} {hp : Heap} {tk : Nat} (I : Inv X pins σ H s) (L : LamS X.env.scope scope)
    (e0 : Env0 X.prog X.w X.K X.mg X.base A outer s1 HZ) (hd : A.handled = none) (since : Un (frs X.stack) [] H HZ s.heap s1.heap) (frame : hp.Ns s1.heap.objs.size fun y => List.lookup y ([] : List (Str × Value)).reverse) (old : ∀ b o, s1.heap.get? b = some o → hp.get? b = some o) :
    Inv (lamC X A outer s1 HZ E scope f c') [] σ HZ { s1 with heap := hp, toks := tk } := by
  obtain ⟨ok, os, bare, base, loc, cell, free, freeC, pin, hok, len⟩ := lam_start2 (E := E) (f := f) (c' := c') (tk := tk) I L e0 hd since frame old
  exact ⟨ok.wish _, os, bare, base, loc, cell, free, freeC, pin, hok, len⟩
/-- what is true of a lambda that is called from a def that got it -/
def LamOk (P : Program) (w : World) (K : PySem.W.Frag) (mg : Str → Option Value) (base : Heap) (A : Around) (outer : List PySem.Env) (s : Shared) (H : Hp) (k : Nat) (a : Str) (f c' : Addr) (q : Str) (tl : XK → Hp → VK → Prop) : Prop :=
  ∀ (Ng : List Str) (qg : Str) (sg : Scope) (g : Addr) (cdg : Value) (W : WX) (pn : List (Addr × Obj)) (xe : Value → Shared → Prop) (i : Nat) (p1 p2 : Pos), Ng[i]? = some a → Vis sg a → Room k (A.deeper (envOfC qg sg s.heap.objs.size g cdg)) →
    L2N.Takes ((cxOf (L2N.CX P w) P w K mg base Ng qg sg g cdg A outer s H E00).tr pn xe) W →
    PE ((cxOf (L2N.CX P w) P w K mg base Ng qg sg g cdg A outer s H E00).tr pn xe) (.Call (.Name a p1) [] [] p2) (fun σZ HZ Q => σZ[i]? = some (some (.ref f)) ∧ HZ c' = some (CodeO c' q) ∧ tl (fun c d H' => W c d σZ H') HZ Q)
section
variable {X : Cx} {pins : List (Addr ×
                                                                                                              Obj)} {σ : L2.St} {H : Hp} {s : Shared}
theorem lam_ok {f c' : Addr} {params : Arguments} {body : Expr} {scope : Scope} {kl k : Nat} {a : Str} {t : XK → TE} (m : Made X pins σ params body scope f c' H s) (L : LamS X.env.scope scope)
    (none_ : ∀ pm ctv, bindArgs (PySem.W.kla_fn "<lambda>" (X.env.qual ++ "<lambda>") params body scope (cloFrom X.env.cells scope.names []) pm (.ref c') ctv) ⟨[], []⟩ = pure []) (hkl : kl + 1 ≤ k)
    (hbody : ∀ (A : Around) (outer : List PySem.Env) (s : Shared) (H : Hp) (E : XK), Room kl (A.deeper (lamEnv X scope s.heap.objs.size f c')) → PE (lamC X A outer s H E scope f c') body (t E))
    (hd : (a == ("__debug__" : Str)) = false) (hcd : (a == ("__classdict__" : Str)) = false) :
    LamOk X.prog X.w X.K X.mg X.base X.A X.stack s H k a f c' (X.env.qual ++ "<lambda>") (fun E H' Q' => t E σ H' Q') := by
  intro Ng qg sg g cdg W pn xe i p1 p2 hN hv hr0 tk
  obtain ⟨I, ⟨pm, ctv, obj⟩, new, off, _⟩ := m
  have hr : Room (kl + 1) (X.A.deeper (envOfC qg sg s.heap.objs.size g cdg)) := hr0.mono hkl
  constructor
  intro pinsZ sZ σZ HZ Q IZ ⟨slot, code, run⟩
  have name := (pe_var (pos := p1) (i := i) hN hv hd hcd).run pinsZ sZ σZ HZ (fun v H1 => v = .ref f ∧ H1 = HZ) IZ ⟨.ref f, slot, rfl, rfl⟩
  refine wpAny_Call_Name_kw (thn name fun u s1 ⟨v, H1, I1, r1, ev, eH⟩ => ?_)
  subst eH ev
  cases (show u = Value.ref f from r1)
  have at_f : s1.heap.get? f = some (lamO X params body scope pm c' ctv) := I1.base.keep f _ obj new off fun z => by cases (show f ∈ ([] : List Addr) from z)
  unfold lamO at at_f
  have call : codeAny (model X.prog X.w) (X.A.deeper (envOfC qg sg s.heap.objs.size g cdg)) (.call (.ref f) ⟨[], []⟩) (CR (L2N.CX X.prog X.w) (envOfC qg sg s.heap.objs.size g cdg :: X.stack) X.prog X.w H1 s1 Q fun c d H' => W c d σZ H') s1 := by
    obtain ⟨⟨oc, vs, t', at_c, fields, q1⟩, _, _⟩ := I1.hok c' _ code
    refine PySem.W.kla_callFunE hr.depth at_f rfl L.co L.gen rfl ⟨c', oc, vs, t', rfl, at_c, fields, q1⟩ ?_
    rw [none_]
    refine wpAny_pure (wpAny_newFunctionEnv (fun y hy => (L.own y hy).2) (fun _ hy => nomatch hy) (fun hp names fresh => ⟨I1.nolimit.fresh _ fresh, ?_⟩) L.kind)
    change codeAny _ _ (.expr body (lamEnv X scope s1.heap.objs.size f c')) _ _
    have J := lam_startN (E := fun c d H' => W c d σZ H') (f := f) (c' := c') (tk := s1.toks + ([] : List (Str × Value)).length) I L I1.env0 hr.hd I1.base names fun b o z => fresh.extBut b o (Nat.ne_of_lt (Heap.lt_size z)) (Heap.get?_push_of_some _ z)
    refine PySem.W.kla_codeExpr (wpAny_mono ((hbody _ _ s1 H1 (fun c d H' => W c d σZ H') (hr.deeper _)).run [] _ _ H1 Q J run) (fun v s' ⟨w', H', K', rv, q⟩ => ?_) fun _ _ z => z)
    exact ⟨w', H', K'.os, K'.bare, K'.base, K'.hok, rv, q⟩
  refine PySem.W.callWith_F0 ⟨_, _, _, _, at_f⟩ (wpAny_call (codeAny_mono call fun r s' out => ?_))
  match r, out with
  | .error er, out => exact passN tk σZ pinsZ H1 s1 er s' I1 out
  | .ok (.ret u), out => exact I1.after out
  | .ok .next, no => exact no.elim
  | .ok .brk, no => exact no.elim
  | .ok .cont, no => exact no.elim
end

/-! ### a def that calls the lambda that it gets -/
def S.dt : S → S
  | .dat d => .dat d
  | _ => .un
/-- what a lambda sees -/
def Env.lam (e : Env) : Env := ⟨e.s.map S.dt, []⟩
def frzL (x : R) (e : Env) : OutF := match e.frz x with
  | some (d, e2) => .ok d e2.j
  | none => .bad
/-- what a lambda's call ends with -/
def lamOut (fb : M R) (e : Env) : OutF := match fb e.lam with
  | .ok r e1 => frzL r e1
  | .exn x e1 => .exn x e1.j
  | .bad => .bad
def cAct (i : Nat) (o : OutF) : M R := fun e => match e.s[i]? with
  | some .ptr => callO e o
  | _ => .bad
structure FnL (P : Program) (w : World) (K : PySem.W.Frag) (mg : Str → Option Value) (base : Heap) (cl : Str → Addr) (k : Nat) (g : Addr) (fd : FuncData) (a : Str) (Φ : OutF → OutF) : Prop where
  run : ∀ (A : Around) (outer : List PySem.Env) (s : Shared) (H G : Hp) (args : Args) (Q : VK) (f c' : Addr) (q : Str) (tl : XK → Hp → VK → Prop) (o : OutF), Room (k + 1) A → A.guards = some [] → LamOk P w K mg base A outer s H k a f c' q tl →
    (∀ E HZ GZ Q', Ret K cl ⟨H, G, [], 0⟩ HZ GZ [] → PostFn K cl ⟨HZ, GZ, [], 0⟩ Q' E o → tl E HZ Q') → H c' = some (CodeO c' q) →
    Env0 P w K mg base A outer s H → BindsTo s fd args [(a, .ref f)] → Same G H → PostFn K cl ⟨H, G, [], 0⟩ Q E00 (Φ o) → codeAny (model P w) A (.call (.ref g) args) (CR (L2N.CX P w) outer P w H s Q E00) s
theorem re_act {P : Program} {w : World} {K : PySem.W.Frag} {mg : Str → Option Value} {base : Heap} {cl : Str → Addr} {A : Around} {outer : List PySem.Env} {s : Shared} {H G : Hp} {k : Nat} {a : Str} {f c' : Addr} {q : Str} {tl : XK → Hp → VK → Prop} {o : OutF} (i : Nat)
    {Ng : List Str} {qg : Str} {sg : Scope} {g : Addr} {cdg : Value} {W : WX} {pn : List (Addr × Obj)} {xe : Value → Shared → Prop} {p1 p2 : Pos}
    (hL : LamOk P w K mg base A outer s H k a f c' q tl) (hm : ∀ E HZ GZ Q', Ret K cl ⟨H, G, [], 0⟩ HZ GZ [] → PostFn K cl ⟨HZ, GZ, [], 0⟩ Q' E o → tl E HZ Q') (hc : H c' = some (CodeO c' q))
    (hN : Ng[i]? = some a) (hv : Vis sg a) (hr : Room k (A.deeper (envOfC qg sg s.heap.objs.size g cdg))) (tk : L2N.Takes ((cxOf (L2N.CX P w) P w K mg base Ng qg sg g cdg A outer s H E00).tr pn xe) W) :
    RE ((cxOf (L2N.CX P w) P w K mg base Ng qg sg g cdg A outer s H E00).tr pn xe) cl ⟨H, G, [], f⟩ W (.Call (.Name a p1) [] [] p2) (cAct i o) := by
  refine ⟨⟨fun pins s1 σ H1 Q I ⟨e, G1, st, z⟩ => ?_⟩⟩
  unfold cAct at z
  cases y : e.s[i]? with
  | none => rw [y] at z; exact z.elim
  | some x =>
    rw [y] at z
    have sl := st.slot i x y
    cases x with
    | ptr =>
      have ej : e.j = [] := by
        have := st.ret.jars.len
        exact List.eq_nil_of_length_eq_zero this
      have r0 : Ret K cl ⟨H, G, [], 0⟩ H1 G1 [] := by have := st.ret.re 0; rw [ej] at this; exact this
      refine (hL Ng qg sg g cdg W pn xe i p1 p2 hN hv hr tk).run pins s1 σ H1 Q I ⟨sl, ?_, hm _ H1 G1 Q r0 ?_⟩
      · exact st.ret.fr c' _ hc (by simp)
      · have z : Post K cl ⟨H, G, [], f⟩ W σ (callO e o) (fun r e' => ∀ (v : V) (H' G' : Hp), Stt K cl ⟨H, G, [], f⟩ e' σ H' G' → Kp ⟨H, G, [], f⟩ σ e H1 G1 e' H' G' → RR K cl σ G' r v → Q v H') := z
        match o, z with
        | .bad, z => exact z.elim
        | .ok d [], z =>
          intro v H' G' rt rv
          obtain ⟨s3, k3⟩ := st.called rt
          exact z v H' G' s3 k3 rv
        | .exn x [], z =>
          intro cls dd H' G' rt ex
          obtain ⟨s3, k3⟩ := st.called rt
          exact z cls dd H' G' s3 ex
        | .ok d (_ :: _), z => exact z.elim
        | .exn x (_ :: _), z => exact z.elim
    | _ => exact z.elim
/-- THE RULE for such a def -/
def fnL (n : Nat) (g : OutF → M Fl) (o : OutF) : OutF := outF (g o (envX n))
theorem fn_L {P : Program} {w : World} {K : PySem.W.Frag} {mg : Str → Option Value} {base : Heap} {cl : Str → Addr} {k : Nat} {f : Addr} {fd : FuncData} {x qual a : Str} {params : Arguments} {body : List Stmt} {scope : Scope} {N : List Str} {g : OutF → M Fl}
    (Fn : FunD K x qual params body scope [] [] f fd) (S : FnScope N [a] scope) (hN0 : N[0]? = some a) (hv : Vis scope a)
    (hbody : ∀ (F : Fra) (cdv : Value) (A : Around) (outer : List PySem.Env) (s : Shared) (H : Hp) (o : OutF), Room k (A.deeper (envOfC qual scope s.heap.objs.size f cdv)) → A.guards = some [] →
      (∀ (W : WX) (pn : List (Addr × Obj)) (xe : Value → Shared → Prop) (p1 p2 : Pos), L2N.Takes ((cxOf (L2N.CX P w) P w K mg base N qual scope f cdv A outer s H E00).tr pn xe) W → RE ((cxOf (L2N.CX P w) P w K mg base N qual scope f cdv A outer s H E00).tr pn xe) cl F W (.Call (.Name a p1) [] [] p2) (cAct 0 o)) →
      RSs (cxOf (L2N.CX P w) P w K mg base N qual scope f cdv A outer s H E00) cl F W00 body (g o)) :
    FnL P w K mg base cl k f fd a (fnL N.length g) := by
  obtain ⟨oc, od, dV, kV, doc, pm, an, cdv, ct, osl, rfl, lk, hcd, _, _⟩ := Fn.ex
  refine ⟨fun A outer s H G args Q fl c' q tl o hr hG hL hm hc e0 hb gh z => ?_⟩
  have hpl : 1 ≤ N.length := by
    have := congrArg List.length S.pre
    rw [List.length_take] at this
    have h1 : [a].length = 1 := rfl
    omega
  refine run_ofS (CX := L2N.CX P w) (N := N) (ps := [a]) (us := [.ref fl]) (vs := [.ref fl]) lk hcd S hr e0 hb (.cons rfl .nil) rfl fun hr' => ?_
  refine ⟨_, (hbody ⟨H, G, [], fl⟩ cdv A outer s H o hr' hG fun W pn xe p1 p2 tk => re_act 0 hL hm hc hN0 hv hr' tk).pss, ?_⟩
  refine ⟨envX N.length, G, stt_startX gh hpl, ?_⟩
  have q2 : PostF K cl ⟨H, G, [], fl⟩ W00 { nx := fun _ H' => Q .non H', rt := Q } G (g o (envX N.length)) := by
    refine PostFn.of (E := E00) ?_
    have z : PostFn K cl ⟨H, G, [], 0⟩ Q E00 (outF (g o (envX N.length))) := z
    cases y : outF (g o (envX N.length)) with
    | bad => rw [y] at z; exact z
    | ok d j => rw [y] at z; exact fun v H' G' r rv => z v H' G' (r.re 0) rv
    | exn x j => rw [y] at z; exact fun cls dd H' G' r ex => z cls dd H' G' (r.re 0) ex
  exact q2
end DL

namespace DL
open PySem PySem.Spec PyProof.Rows L2 PySem.DLX L2H LamX
/-! ### f(lambda: body) -/
def cLam (k : Nat) (q : Str) (Φ : OutF → OutF) (fb : M R) : M R := fun e => match e.j[k]? with
  | some (.tab q') => if q' = q then callOk e (Φ (lamOut fb e)) else .bad
  | _ => .bad
theorem Stt.lamS {K : PySem.W.Frag} {cl : Str → Addr} {F : Fra} {e : Env} {σ : L2.St} {H G : Hp} (st : Stt K cl F e σ H G) : Stt K cl ⟨H, G, [], 0⟩ e.lam σ H G := by
  have look : ∀ {i : Nat} {x : S}, e.lam.s[i]? = some x → ∃ y, e.s[i]? = some y ∧ x = y.dt := fun {i x} h => by
    have h : (e.s.map S.dt)[i]? = some x := h
    rw [List.getElem?_map] at h
    obtain ⟨y, hy, rfl⟩ := Option.map_eq_some_iff.mp h
    exact ⟨y, hy, rfl⟩
  refine ⟨⟨st.ret.gh, .refl _, ⟨rfl, List.nodup_nil, fun k b d h => by simp at h⟩, fun a o h _ => h, fun a o _ h => h⟩, fun a ha => by simp at ha, by simp [Env.lam, st.len], fun i x h => ?_, fun i k d d' a h1 h2 h3 h4 => ?_⟩
  · obtain ⟨y, hy, rfl⟩ := look h
    have z := st.slot i y hy
    cases y with
    | dat d => exact z
    | _ => trivial
  · obtain ⟨y, _, e1⟩ := look h1
    cases y <;> cases e1
section
variable {X : Cx} {cl : Str → Addr} {F : Fra} {W : WX} {P c g : Addr} {x a : Str} {k kl : Nat} {fd : FuncData} {Φ : OutF → OutF} {params : Arguments} {body : Expr} {scope : Scope} {fb : M R} {p lpos pos : Pos}
theorem re_lam (kt : Nat) (hkt : F.js[kt]? = some P) (TB : TabB X.base X.mg c P) (hcode : X.env.code = .ref c) (hg : Gl X x) (hm : X.mg x = some (.ref g)) (hkp : PySem.W.keepIn X.K (.ref g) = true) (Fn : FnL X.prog X.w X.K X.mg X.base cl k g fd a Φ) (hb : Binds X.K fd [a] [])
    (hr : Room (k + 1) X.A) (hG : X.A.guards = some []) (hkl : kl + 1 ≤ k) (L : LamS X.env.scope scope) (hdef : defaultsOf params X.env = ([], []))
    (hbind : ∀ (q : Str) (cl : List (Str × Addr)) (pm cv ctv : Value), bindArgs
                                                                                                              (PySem.W.kla_fn "<lambda>" q params body scope cl pm cv ctv) ⟨[], []⟩ = pure [])
    (hbody : ∀ (F : Fra) (A : Around) (outer : List PySem.Env) (s : Shared) (H : Hp) (E : XK) (f c' : Addr), Room kl (A.deeper (lamEnv X scope s.heap.objs.size f c')) → RE (lamC X A outer s H E scope f c') cl F (fun c d _ H => E c d H) body fb)
    (hdb : (x == ("__debug__" : Str)) = false := by decide) (hd : (a == ("__debug__" : Str))
                                                                                                              = false := by decide) (hcd : (a == ("__classdict__" : Str)) = false := by decide) :
    RE X cl F W (.Call (.Name x p) [.Lambda params body scope lpos] [] pos) (cLam kt (X.env.qual ++ "<lambda>") Φ fb) := by
  refine ⟨⟨fun pins s σ H Q I ⟨e, G, st, z⟩ => ?_⟩⟩
  unfold cLam at z
  cases y : e.j[kt]? with
  | none => rw [y] at z; exact z.elim
  | some t =>
    rw [y] at z
    cases t with
    | tab q' =>
      have zz : Post X.K cl F W σ (if q' = (X.env.qual ++ "<lambda>") then callOk e (Φ (lamOut fb e)) else .bad) (fun r e' => ∀ (v : V) (H' G' : Hp), Stt X.K cl F e' σ H' G' → Kp F σ e H G e' H' G' → RR X.K cl σ G' r v → Q v H') := z
      clear z
      by_cases hq : q' = (X.env.qual ++ "<lambda>")
      · rw [if_pos hq] at zz
        subst hq
        obtain ⟨gP, tP⟩ := st.ret.jars.at_ kt P _ hkt y
        obtain ⟨ps, hP, ht, ha⟩ := (show TabX H G P (X.env.qual ++ "<lambda>") from tP)
        refine wpAny_Call_Name_kw (ld_glob I hg hm
          ?_ hdb)
        refine PySem.W.callWith_K (h₀ := X.base) I.ok.mod.kin hkp ?_ (by rfl) (by rfl)
        change wpAny _ _ (spliced ((false, eval (.Lambda ..) X.env) :: backTo pos (starEach [] X.env))) _ _ s
        refine Calls.spliced_cons (lam_new I TB hcode hP ht (fun pos cv hc => (ha pos cv hc).imp fun c z => ⟨z.1, st.ret.gh _ _ z.2⟩) hdef (L.has I.ok) fun f c' H1 s' made shape => ?_)
        have I1 := made.inv
        refine Calls.spliced_nil
                                                                                                              ⟨I1.kIn, ?_⟩
        obtain ⟨G1, st1, k1⟩ : ∃ G1, Stt X.K cl F e σ H1 G1 ∧ Kp F σ e H G e H1 G1 := by
          rcases shape with rfl | ⟨h1, h2, rfl⟩
          · exact ⟨G, st, .refl⟩
          · exact ⟨_, st.lamNew hkt y hP h1 h2⟩
        have LO := lam_ok (k := k) (a := a) (t := fun E σ HZ Q' => ∃ GZ, Stt X.K cl ⟨HZ, GZ, [], 0⟩ e.lam σ HZ GZ ∧ PostFn X.K cl ⟨HZ, GZ, [], 0⟩ Q' E (lamOut fb e)) made L (fun _ _ => hbind _ _ _ _ _) hkl
          (fun A outer s H E hr2 => ⟨fun pins s2 σ2 H2 Q2 I2 ⟨GZ, stz, pz⟩ => (hbody ⟨H2, GZ, [], 0⟩ A outer s H E f c' hr2).pe.run pins s2 σ2 H2 Q2 I2 ⟨e.lam, GZ, stz, by
            unfold lamOut at pz
            cases o : fb e.lam with
            | bad => rw [o] at pz; exact pz
            | exn x e1 => rw [o] at pz; exact fun cls dd H' G' s' ex => pz cls dd H' G' s'.ret ex
            | ok r e1 =>
              rw [o] at pz
              intro v H' G' s' k' rr
              have pz : PostFn X.K cl ⟨H2, GZ, [], 0⟩ Q2 E (frzL r e1) := pz
              unfold frzL at pz
              cases y2 : e1.frz r with
              | none => rw [y2] at pz; exact pz.elim
              | some pr =>
                obtain ⟨d, e2⟩ := pr
                rw [y2] at pz
                obtain ⟨G2, s2', k2, r2⟩ := frz_ok s' rr y2
                exact pz v H' G2 s2'.ret r2⟩⟩) hd hcd
        refine wpAny_call (codeAny_mono (Fn.run X.A X.stack s' H1 G1 ⟨[.ref f], []⟩ Q f c' _ _ (lamOut fb e) hr hG LO (fun E HZ GZ Q' rt pz => ⟨GZ, (st1.called rt).1.lamS, pz⟩) made.code I1.env0 (hb s' [.ref f] I1.kIn rfl) st1.ret.gh ?_) fun r s2 hq => ?_)
        · cases o : Φ (lamOut fb e) with
          | bad => rw [o] at zz; exact zz.elim
          | exn y j => rw [o] at zz; exact zz.elim
          | ok d j =>
            rw [o] at zz
            cases j with
            | cons => exact zz.elim
            | nil =>
              intro v H' G' rt rv
              obtain ⟨s3, k3⟩ := st1.called rt
              exact zz v H' G' s3 (k1.trans k3) rv
        · cases r with
          | error er =>
            obtain ⟨_, _, _, _, _, _, _, _, _, _, _, _, w⟩ := hq
            exact w.elim
          | ok fl =>
            cases fl with
            | ret u => exact I1.after hq
            | next => exact False.elim hq
            | brk => exact False.elim hq
            | cont => exact False.elim hq
      · rw [if_neg hq] at zz; exact zz.elim
    | _ => exact z.elim
end
end DL

namespace DL
open PySem PySem.Spec PyProof.Rows L2 PySem.DLX L2H LamX
/-! ### behind a call that was lent some objects -/
section
variable {K : PySem.W.Frag} {cl : Str → Addr} {F : Fra} {e e' : Env} {σ : L2.St} {H G H' G' : Hp} {L : List Addr} {jl : List D}
theorem Stt.calledG (st : Stt K cl F e σ H G) (r : Ret K cl ⟨H, G, L, 0⟩ H' G' jl) (h0 : ∀ a ∈ L, a ∈ F.js ∨ F.H0 a = none)
    (ls : e'.s.length = e.s.length) (lj : e'.j.length = e.j.length)
    (hs : ∀ (i : Nat) (x : S), e'.s[i]? = some x → (e.s[i]? = some x ∧ (∀ d : D, x = .own d → ∀ a : Addr, σ[i]? = some (some (.ref a)) → a ∉ L)) ∨ (∃ (d d0 : D) (a : Addr) (m : Nat), x = .own d ∧ e.s[i]? = some (.own d0) ∧ σ[i]? = some (some (.ref a)) ∧ L[m]? = some a ∧ jl[m]? = some d))
    (hj : ∀ (k : Nat) (a : Addr) (d : D), F.js[k]? = some a → e'.j[k]? = some d → (a ∉ L ∧ e.j[k]? = some d) ∨ (∃ m : Nat, L[m]? = some a ∧ jl[m]? = some d)) :
    Stt K cl F e' σ H' G' ∧ Same G G' ∧ (∀ (b : Addr) (o : HO), b ∉ L → H b = some o → H' b = some o) ∧ (∀ (b : Addr) (o : HO), H b = some o → G b = none → G' b = none) ∧ ∀ (i : Nat) (d : D), e'.s[i]? = some (S.own d) → ∃ d' : D, e.s[i]? = some (S.own d') := by
  have hk : ∀ {b : Addr} {o : HO}, b ∉ L → H b = some o → H' b = some o := fun {b o} n q => r.fr b o q n
  have hg : ∀ {b : Addr} {o : HO}, H b = some o → G b = none → G' b = none := fun {b o} q n => r.fg b o q n
  obtain ⟨⟨gh, g0, jr, fr, fg⟩, jh, len, slot, inj⟩ := st
  have ow : ∀ (i : Nat) (d : D), e'.s[i]? = some (S.own d) → ∃ d' : D, e.s[i]? = some (S.own d') := fun i d h => by
    rcases hs i _ h with ⟨h1, _⟩ | ⟨_, d0, _, _, _, h2, _⟩
    · exact ⟨_, h1⟩
    · exact ⟨_, h2⟩
  refine ⟨⟨⟨r.gh, g0.trans r.g0, ⟨by rw [lj]; exact jr.len, jr.nd, fun k b d k1 k2 => ?_⟩, fun b o q hn => ?_, fun b o q hn => ?_⟩, jh, by rw [ls]; exact len, fun i x hx => ?_, fun i k d d' b k1 k2 k3 k4 => ?_⟩, r.g0, fun b o n q => hk n q, fun b o q n => hg q n, ow⟩
  · rcases hj k b d k1 k2 with ⟨nb, k3⟩ | ⟨m, m1, m2⟩
    · obtain ⟨q1, q2⟩ := jr.at_ k b d k1 k3
      obtain ⟨o, q3⟩ := q2.ex
      exact ⟨hg q3 q1, q2.mono (fun o q => hk nb q) r.g0⟩
    · exact r.jars.at_ m b d m1 m2
  · have nb : b ∉ L := fun z => by
      rcases h0 b z with w | w
      · exact hn w
      · rw [w] at q; cases q
    exact hk nb (fr b o q hn)
  · by_cases hp : b ∈ F.js
    · obtain ⟨k, hk'⟩ := List.getElem?_of_mem hp
      have hl : k < e.j.length := by rw [jr.len]; exact (List.getElem?_eq_some_iff.mp hk').1
      obtain ⟨q1, q2⟩ := jr.at_ k b _ hk' (List.getElem?_eq_getElem hl)
      obtain ⟨o, q3⟩ := q2.ex
      exact hg q3 q1
    · exact hg (fr b o q hp) (fg b o q hn)
  · rcases hs i x hx with ⟨h1, h2⟩ | ⟨d, d0, a, m, rfl, h1, h2, h3, h4⟩
    · have z := slot i x h1
      cases x with
      | un => trivial
      | dat d => obtain ⟨v, z1, z2⟩ := z; exact ⟨v, z1, z2.mono r.g0⟩
      | own d =>
        obtain ⟨a, z1, z2, z3, z4⟩ := z
        obtain ⟨o, q3⟩ := z4.ex
        exact ⟨a, z1, hg q3 z2, z3, z4.mono (fun o q => hk (h2 d rfl a z1) q) r.g0⟩
      | jar k => exact z
      | ptr => exact z
    · obtain ⟨a', z1, z2, z3, z4⟩ := slot i _ h1
      rw [h2] at z1
      cases z1
      obtain ⟨q1, q2⟩ := r.jars.at_ m a d h3 h4
      exact ⟨a, h2, q1, z3, q2⟩
  · obtain ⟨d1, k1⟩ := ow i d k1
    obtain ⟨d2, k2⟩ := ow k d' k2
    exact inj i k d1 d2 b k1 k2 k3 k4
end
/-! ### tables go along -/
def Env.putT (e : Env) (nj : Nat) (ts : List D) : Env := ⟨e.s, e.j.take nj ++ ts⟩
def callJT (e : Env) (i nj : Nat) (o : OutF) : Out R := match o with
  | .ok d (x :: ts) => if (e.j.drop nj).length = ts.length then outE ((e.putT nj ts).put i x) fun e' => .ok (.val d) e' else .bad
  | .exn y (x :: ts) => if (e.j.drop nj).length = ts.length then outE ((e.putT nj ts).put i x) fun e' => .exn y e' else .bad
  | _ => .bad
/-- f(jar, ..), the tables lent, too -/
def cCallJT (nj : Nat) (Φ : Fn) (fs : M (List R)) : M R := fun e => (fs e).bnd fun rs e1 => match rs with
  | .whole i :: rs => (match e1.rd (.whole i), e1.frzs rs with
    | some x, some (ds, e2) => (match e2.rd (.whole i) with
      | some x => callJT e2 i nj (Φ (.jar 0 :: ds.map A.dat) (x :: e2.j.drop nj))
      | none => .bad)
    | _, _ => .bad)
  | _ => .bad
def callTT (e : Env) (nj : Nat) (o : OutF) : Out R := match o with
  | .ok d (_ :: ts) => if (e.j.drop nj).length = ts.length then .ok (.val d) (e.putT nj ts) else .bad
  | .exn x (_ :: ts) => if (e.j.drop nj).length = ts.length then .exn x (e.putT nj ts) else .bad
  | _ => .bad
/-- f(a new list), the tables lent, too -/
def cCallTT (nj : Nat) (Φ : Fn) (f : M D) : M R := fun e => (f e).bnd fun d e1 => callTT e1 nj (Φ [.jar 0] (d :: e1.j.drop nj))
def spT (K : PySem.W.Frag) (cl : Str → Addr) (nj : Nat) (ts : List Addr) (Φ : Fn) : Sp := fun vs H Q E => ∃ (as : List A) (j : List D) (js0 : List Addr) (G : Hp),
  js0.length = nj ∧ Same G H ∧ ArgsOk K cl (js0 ++ ts) G as vs ∧ Jars K cl (js0 ++ ts) H G j ∧ PostFn K cl ⟨H, G, js0 ++ ts, 0⟩ Q E (Φ as j)
section
variable {P : Program} {w : World} {K : PySem.W.Frag} {mg : Str → Option Value} {base : Heap} {k nj : Nat} {f c : Addr} {fd : FuncData} {ps : List Str} {cl : Str → Addr} {ts : List Addr}
theorem FnG.byT {Φ Ψ : Fn} (h : FnG P w K mg base k f fd ps (spT K cl nj ts Φ)) (e : ∀ as j, Ψ as j ≠ .bad → Φ as j = Ψ as j) : FnG P w K mg base k f fd ps (spT K cl nj ts Ψ) :=
  h.imp fun vs H Q E ⟨as, j, js, G, h1, gh, ao, jr, q⟩ => ⟨as, j, js, G, h1, gh, ao, jr, by
    rw [e as j fun z => by rw [z] at q; exact q]
    exact q⟩
theorem fn_T {x qual : Str} {params : Arguments} {body : List Stmt} {scope : Scope} {kws : List (Str × V)} {dvs : List V} {N : List Str} {g : M Fl}
    (Fn : FunD K x qual params body scope dvs kws f fd) (S : FnScope N ps scope)
    (hbody : ∀ (F : Fra) (js0 : List Addr) (cdv : Value) (A : Around) (out : List PySem.Env) (s : Shared) (H : Hp) (E : XK), cdv = fd.code → F.js = js0 ++ ts → js0.length = nj → Room k (A.deeper (envOfC qual scope s.heap.objs.size f cdv)) →
      (A.deeper (envOfC qual scope s.heap.objs.size f cdv)).guards = some [] →
      RSs (cxOf (L2N.CX P w) P w K mg base N qual scope f cdv A out s H E) cl F (fun c d _ H => E c d H) body g) :
    FnG P w K mg base (k + 1) f fd ps (spT K cl nj ts (fnOf N.length ps.length g)) := by
  obtain ⟨oc, od, dV, kV, doc, pm, an, cdv, ct, osl, rfl, lk, hcd, _, _⟩ := Fn.ex
  refine fnG_of lk hcd S (fun ys H Q E h => ?_) fun A out s H ys Q E hr hg h => ?_
  · obtain ⟨as, j, js, G, h1, gh, ao, jr, q⟩ := h
    unfold fnOf at q
    split at q
    · rename_i hl; rw [← ao.length, hl]
    · exact q.elim
  · obtain ⟨as, j, js, G, h1, gh, ao, jr, q⟩ := h
    refine ⟨_, (hbody ⟨H, G, js ++ ts, 0⟩ js cdv A out s H E rfl rfl h1 hr hg).pss, _, _, stt_start gh ao jr, ?_⟩
    unfold fnOf at q
    split at q
    · exact PostFn.of (K := K) q
    · exact q.elim
end
section
variable {X : Cx} {cl : Str → Addr} {F : Fra} {W : WX} {nj : Nat} {js0 ts : List Addr} {Φ : Fn} {fs : M (List R)} {fx : M D}
theorem drop_ts {e : Env} {K : PySem.W.Frag} {σ : L2.St} {H G : Hp} (st : Stt K cl F e σ H G) (hF : F.js = js0 ++ ts) (hn : js0.length = nj) : (e.j.drop nj).length = ts.length ∧ ∀ (m : Nat) (a : Addr) (d : D), ts[m]? = some a → (e.j.drop nj)[m]? = some d → G a = none ∧ Own K cl H G a d := by
  have hl : e.j.length = nj + ts.length := by rw [st.ret.jars.len, hF, List.length_append, hn]
  refine ⟨by rw [List.length_drop, hl]; omega, fun m a d h1 h2 => ?_⟩
  rw [List.getElem?_drop] at h2
  refine st.ret.jars.at_ (nj + m) a d ?_ h2
  rw [hF, List.getElem?_append_right (by omega), hn, Nat.add_sub_cancel_left]
  exact h1
theorem putT_get {e : Env} {ts' : List D} (hl : nj ≤ e.j.length) {k : Nat} : (e.putT nj ts').j[k]? = if k < nj then e.j[k]? else ts'[k - nj]? := by
  unfold Env.putT
  by_cases h : k < nj
  · rw [if_pos h, List.getElem?_append_left (by rw [List.length_take]; omega), List.getElem?_take_of_lt h]
  · rw [if_neg h, List.getElem?_append_right (by rw [List.length_take]; omega), List.length_take, Nat.min_eq_left hl]
theorem callTT_D (hF : F.js = js0 ++ ts) (hn : js0.length = nj) {σ : L2.St} {H : Hp} {Q : VK} (h : tD X.K cl F W (cCallTT nj Φ fx) σ H Q) : tCons (tFr X.K cl F W fx) tNil σ H fun vs H1 => spT X.K cl 1 ts Φ vs H1 Q (fun c d H => W c d σ H) := by
  obtain ⟨e, G, st, q⟩ := h
  refine ⟨e, G, st, ?_⟩
  unfold cCallTT at q
  cases o : fx e with
  | bad => rw [o] at q; exact q
  | exn y e1 => rw [o] at q; exact q
  | ok d e1 =>
    rw [o] at q
    intro a H1 G1 s1 k1 ow ga h0 l n
    obtain ⟨hl, hts⟩ := drop_ts s1 hF hn
    have hlj : nj ≤ e1.j.length := by rw [s1.ret.jars.len, hF, List.length_append, hn]; omega
    have hnd : js0.Nodup ∧ ts.Nodup ∧ ∀ x ∈ js0, ∀ y ∈ ts, x ≠ y := List.nodup_append.mp (by rw [← hF]; exact s1.ret.jars.nd)
    have tsj : ∀ b ∈ ts, b ∈ F.js := fun b hb => by rw [hF]; exact List.mem_append_right _ hb
    have aT : a ∉ ts := fun z => l.1 (tsj a z)
    refine ⟨[.jar 0], d :: e1.j.drop nj, [a], G1, rfl, s1.ret.gh, .jar rfl .nil, ⟨by simp [hl], by
      rw [List.singleton_append, List.nodup_cons]; exact ⟨aT, hnd.2.1⟩, fun k b d' e1' e2 => ?_⟩, ?_⟩
    · cases k with
      | zero => cases e1'; cases e2; exact ⟨ga, ow⟩
      | succ k => exact hts k b d' e1' e2
    have q : Post X.K cl F W σ (callTT e1 nj (Φ [.jar 0] (d :: e1.j.drop nj))) _ := q
    have back : ∀ {d' : D} {ts' : List D} {H' G' : Hp}, (e1.j.drop nj).length = ts'.length → Ret X.K cl ⟨H1, G1, [a] ++ ts, 0⟩ H' G' (d' :: ts') → Stt X.K cl F (e1.putT nj ts') σ H' G' ∧ Kp F σ e H G (e1.putT nj ts') H' G' := by
      intro d' ts' H' G' hlt rt
      have ht : ts'.length = ts.length := by omega
      obtain ⟨s2, g2, k2, k3, k4⟩ := s1.calledG (e' := e1.putT nj ts') rt (fun b hb => by
          rcases List.mem_cons.mp
                                                                                                              hb with rfl | hb
          · exact .inr h0
          · exact .inl (tsj b hb)) rfl (by
          show (e1.j.take nj ++ ts').length = e1.j.length
          rw [List.length_append, List.length_take, ← hlt, List.length_drop]; omega)
        (fun i x hx => .inl ⟨hx, fun dd hd b hb z => by
          subst hd
          rcases List.mem_cons.mp z with rfl | z
          · exact l.2 i dd hx hb
          · obtain ⟨b', z1, z2, z3, _⟩ := s1.slot i _ hx
            rw [hb] at z1
            cases z1
            exact s1.jh b (tsj b z) z3⟩)
        (fun k b dd h1 h2 => by
          rw [putT_get hlj] at h2
          rw [hF] at h1
          by_cases hk : k < nj
          · rw [if_pos hk] at h2
            rw [List.getElem?_append_left (by omega)] at h1
            have hb := List.mem_of_getElem? h1
            refine .inl ⟨fun z => ?_, h2⟩
            rcases List.mem_cons.mp z with rfl | z
            · exact l.1 (by rw [hF]; exact List.mem_append_left _ hb)
            · exact hnd.2.2 b hb b z rfl
          · rw [if_neg hk] at h2
            rw [List.getElem?_append_right (by omega), hn] at h1
            exact .inr ⟨k - nj + 1, h1, h2⟩)
      refine ⟨s2, ⟨fun b u z => g2 b u (k1.gg b u z), fun b u z lb => ?_, fun i d h => k1.ow i d h⟩⟩
      obtain ⟨z1, z2⟩ := k1.kp b u z lb
      refine ⟨k2 b u (fun w => ?_) z1, fun g => k3 b u z1 (z2 g)⟩
      rcases List.mem_cons.mp w with rfl | w
      · exact n b u z lb rfl
      · exact lb.1 (tsj b w)
    cases o2 : Φ [.jar 0] (d :: e1.j.drop nj) with
    | bad => rw [o2] at q; exact q
    | ok r j =>
      rw [o2] at q
      match j, q with
      | d' :: ts', q =>
        have q : Post X.K cl F W σ (if (e1.j.drop nj).length = ts'.length then (.ok (.val r) (e1.putT nj ts') : Out R) else .bad) _ := q
        by_cases hlt : (e1.j.drop nj).length = ts'.length
        · rw [if_pos hlt] at q
          intro v H' G' rt rv
          obtain ⟨s2, k2⟩ := back hlt rt
          exact q v H' G' s2 k2 rv
        · rw [if_neg hlt] at q; exact q.elim
      | [], q => exact q.elim
    | exn y j =>
      rw [o2] at q
      match j, q with
      | d' :: ts', q =>
        have q : Post X.K cl F W σ (if (e1.j.drop nj).length = ts'.length then (.exn y (e1.putT nj ts') : Out R) else .bad) _ := q
        by_cases hlt : (e1.j.drop nj).length = ts'.length
        · rw [if_pos hlt] at q
          intro cls dd H' G' rt ex
          obtain ⟨s2, k2⟩ := back hlt rt
          exact q cls dd H' G' s2 ex
        · rw [if_neg hlt] at q; exact q.elim
      | [], q => exact q.elim
variable {k : Nat} {f : Addr} {fd : FuncData} {ps : List Str} {x : Str} {p pos : Pos} {a : Expr} {es : List Expr}
theorem re_callTT (hF : F.js = js0 ++ ts) (hn : js0.length = nj) (Fn : FnG X.prog X.w X.K X.mg X.base k f fd ps (spT X.K cl 1 ts Φ)) (hG : X.A.guards = some []) (hr : Room k X.A) (tk : L2N.Takes X W) (hg : Gl X x) (hm : X.mg x = some (.ref f)) (hk : PySem.W.keepIn X.K (.ref f) = true) (hb : Binds X.K fd ps [])
    (ha : RF X cl F W a fx) (hdb : (x == ("__debug__" : Str)) = false := by decide) (he : starEach [a] X.env = (false, eval a X.env) :: starEach [] X.env := by rfl) (hpl : (backTo pos (starEach [] X.env)).any (·.1) = false := by rfl) :
    RE X cl F W (.Call (.Name x p) [a] [] pos) (cCallTT nj Φ fx) :=
  ⟨PE.imp (pe_callG Fn hG hr hg hm hk hb (fun σ => passN tk σ) (pa_cons ha.pe pa_nil he) hdb he hpl) fun σ H Q h => callTT_D hF hn h⟩
end
end DL

namespace DL
open PySem PySem.Spec PyProof.Rows L2 PySem.DLX L2H LamX
/-! ### facts about own errors -/
inductive Fx where
  | err (c : Str) (b : Nat) (f : Str)
  | exm (c : Str) (l : List Str)
  | kitT (c : Str) (T : String) (b : Bool)
  | nof (c f : Str)
def baseN : Nat → String × String × String
  | 0 => ("ValueError", "ValueError.__new__", "ValueError.__init__")
  | 1 => ("LookupError", "LookupError.__new__", "LookupError.__init__")
  | _ => ("ArithmeticError", "ArithmeticError.__new__", "ArithmeticError.__init__")
theorem baseN_ok : ∀ b, BaseB (baseN b).1 (baseN b).2.1 (baseN b).2.2
  | 0 => base_VE
  | 1 => base_LE
  | _ + 2 => base_AE
theorem dict_of {K : PySem.W.Frag} {C : Addr} (h : PySem.W.hasDictIn K C = true) : ∃ cd, PySem.W.clsIn K C = some cd ∧ cd.hasDict = true := by
  unfold PySem.W.hasDictIn at h
  cases q : PySem.W.clsIn K C with
  | none => rw [q] at h; cases h
  | some cd => rw [q] at h; exact ⟨cd, rfl, h⟩
def Fx.ok (K : PySem.W.Frag) : Fx → Bool
  | .err c b f => (PySem.W.excInitIn K (He.ga K c) (tailOf (baseN b).1) (baseN b).2.1 && PySem.W.excOver K (He.ga K c) (tailOf (baseN b).1)) && (He.eqO (PySem.W.findIn K (.ref (He.ga K c)) "__setattr__") (some (some (.builtin "object.__setattr__"))) &&
    (decide (PySem.W.subIn K (.ref (He.ga K c)) (.type "BaseException") = some true) && (decide (PySem.W.typeIn K (.ref (He.ga K c)) = some (.type "type")) && (PySem.W.keepIn K (.ref (He.ga K c)) &&
    (He.eqO (PySem.W.findIn K (.ref (He.ga K c)) "__getattribute__") (some (some (.builtin "BaseException.__getattribute__"))) && (He.eqO (PySem.W.findIn K (.ref (He.ga K c)) "__getattr__") (some none) &&
    (PySem.W.hasDictIn K (He.ga K c) && (He.eqO (PySem.W.findIn K (.ref (He.ga K c)) "__class__") (some (some (.builtin "object.__class__"))) && (He.eqO (PySem.W.specialIn K (.builtin "object.__class__") "__get__") (some (some (.builtin "getset_descriptor.__get__"))) &&
    (decide (PySem.W.takesIn K (.builtin "object.__class__") = some true) && (decide (PySem.W.mroIn K (He.ga K c) (.type "object") = some true) &&
    (He.eqO (PySem.W.findIn K (.ref (He.ga K c)) f) (some none) && (He.eqO (PySem.W.findIn K (.ref (He.ga K c)) "__init__") (some (some (.ref (He.ma K (He.ga K c) "__init__")))) &&
    (decide (PySem.W.typeIn K (.ref (He.ma K (He.ga K c) "__init__")) = some (.type "function")) && (PySem.W.clsIn K (He.ga K c)).isSome))))))))))))))
  | .exm c l => decide (PySem.W.exmAny K (.ref (He.ga K c)) (l.map fun y => .ref (He.ga K y)) = some true)
  | .kitT c T b => decide (PySem.W.kitOne K (.ref (He.ga K c)) (.type T) = some b)
  | .nof c f => He.eqO (PySem.W.findIn K (.ref (He.ga K c)) f) (some none)
section
variable {K : PySem.W.Frag}
theorem Fx.err_ok {c f : Str} {b : Nat} (h : (Fx.err c b f).ok K = true) : ErrC K (He.ga K c) (baseN b).1 (baseN b).2.1 (baseN b).2.2 ∧ ErrI K (He.ga K c) ∧ PySem.W.findIn K (.ref (He.ga K c)) f = some none ∧
    PySem.W.findIn K (.ref (He.ga K c)) "__init__" = some (some (.ref (He.ma K (He.ga K c) "__init__"))) ∧ PySem.W.typeIn K (.ref (He.ma K (He.ga K c) "__init__")) = some (.type "function") := by
  obtain ⟨h1, h⟩ := and2 h
  obtain ⟨h0, h1⟩ := and2 h1
  obtain ⟨h2, h⟩ := and2 h
  obtain ⟨h3, h⟩ := and2 h
  obtain ⟨h4, h⟩ := and2 h
  obtain ⟨h5, h⟩ := and2 h
  obtain ⟨h6, h⟩ := and2 h
  obtain ⟨h7, h⟩ := and2 h
  obtain ⟨h8, h⟩ := and2 h
  obtain ⟨h9, h⟩ := and2 h
  obtain ⟨h10, h⟩ := and2 h
  obtain ⟨h11, h⟩ := and2 h
  obtain ⟨h12, h⟩ := and2 h
  obtain ⟨h13, h⟩ := and2 h
  obtain ⟨h14, h⟩ := and2 h
  obtain ⟨h15, _⟩ := and2 h
  exact ⟨⟨baseN_ok b, h0, h1, dict_of h8, of_decide_eq_true h3, h5, He.eqO_ok h2, of_decide_eq_true h4⟩, ⟨He.eqO_ok h6, He.eqO_ok h7, of_decide_eq_true h3, h8, He.eqO_ok h9, He.eqO_ok h10, of_decide_eq_true h11, of_decide_eq_true h12⟩, He.eqO_ok h13, He.eqO_ok h14, of_decide_eq_true h15⟩
end
/-! ### a table for each code object -/
def isTab (o : Obj) : Bool := match o with
  | ⟨.none, none, .fields vs, sl⟩ => vs.toList.isEmpty && sl.toList.isEmpty
  | _ => false
theorem isTab_ok {o : Obj} (h : isTab o = true) : o = { cls := .none, data := .fields #[] } := by
  unfold isTab at h
  split at h
  · rename_i vs sl
    obtain ⟨h1, h2⟩ := and2 h
    have e1 : vs = #[] := Array.toList_inj.mp (List.isEmpty_iff.mp h1)
    have e2 : sl = #[] := Array.toList_inj.mp (List.isEmpty_iff.mp h2)
    rw [e1, e2]
  · cases h
def frT (g : Addr → Option Obj) (as : List Addr) : PySem.W.Frag := (He.frG g as).filter fun p => !isTab p.2
theorem frT_lookup {g : Addr → Option Obj} {a : Addr} {o : Obj} : ∀ l : PySem.W.Frag, (l.filter fun p => !isTab p.2).lookup a = some o → (∀ p ∈ l, g p.1 = some p.2) → g a = some o ∧ isTab o = false
  | [], e, _ => by cases e
  | (b, u) :: r, e, hl => by
    by_cases hu : isTab u = true
    · have e2 : ((b, u) :: r).filter (fun p => !isTab p.2) = r.filter fun p => !isTab p.2 := by
        rw [List.filter_cons_of_neg]; simp [hu]
      rw [e2] at e
      exact frT_lookup r e fun p hp => hl p (List.mem_cons_of_mem _ hp)
    · have hu : isTab u = false := by simpa using hu
      have e2 : ((b, u) :: r).filter (fun p => !isTab p.2) = (b, u) :: r.filter fun p => !isTab p.2 := by
        rw [List.filter_cons_of_pos]; simp [hu]
      rw [e2] at e
      have e : (match a == b with
        | true => some u
        | false => (r.filter fun p => !isTab p.2).lookup a) = some o := e
      split at e
      · rename_i hb
        have e3 := Option.some.inj e
        have hb : a = b := by simpa using hb
        rw [← e3]
        exact ⟨by rw [hb]; exact hl (b, u) List.mem_cons_self, hu⟩
      · exact frT_lookup r e fun p hp => hl p (List.mem_cons_of_mem _ hp)
theorem frG_mem {g : Addr → Option Obj} {as : List Addr} : ∀ p ∈ He.frG g as, g p.1 = some p.2 := fun p hp => by
  unfold He.frG at hp
  obtain ⟨a, _, h⟩ := List.mem_filterMap.mp hp
  obtain ⟨o, h1, rfl⟩ := Option.map_eq_some_iff.mp h
  exact h1
theorem frT_in {as : List Addr} {h : Heap} : (frT h.get? as).In h := fun a o e => (frT_lookup _ e frG_mem).1
theorem frT_none {as : List Addr} {h : Heap} {P : Addr} {o : Obj} (hP : h.get? P = some o) (ht : isTab o = true) : (frT h.get? as).lookup P = none := by
  cases q : (frT h.get? as).lookup P with
  | none => rfl
  | some u =>
    obtain ⟨h1, h2⟩ := frT_lookup _ q frG_mem
    rw [hP] at h1
    cases h1
    rw [ht] at h2
    cases h2
def codeAd (K : PySem.W.Frag) (a : Addr) : Addr := match K.lookup a with
  | some ⟨_, _, .func fn, _⟩ => (match fn.code with
    | .ref c => c
    | _ => 0)
  | _ => 0
def tabAd (K : PySem.W.Frag) (c : Addr) : Addr := match K.lookup c with
  | some ⟨_, _, .fields vs, _⟩ =>
                                                                                                              (match (vs[11]? : Option Value) with
    | some (.ref P) => P
    | _ => 0)
  | _ => 0
/-- the def at a makes lambdas: its code object, that one's table -/
def tabOk (K : PySem.W.Frag) (g : Addr → Option Obj) (a : Addr) : Bool := (match K.lookup a with
  | some ⟨_, _, .func fn, _⟩ => (match fn.code with
    | .ref _ => true
    | _ => false)
  | _ => false) && (PySem.W.codeHdIn K (codeAd K a) (tabAd K (codeAd K a)) && (match g (tabAd K (codeAd K a)) with
  | some o => isTab o
  | none => false))
abbrev AlT : Type := Bool × List DfV
def obsT (fa : List He.Fa) (fc : List Fc) (fx : List Fx) (fn : List Df) (lm : List At) (g : Addr → Option Obj) (K : PySem.W.Frag) : AlT :=
  ((fa.all fun f => f.ok K) && ((fc.all fun f => f.ok K) && ((fx.all fun f => f.ok K) && ((fn.all fun d => d.ok K) && ((lm.all fun a => tabOk K g (a.ad K)) && decide ((lm.map fun a => tabAd K (codeAd K (a.ad K))).Nodup))))), fn.map fun d => dfV K (d.at_.ad K))
def SaysT (fa : List He.Fa) (fc : List Fc) (fx : List Fx) (fn : List Df) (lm : List At) (h : Heap) (K : PySem.W.Frag) : Prop := obsT fa fc fx fn lm h.get? K = valX fn
def obsTG (n : Nat) (fa : List He.Fa) (fc : List Fc) (fx : List Fx) (fn : List Df) (lm : List At) (g : Addr → Option Obj) : AlT := obsT fa fc fx fn lm g (frT g (He.asD g n))
/-- what the hook says: the old facts, the new ones, the tables -/
structure SaysL (fa : List He.Fa) (fc : List Fc) (fx : List Fx) (fn : List Df) (lm : List At) (h : Heap) (K : PySem.W.Frag) : Prop where
  x : SaysX fa fc fn K
  fx : ∀ f ∈ fx, f.ok K = true
  tab : ∀ a ∈ lm, (∃ ocl odc fd sl, K.lookup (a.ad K) = some ⟨ocl, odc, .func fd, sl⟩ ∧ fd.code = .ref (codeAd K (a.ad K))) ∧ PySem.W.codeHdIn K (codeAd K (a.ad K)) (tabAd K (codeAd K (a.ad K))) = true ∧
    h.get? (tabAd K (codeAd K (a.ad K))) = some { cls := .none, data := .fields #[] } ∧ K.lookup (tabAd K (codeAd K (a.ad K))) = none
  nd : (lm.map fun a => tabAd K (codeAd K (a.ad K))).Nodup
theorem saysL_of {n : Nat} {fa : List He.Fa} {fc : List Fc} {fx : List Fx} {fn : List Df} {lm : List At} {h : Heap} (e : obsTG n fa fc fx fn lm h.get? = valX fn) : SaysL fa fc fx fn lm h (frT h.get? (He.asD h.get? n)) := by
  have e1 : ((fa.all fun f => f.ok (frT h.get? (He.asD h.get? n))) && ((fc.all fun f => f.ok (frT h.get? (He.asD h.get? n))) && ((fx.all fun f => f.ok (frT h.get? (He.asD h.get? n))) && ((fn.all fun d => d.ok (frT h.get? (He.asD h.get? n))) && ((lm.all fun a => tabOk (frT h.get? (He.asD h.get? n)) h.get? (a.ad (frT h.get? (He.asD h.get? n)))) && decide ((lm.map fun a => tabAd (frT h.get? (He.asD h.get? n)) (codeAd (frT h.get? (He.asD h.get? n)) (a.ad (frT h.get? (He.asD h.get? n))))).Nodup)))))) = true := congrArg (fun z : AlT => z.1) e
  have e2 : fn.map (fun d => dfV (frT h.get? (He.asD h.get? n)) (d.at_.ad (frT h.get? (He.asD h.get? n)))) = fn.map Df.val := congrArg (fun z : AlT => z.2) e
  obtain ⟨h1, h2⟩ := and2 e1
  obtain ⟨h2, h3⟩ := and2 h2
  obtain ⟨h3, h4⟩ := and2 h3
  obtain ⟨h4, h5⟩ := and2 h4
  obtain ⟨h5, h6⟩ := and2 h5
  refine ⟨?_, List.all_eq_true.mp h3, fun a ha => ?_, of_decide_eq_true h6⟩
  · show (_, _) = (true, _)
    rw [h1, h2, h4, e2]
    rfl
  · have t := List.all_eq_true.mp h5 a ha
    obtain ⟨t1, t⟩ := and2 t
    obtain ⟨t2, t3⟩ := and2 t
    refine ⟨?_, t2, ?_⟩
    · split at t1
      · rename_i ocl odc fd sl q
        split at t1
        · rename_i c hc
          refine ⟨ocl, odc, fd, sl, q, ?_⟩
          unfold codeAd
          rw [q]
          simp only
          rw [hc]
        · cases t1
      · cases t1
    · split at t3
      · rename_i o q
        refine ⟨?_, frT_none q t3⟩
        rw [q, isTab_ok t3]
      · cases t3
def hookT (n : Nat) (fa : List He.Fa) (fc : List Fc) (fx : List Fx) (fn : List Df) (lm : List At) : PySem.W.Hook where
  α := AlT
  obs := fun s => obsTG n fa fc fx fn lm s.heap.get?
  val := fun _ => valX fn
  says := fun _ h => ∃ K : PySem.W.Frag, K.In h ∧ SaysL fa fc fx fn lm h K
  of := fun _ _ e => ⟨_, frT_in, saysL_of e⟩
  keeps := fun _ _ _ ⟨K, hK, c⟩ k => ⟨K, PySem.W.Frag.In.keeps hK k, ⟨c.x, c.fx, fun a ha => ⟨(c.tab a ha).1, (c.tab a ha).2.1, k _ _ (c.tab a ha).2.2.1, (c.tab a ha).2.2.2⟩, c.nd⟩⟩
theorem obsTG_eq {n : Nat} {fa : List He.Fa} {fc : List Fc} {fx : List Fx} {fn : List Df} {lm : List At} {g : Addr → Option Obj} {s : Shared} (h : ∀ a, g a = s.heap.get? a) : obsTG n fa fc fx fn lm g = (hookT n fa fc fx fn lm).obs s := by
  obtain rfl : g = s.heap.get? := funext h
  rfl
/-- the code object of a def is what its table's fact tells -/
theorem _root_.L2.FunD.code_of {K : PySem.W.Frag} {x qual : Str} {params : Arguments} {body : List Stmt} {scope : Scope} {dvs : List V} {kws : List (Str × V)} {f c : Addr} {fd : FuncData} (Fn : FunD K x qual params body scope dvs kws f fd)
    (h : ∃ ocl odc fd' sl, K.lookup f = some ⟨ocl, odc, .func fd', sl⟩ ∧ fd'.code = .ref c) : fd.code = .ref c := by
  obtain ⟨ocl, odc, fd', sl, h1, h2⟩ := h
  obtain ⟨oc, od, dV, kV, doc, pm, an, cdv, ct, osl, _, lk, _, _, _⟩ := Fn.ex
  rw [lk] at h1
  cases h1
  exact h2
theorem SaysL.fx_ {fa : List He.Fa} {fc : List Fc} {fx : List Fx} {fn : List Df} {lm : List At} {h : Heap} {K : PySem.W.Frag} (c : SaysL fa fc fx fn lm h K) (i : Nat) {f : Fx} (q : fx[i]? = some f := by rfl) : f.ok K = true := c.fx f (List.mem_of_getElem? q)
end DL

namespace DL
open PySem PySem.Spec PyProof.Rows L2 PySem.DLX L2H LamX
/-! ### the head, with tables -/
/-- what is told of the heap at first: the tables of the defs with lambdas, the script -/
def told0 (T : List Addr) (a : Addr) (u : Option HO) : Hp := fun b => if b ∈ T then some (.tbl #[]) else if b = a then u else none
section
variable {T : List Addr} {a b : Addr} {u : Option HO}
theorem told0_tab (h : b ∈ T) : told0 T a u b = some (.tbl #[]) := if_pos h
theorem told0_a (h : a ∉ T) : told0 T a u a = u := (if_neg h).trans (if_pos rfl)
theorem told0_off (h1 : b ∉ T) (h2 : b ≠ a) : told0 T a u b = none := (if_neg h1).trans (if_neg h2)
end
abbrev noneYet : Obj := { cls := .none, data := .fields #[] }
section
variable {P : Program} {w : World} {K : PySem.W.Frag} {mg : Str → Option Value} {a : Addr} {cs : List (Addr × Addr)} {s₁ : Shared} {vs : List Value} {ns : List Int}
def scriptU (K : PySem.W.Frag) (a : Addr) (vs : List Value) (ns : List Int) : Option HO := match K.lookup a with
  | some _ => none
  | none => some (.frz { cls := .type "list", data := .seq vs.toArray } (.lst (ns.map V.int)))
/-- the heap as it is told at first -/
abbrev headH (K : PySem.W.Frag) (cs : List (Addr × Addr)) (a : Addr) (vs : List Value) (ns : List Int) : Hp := told0 (cs.map (·.2)) a (scriptU K a vs ns)
theorem tabs_at (hT : ∀ p ∈ cs, s₁.heap.get? p.2 = some noneYet) : ∀ b ∈ cs.map (·.2), s₁.heap.get? b = some noneYet := fun b hb => by
  obtain ⟨p, hp, rfl⟩ := List.mem_map.mp hb
  exact hT p hp
theorem script_off (hT : ∀ p ∈ cs, s₁.heap.get? p.2 = some noneYet) (obj : s₁.heap.get? a = some { cls := .type "list", data := .seq vs.toArray }) : a ∉ cs.map (·.2) := fun z => by
  have := obj.symm.trans (tabs_at hT a z)
  simp at this
theorem head_a (h : a ∉ cs.map (·.2)) : headH K cs a vs ns a = scriptU K a vs ns := told0_a h
theorem head_ok (hT : ∀ p ∈ cs, s₁.heap.get? p.2 = some noneYet) (obj : s₁.heap.get? a = some { cls := .type "list", data := .seq vs.toArray }) (whole : IntsAre vs ns) (hl : ns.length ≤ sizeLine) : HOk P w (headH K cs a vs ns) s₁.heap := by
  intro b v z
  by_cases h1 : b ∈ cs.map (·.2)
  · cases (told0_tab h1).symm.trans z
    exact tabs_at hT b h1
  by_cases h2 : b = a
  · subst h2
    rw [head_a h1] at z
    unfold scriptU at z
    split at z
    · cases z
    · cases z
      refine ⟨obj, ?_, vs, _, vals_ints whole, obj⟩
      rw [List.length_map]
      exact hl
  · cases (told0_off h1 h2).symm.trans z
theorem head_script (KX : K.In s₁.heap) (hT : ∀ p ∈ cs, s₁.heap.get? p.2 = some noneYet) (obj : s₁.heap.get? a = some { cls := .type "list", data := .seq vs.toArray }) (whole : IntsAre vs ns) (hl : ns.length ≤ sizeLine) : SqL K (headH K cs a vs ns) a (ns.map V.int) := by
  have at_a := head_a (K := K) (vs := vs) (ns := ns) (script_off hT obj)
  unfold scriptU at at_a
  cases q : K.lookup a with
  | none =>
    rw [q] at at_a
    exact .inl (.inr ⟨_, at_a⟩)
  | some o =>
    cases (KX a o q).symm.trans obj
    refine .inr ⟨_, vs.toArray, _, q, rfl, rfl, rfl, ?_, by simpa using vals_ints whole⟩
    rw [List.size_toArray, whole.length]
    exact hl
/-- neither script nor table: it stays as it is -/
theorem head_still (hT : ∀ p ∈ cs, s₁.heap.get? p.2 = some noneYet) (obj : s₁.heap.get? a = some { cls := .type "list", data := .seq vs.toArray }) {b : Addr} {o : Obj} (hb : s₁.heap.get? b = some o) (h1 : ∀ xs, o.data ≠ .seq xs) (h2 : o.data ≠ .fields #[]) :
    (hidT s₁.heap (headH K cs a vs ns)).get? b = some o := by
  refine hidT_get hb (told0_off (fun z => h2 ?_) fun z => h1 vs.toArray ?_)
  · cases hb.symm.trans (tabs_at hT b z)
    rfl
  · subst z
    cases hb.symm.trans obj
    rfl
theorem head_frag (KX : K.In s₁.heap) (nT : ∀ p ∈ cs, K.lookup p.2 = none) : K.In (hidT s₁.heap (headH K cs a vs ns)) := fun b o z => by
  have h1 : b ∉ cs.map (·.2) := fun hb => by
    obtain ⟨p, hp, rfl⟩ := List.mem_map.mp hb
    cases (nT p hp).symm.trans z
  refine hidT_get (KX b o z) ?_
  by_cases h2 : b = a
  · subst h2
    rw [head_a h1]
    unfold scriptU
    rw [z]
  · exact told0_off h1 h2
theorem head_tab (hT : ∀ p ∈ cs, s₁.heap.get? p.2 = some noneYet) (obj : s₁.heap.get? a = some { cls := .type "list", data := .seq vs.toArray }) (hns : s₁.heap.Ns mainGlobals mg) {p : Addr × Addr} (hp : p ∈ cs) (cd : PySem.W.CodeHd s₁.heap p.1 p.2)
    (main : ∃ (m : Addr) (o : Obj), mg "__builtins__" = some (.ref m) ∧ m ≠ builtinsNs ∧ s₁.heap.get? m = some o ∧ o.cls = .type "module" ∧ o.dict = some builtinsNs ∧ o.data = .plain) : TabB (hidT s₁.heap (headH K cs a vs ns)) mg p.1 p.2 := by
  have here := hT p hp
  obtain ⟨om, es, ep, at_m, isD, _⟩ := hns
  constructor
  · obtain ⟨o, us, file, tf, flags, tg, inF, text, tt, at_c, q1, q2, q3, rest⟩ := cd
    refine ⟨o, us, file, tf, flags, tg, inF, text, tt, head_still hT obj at_c (fun xs z => ?_) (fun z => ?_), q1, q2, q3, rest⟩
    · cases q2.symm.trans z
    · cases q2.symm.trans z
      simp at q3
  · obtain ⟨m, o, b1, b2, at_b, b4, b5, plain⟩ := main
    refine ⟨m, o, b1, b2, fun z => ?_, fun z => ?_, head_still hT obj at_b (fun xs z => ?_) (fun z => ?_), b4, b5, plain⟩
    · subst z
      cases at_m.symm.trans at_b
      cases isD.symm.trans plain
    · subst z
      cases here.symm.trans at_b
      cases plain
    · cases plain.symm.trans z
    · cases plain.symm.trans z
  · intro z
    rw [z] at at_m
    cases here.symm.trans at_m
    cases isD
/-- the law's def is called: it tells true, and all stays but the tables, which may grow -/
theorem law_runT {mb : Str → Option Value} {k : Nat} {fa : Addr} {fd : FuncData} {x : Str} {sp : Sp} (KX : K.In s₁.heap) (hns : s₁.heap.Ns mainGlobals mg) (hbu : s₁.heap.Ns builtinsNs mb) (hbb : ∀ x : Str, x ≠ "__name__" → mb x = bootBuiltins x)
    (hlim : s₁.heap.NoLimit) (hgen : s₁.gens = #[]) (hT : ∀ p ∈ cs, s₁.heap.get? p.2 = some noneYet) (nT : ∀ p ∈ cs, K.lookup p.2 = none) (hcd : ∀ p ∈ cs, PySem.W.CodeHd s₁.heap p.1 p.2)
    (main : ∃ (m : Addr) (o : Obj), mg "__builtins__" = some (.ref m) ∧ m ≠ builtinsNs ∧ s₁.heap.get? m = some o ∧ o.cls = .type "module" ∧ o.dict = some builtinsNs ∧ o.data = .plain)
    (obj : s₁.heap.get? a = some { cls := .type "list", data := .seq vs.toArray }) (whole : IntsAre vs ns) (hl : ns.length ≤ sizeLine) (hr : Room k callerA)
    (Fn : ∀ base : Heap, K.In base → base.Ns mainGlobals mg → (∀ p ∈ cs, TabB base mg p.1 p.2) → FnG P w K mg base k fa fd [x] sp) (hbind : ∀ (s : Shared) (u : Value), BindsTo s fd ⟨[u], []⟩ [(x, u)])
    (promise : ∀ H : Hp, (∀ p ∈ cs, H p.2 = some (.tbl #[])) → SqL K H a (ns.map V.int) → sp [.ref a] H (fun v _ => v = .bl true) fun _ _ _ => False) :
    codeAny (model P w) callerA (.call (.ref fa) ⟨[.ref a], []⟩) (fun r s' => r = .ok (.ret (.bool true)) ∧ (OldK s₁.heap s'.heap ∧ s'.os = s₁.os ∧ AllBare s'.gens)) s₁ := by
  have inT : ∀ p ∈ cs, p.2 ∈ cs.map (·.2) := fun p hp => List.mem_map_of_mem hp
  have names : ∀ {b : Addr} {m : Str → Option Value}, s₁.heap.Ns b m → (hidT s₁.heap (headH K cs a vs ns)).Ns b m := fun ⟨o, es, ep, z, d, r⟩ => ⟨o, es, ep, head_still hT obj z (by simp [d]) (by simp [d]), d, r⟩
  have frag := head_frag (a := a) (vs := vs) (ns := ns) KX nT
  have hok : HOk P w (headH K cs a vs ns) s₁.heap := head_ok hT obj whole hl
  have env : Env0 P w K mg (hidT s₁.heap (headH K cs a vs ns)) callerA [] s₁ (headH K cs a vs ns) := by
    refine ⟨rfl, ⟨frag, names hns, ⟨mb, names hbu, hbb⟩, ?_⟩, fun _ _ z => of_hidT z, Nat.le_of_eq (hidT_size _ _), trivial, fun b hb => ?_, hok, .of_eq hgen⟩
    · exact hlim.imp fun _ z => ⟨names z.1, z.2⟩
    · cases (show b ∈ ([] : List Addr) from hb)
  have run := (Fn _ frag (names hns) fun p hp => head_tab hT obj hns hp (hcd p hp) main).run callerA [] s₁ _ ⟨[.ref a], []⟩ [.ref a] [.ref a] _ _ hr rfl env (hbind s₁ (.ref a)) (.cons rfl .nil) (promise _ (fun p hp => told0_tab (inT p hp)) (head_script KX hT obj whole hl))
  refine codeAny_mono run fun r s' out => ?_
  match r, out with
  | .error _, ⟨_, _, _, _, _, _, _, _, _, _, _, _, no⟩ => exact no.elim
  | .ok .next, no => exact no.elim
  | .ok .brk, no => exact no.elim
  | .ok .cont, no => exact no.elim
  | .ok (.ret u), ⟨v, H', os, bare, un, hok', rv, (ev : v = .bl true)⟩ =>
    subst ev
    cases (show u = Value.bool true from rv)
    have kept : ∀ {b : Addr} {o : Obj}, b ∉ cs.map (·.2) → s₁.heap.get? b = some o → s'.heap.get? b = some o := fun {b o} off z => by
      cases q : headH K cs a vs ns b with
      | none => exact un.keep b o z q (fun y => by cases (show b ∈ ([] : List Addr) from y)) fun y => by cases y
      | some v =>
        have eb : b = a := Classical.byContradiction fun ne => by cases (told0_off off ne).symm.trans q
        subst eb
        have q2 := q
        rw [head_a off] at q
        unfold scriptU at q
        split at q
        · cases q
        · cases q
          have e1 := (hok b _ q2).1
          have e2 := (hok' b _ (un.frzs b _ _ q2)).1
          rw [z] at e1
          rw [e2, e1]
    have longer : ∀ p ∈ cs, ∃ more : Array Value, s'.heap.get? p.2 = some { cls := .none, data := .fields more } := fun p hp => by
      obtain ⟨more, z⟩ := un.tbls p.2 #[] (told0_tab (inT p hp))
      exact ⟨#[] ++ more, hok' p.2 _ z⟩
    refine ⟨rfl, ⟨fun b o z => ?_, fun b o z => ?_⟩, os, bare⟩ <;> by_cases hb : b ∈ cs.map (·.2)
    · obtain ⟨⟨c, t⟩, hp, rfl⟩ := List.mem_map.mp hb
      obtain ⟨more, y⟩ := longer _ hp
      cases (hT _ hp).symm.trans z
      exact .inr (.inl ⟨((hcd _ hp).tab (hT _ hp)).isCodeTable, rfl, #[], more, rfl, by rw [Array.empty_append, y]⟩)
    · exact .inl (kept hb z)
    · obtain ⟨⟨c, t⟩, hp, rfl⟩ := List.mem_map.mp hb
      exact (longer _ hp).elim fun more y => ⟨_, y⟩
    · exact ⟨o, kept hb z⟩
end
/-- the law's promise at its one call -/
theorem spT_law {K : PySem.W.Frag} {cl : Str → Addr} {Φ : Fn} {ts : List Addr} {qs : List Str} {ns : List Int} {H : Hp} {a : Addr} {j : List D} (hl : ts.length = qs.length) (nd : ts.Nodup) (hT : ∀ P ∈ ts, H P = some (.tbl #[])) (hS : SqL K H a (ns.map V.int))
    (holds : Φ [.dat (.scr ns)] (qs.map D.tab) = .ok (.bl true) j) : spT K cl 0 ts Φ [.ref a] H (fun v _ => v = .bl true) fun _ _ _ => False := by
  have gh : Same (fun b => if b ∈ ts then none else H b) H := fun b u z => by
    by_cases hb : b ∈ ts
    · have z : (if b ∈ ts then none else H b) = some u := z
      rw [if_pos hb] at z
      cases z
    · have z : (if b ∈ ts then none else H b) = some u := z
      rw [if_neg hb] at z
      exact z
  have at_ : ∀ {b : Addr} {u : HO}, H b = some u → (∀ ps, u ≠ .tbl ps) → (if b ∈ ts then none else H b) = some u := fun {b u} z n => by
    rw [if_neg (fun hb => n #[] (Option.some.inj (z.symm.trans (hT b hb))))]
    exact z
  refine ⟨[.dat (.scr ns)], qs.map D.tab, [], fun b => if b ∈ ts then none else H b, rfl, gh, .dat (.scr ?_) .nil, ⟨by simp [hl], nd, fun k b d h1 h2 => ?_⟩, ?_⟩
  · rcases hS with (h | ⟨o, h⟩) | h
    · exact .inl (.inl (at_ h fun _ z => nomatch z))
    · exact .inl (.inr ⟨o, at_ h fun _ z => nomatch z⟩)
    · exact .inr h
  · have hb : b ∈ ts := List.mem_of_getElem? h1
    rw [List.getElem?_map] at h2
    obtain ⟨q, _, rfl⟩ := Option.map_eq_some_iff.mp h2
    refine ⟨if_pos hb, #[], hT b hb, True.intro, fun pos cv hc => ?_⟩
    have no : codeAmong pos [] = some cv := hc
    simp [codeAmong] at no
  · rw [holds]
    intro v H' G' _ rv
    cases rv
    rfl
theorem walk_T {l : PySem.W.OpenLaw} {n k : Nat} {q : Program} {loose : List Str} {XP : (Str → Option Value) → Heap → Prop} {YP : World → Heap → Prop} {d : DefRec} {x : Str} {Φ : Fn} {qs : List Str} (hn : l.most = some n) (hn2 : n ≤ sizeLine) (hdf : d.params.defaults = []) (hr : Room k callerA)
    (Fn : ∀ (w : World) (mg : Str → Option Value) (fa : Addr) (h : Heap), YP w h → h.Ns mainGlobals mg → mg d.name = some (.ref fa) →
      ∃ (K : PySem.W.Frag) (fd : FuncData) (cl : Str → Addr) (cs : List (Addr × Addr)), K.In h ∧ (∀ p ∈ cs, h.get? p.2 = some { cls := .none, data := .fields #[] }) ∧ (∀ p ∈ cs, K.lookup p.2 = none) ∧ (∀ p ∈ cs, PySem.W.CodeHd h p.1 p.2) ∧ (cs.map (·.2)).Nodup ∧ cs.length = qs.length ∧
        (∀ (s : Shared) (u : Value), BindsTo s fd ⟨[u], []⟩ [(x, u)]) ∧
        ∀ base : Heap, K.In base → base.Ns mainGlobals mg → (∀ p ∈ cs, TabB base mg p.1 p.2) → FnG l.prog w K mg base k fa fd [x] (spT K cl 0 (cs.map (·.2)) Φ))
    (holds : ∀ ns : List Int, ns.length ≤ n → ∃ j, Φ [.dat (.scr ns)] (qs.map D.tab) = .ok (.bl true) j) : PySem.W.WalkO q loose XP YP l.row.toRowW d [] (fun f vs => PySem.call f vs) := by
  refine Att.attach_call hn hdf fun w s₀ s₁ mg mb fa o pm cd doc a vs ns G Y _ _ _ hmg hobj hints hlen hg => ?_
  obtain ⟨K, fd, cl, cs, KX, hT, nT, C, nd, hl, hb, hF⟩ := Fn w mg fa _ Y G.T.g hmg
  obtain ⟨j, hj⟩ := holds ns hlen
  exact law_runT KX G.T.g G.T.b G.T.builtins G.T.nolimit hg hT nT C G.T.bmain hobj hints (Nat.le_trans hlen hn2) hr hF hb fun H hH hS => spT_law (by rw [List.length_map]; exact hl) nd (fun P hP => by
    obtain ⟨p, hp, e⟩ := List.mem_map.mp hP
    rw [← e]
    exact hH p hp) hS hj
theorem SaysL.tabs {fa : List He.Fa} {fc : List Fc} {fx : List Fx} {fn : List Df} {lm : List At} {h : Heap} {K : PySem.W.Frag} (c : SaysL fa fc fx fn lm h K) (KX : K.In h) :
    (∀ p ∈ lm.map (fun a => (codeAd K (a.ad K), tabAd K (codeAd K (a.ad K)))), h.get? p.2 = some { cls := .none, data := .fields #[] }) ∧ (∀ p ∈ lm.map (fun a => (codeAd K (a.ad K), tabAd K (codeAd K (a.ad K)))), K.lookup p.2 = none) ∧
    (∀ p ∈ lm.map (fun a => (codeAd K (a.ad K), tabAd K (codeAd K (a.ad K)))), PySem.W.CodeHd h p.1 p.2) ∧ ((lm.map (fun a => (codeAd K (a.ad K), tabAd K (codeAd K (a.ad K))))).map (·.2)).Nodup := by
  refine ⟨fun p hp => ?_, fun p hp => ?_, fun p hp => ?_, ?_⟩
  · obtain ⟨a, ha, rfl⟩ := List.mem_map.mp hp
    exact (c.tab a ha).2.2.1
  · obtain ⟨a, ha, rfl⟩ := List.mem_map.mp hp
    exact (c.tab a ha).2.2.2
  · obtain ⟨a, ha, rfl⟩ := List.mem_map.mp hp
    exact PySem.W.codeHd_of_K KX (c.tab a ha).2.1
  · rw [List.map_map]
    exact c.nd
end DL

namespace DL
open PySem PySem.Spec PyProof.Rows L2 PySem.DLX L2H LamX
/-! ### small things for texts with errors -/
theorem takesN0 {X : Cx} : L2N.Takes X (fun _ _ _ _ => False) := takes00
theorem room64h {k : Nat} {A : Around} (r : RoomH k A) : A.units + 64 < cLine := by have := r.un; omega
theorem room65h {k : Nat} {A : Around} (r : RoomH k A) : A.units + 65 < cLine := by have := r.un; omega
theorem room1h {k : Nat} {A : Around} (r : RoomH k A) : A.units + 1 < cLine := by have := r.un; omega
theorem js_at {F : Fra} {js0 ts : List Addr} {nj i : Nat} {P : Addr} (hF : F.js = js0 ++ ts) (hn : js0.length = nj) (h : ts[i]? = some P) : F.js[nj + i]? = some P := by
  rw [hF, List.getElem?_append_right (by omega), hn, Nat.add_sub_cancel_left]
  exact h
/-- the name of a lambda's code object -/
abbrev lamQ (n : Str) : Str := n ++ ".<locals>." ++ "<lambda>"
/-- above which classes an error's class stands -/
def errsV : List Str := ["InvalidText", "InvalidTie", "InvalidTime", "InvalidNumber", "InvalidIndex", "InvalidWish", "InvalidCommand", "NotAWeb", "NotAClock", "SamePlace", "OtherWeb", "InvalidBounds", "InvalidBuckle", "InvalidPlaces", "InvalidTies", "InvalidTimes", "InvalidRow", "InvalidSeen"]
def hitE (c C : Str) : Bool := decide (c = C) || ((decide (C = "WrongValue") || decide (C = "ValueError")) && decide (c ∈ errsV)) || ((decide (C = "WrongName") || decide (C = "LookupError")) && decide (c = "UnknownPlace")) ||
  ((decide (C = "NotPossible") || decide (C = "ArithmeticError")) && decide (c ∈ (["NothingToUndo", "TooMany", "Broken"] : List Str)))
/-- a new list or dict as data -/
def cOfF (f : M D) : M R := fun e => (f e).bnd fun d e1 => .ok (.val d) e1
section
variable {X : Cx} {cl : Str → Addr} {F : Fra} {W : WX} {x : Expr} {f : M D}
theorem re_ofF (h : RF X cl F W x f) : RE X cl F W x (cOfF f) := by
  refine ⟨PE.imp h.pe fun σ H Q ⟨e, G, st, q⟩ => ⟨e, G, st, ?_⟩⟩
  unfold cOfF at q
  cases o : f e with
  | bad => rw [o] at q; exact q
  | exn y e1 => rw [o] at q; exact q
  | ok d e1 =>
    rw [o] at q
    intro a H1 G1 s1 k1 ow ga h0 l n
    obtain ⟨u, hu, hrep⟩ := ow.rep ga
    have s2 := s1.addG hu ga h0 l
    refine q (.ref a) H1 _ s2 ⟨fun b w z => by rw [upd_ne (fun e => by rw [e] at z; have := k1.gg _ _ z; rw [ga] at this; cases this)]; exact k1.gg _ _ z, fun b w z lb => ⟨(k1.kp b w z lb).1, fun g => by rw [upd_ne (n b w z lb)]; exact (k1.kp b w z lb).2 g⟩, k1.ow⟩ hrep
end
end DL

namespace DL
open PySem L2 PySem.Spec PyProof.Rows
/-! ### flags.count(b), flags.index(b): lists of bools -/
def boolsOf : List D → Option (List Bool)
  | [] => some []
  | .bl b :: l => (boolsOf l).map (b :: ·)
  | _ :: _ => none
theorem boolsOf_vals {K : PySem.W.Frag} {cl : Str → Addr} {G : Hp} : ∀ {l : List D} {vs : List V} {ys : List Bool}, RepL K cl G l vs → boolsOf l = some ys → vs = ys.map V.bl
  | [], _, ys, .nil, e => by cases e; rfl
  | d :: l, _, ys, .cons r t, e => by
    cases d with
    | bl s =>
      obtain ⟨ys', e1, rfl⟩ := Option.map_eq_some_iff.mp e
      cases r
      rw [boolsOf_vals t e1]
      rfl
    | _ => cases e
def cntBD (bs : List Bool) (b : Bool) : Option D := some (.int (bs.count b : Nat))
def idxBD (bs : List Bool) (b : Bool) : Option D := if b ∈ bs then some (.int (bs.idxOf b : Nat)) else none
def cBMv (g : List Bool → Bool → Option D) (r ra : R) (e : Env) : Out R := match ra, e.rd r with
  | .val (.bl b), some (.lst l) => opt ((boolsOf l).bind fun bs => g bs b) e
  | _, _ => .bad
def isLstO : Option D → Bool
  | some (.lst _) => true
  | _ => false
def cBM (g : List Bool → Bool → Option D) (fo fe : M R) : M R := fun e => (fo e).bnd fun r e1 => if isLstO (e1.rd r) then (fe e1).bnd fun ra e2 => cBMv g r ra e2 else .bad
def rCntB (K : PySem.W.Frag) : V → List V → Hp → VK → Prop := fun x xs H Q => ∃ (p : Addr) (bs : List Bool) (b : Bool), x = .ref p ∧ xs = [.bl b] ∧ SqL K H p (bs.map V.bl) ∧ Q (.int (bs.count b : Nat)) H
def rIdxB (K : PySem.W.Frag) : V → List V → Hp → VK → Prop := fun x xs H Q => ∃ (p : Addr) (bs : List Bool) (b : Bool), x = .ref p ∧ xs = [.bl b] ∧ SqL K H p (bs.map V.bl) ∧ b ∈ bs ∧ Q (.int (bs.idxOf b : Nat)) H
theorem cnt_py (b : Bool) : ∀ bs : List Bool, ((bs.map PyData.bool).countP fun y => PyData.eqv y (.bool b)) = bs.count b
  | [] => rfl
  | a :: bs => by
    rw [List.map_cons, List.countP_cons, List.count_cons, cnt_py b bs]
    cases a <;> cases b <;> simp [PyData.eqv]
theorem dp_bls {K : PySem.W.Frag} {H : Hp} : ∀ bs : List Bool, DpAll K H (bs.map V.bl) (bs.map PyData.bool)
  | [] => .nil
  | b :: bs => .cons (.bl b) (dp_bls bs)
theorem plain_bls : ∀ bs : List Bool, PyData.plainAll (bs.map PyData.bool) = true
  | [] => by simp [PyData.plainAll]
  | b :: bs => by simp [PyData.plainAll, PyData.plain, plain_bls bs]
theorem depth_bls : ∀ bs : List Bool, PyData.depthAll (bs.map PyData.bool) = 0
  | [] =>
                                                                                                              by simp [PyData.depthAll]
  | b :: bs => by simp [PyData.depthAll, PyData.depth, depth_bls bs]
section
variable {X : Cx}
theorem mt_cntB (hu : X.A.units + 65 < cLine) : MtR X "list.count" (rCntB X.K) := by
  intro pins s σ H x xs v us Q I rx rxs ⟨p, bs, b, hyp⟩
  obtain ⟨rfl, rfl, hs, q⟩ := hyp
  cases rx
  obtain ⟨u, rfl,
                                                                                                              ru⟩ := rxs.one
  obtain ⟨its, rv, hl, hlen⟩ := I.list hs
  obtain ⟨as, rs⟩ := Dp.readsAll I _ _ its (dp_bls bs) rv
  obtain ⟨cs, rb⟩ := Dp.reads I (.bool b) _ u (.bl b) ru
  refine PySem.SeqAt.count_list_data hl.isList rs rb (plain_bls bs) (by simp [PyData.plain]) (by rw [depth_bls]; simp; omega) ?_
  rw [cnt_py]
  exact ⟨.int (bs.count b : Nat), H, I.tok _, ⟨_, rfl⟩, q⟩
theorem mt_idxB : MtR X "list.index" (rIdxB X.K) := by
  intro pins s σ H x xs v us Q I rx rxs ⟨p, bs, b, hyp⟩
  obtain ⟨rfl, rfl, hs, hb, q⟩ := hyp
  have hlt : bs.idxOf b < bs.length := List.idxOf_lt_length_of_mem hb
  refine mt_index pins s σ H _ _ v us Q I rx rxs ⟨p, bs.map V.bl, .bl b, bs.idxOf b, .bl b, rfl, rfl, hs, rfl, ?_, ?_, by simp [eqV], fun m z' hm hz => ?_, q⟩
  · rw [List.all_map]
    exact List.all_eq_true.mpr (fun _ _ => rfl)
  · rw [List.getElem?_map, List.getElem?_eq_getElem hlt, List.getElem_idxOf]
    rfl
  · rw [List.getElem?_map] at hz
    obtain ⟨a, ha, rfl⟩ := Option.map_eq_some_iff.mp hz
    have hne : a ≠ b := by
      rintro rfl
      obtain ⟨h1, h2⟩ := List.getElem?_eq_some_iff.mp ha
      have := List.not_of_lt_findIdx (p := (· == a)) (xs := bs) (i := m) hm
      rw [h2] at this
      simp at this
    cases a <;> cases b <;> simp_all [eqV]
variable {cl : Str → Addr} {F : Fra} {W : WX} {o a : Expr} {fo fe : M R} {apos cpos : Pos} {nm id : String} {g : List Bool → Bool → Option D} {r : V → List V → Hp → VK → Prop}
theorem re_bm {nm : Str} {id : String} (slot : Slot "list" nm id) (hty : typeOf (.builtin id) = pure (.type "method_descriptor")) (hm : MtR X id r) (hr : ∀ p bs b H Q d, SqL X.K H p (bs.map V.bl) → g bs b = some d → (∀ i, d = .int i → Q (.int i) H) → r (.ref p) [.bl b] H Q) (hi : ∀ bs b d, g bs b = some d → ∃ i, d = .int i)
    (ho : RE X cl F W o fo) (he : RE X cl F W a fe)
    (hbase : attributeBase o nm X.env (eval o X.env) = eval o X.env := by rfl)
    (hfew : ((backTo cpos (starEach [a] X.env)).all (fun x => !x.1) && (backToKw cpos (keywordEach [] X.env)).all (fun x => x.1.isSome)
      && decide ([a].length + ([] : List Keyword).length + (if ([] : List Keyword).isEmpty then 0 else 1) < 30)) = true := by rfl)
    (hline : (apos.endLine == cpos.line) = true := by rfl) (hs : starEach [a] X.env = (false, eval a X.env) :: starEach [] X.env := by rfl) (hplain : (backTo cpos (starEach [] X.env)).any (·.1) = false := by rfl) :
    RE X cl F W (.Call (.Attribute o nm apos) [a] [] cpos) (cBM g fo fe) := by
  refine ⟨PE.imp (pe_bm PySem.F.plainAttrs_list slot hty hm ho.pe (pa_cons he.pe pa_nil hs) hbase hfew hline hs hplain) fun σ H Q ⟨e, G, st, q⟩ => tD_then st q fun r0 e1 v H1 G1 s1 k1 r1 z => ?_⟩
  by_cases hd : isLstO (e1.rd r0) = true
  · rw [if_pos hd] at z
    cases h0 : e1.rd r0 with
    | none => rw [h0] at hd; cases hd
    | some d0 =>
      rw [h0] at hd
      cases d0 with
      | lst l0 =>
        obtain ⟨a0, vs0, rfl, ha0, _⟩ := (s1.top r1 h0).lst s1.ret.gh
        refine ⟨.inl ⟨rfl, vs0, SqL.of ha0⟩, tD_then s1 z fun ra e2 y H2 G2 s2 k2 r2 z => ?_⟩
        unfold cBMv at z
        split at z
        · rename_i b l h4
          cases r2
          obtain ⟨dz, z1, z⟩ := post_opt z
          obtain ⟨bs, h5, h6⟩ := Option.bind_eq_some_iff.mp z1
          obtain ⟨a4, vs, e4', ha4, rr⟩ := (s2.top (r1.mono k2.gg) h4).lst s2.ret.gh
          cases e4'
          rw [boolsOf_vals rr h5] at ha4
          refine hr a0 bs b H2 Q dz (SqL.of ha4) h6 fun i hi => ?_
          subst hi
          exact z _ _ _ s2 (k1.trans k2) .int
        · exact z.elim
      | _ => cases hd
  · rw [if_neg hd] at z; exact z.elim
theorem re_cntB (hu : X.A.units + 65 < cLine) (ho : RE X cl F W o fo) (he : RE X cl F W a fe)
    (hbase : attributeBase o "count" X.env (eval o X.env) = eval o X.env := by rfl)
    (hfew : ((backTo cpos (starEach [a] X.env)).all (fun x => !x.1) && (backToKw cpos (keywordEach [] X.env)).all (fun x => x.1.isSome)
      && decide ([a].length + ([] : List Keyword).length + (if ([] : List Keyword).isEmpty then 0 else 1) < 30)) = true := by rfl)
    (hline : (apos.endLine == cpos.line) = true := by rfl) (hs : starEach [a] X.env = (false, eval a X.env) :: starEach [] X.env := by rfl) (hplain : (backTo cpos (starEach [] X.env)).any (·.1) = false := by rfl) :
    RE X cl F W (.Call (.Attribute o "count" apos) [a] [] cpos) (cBM cntBD fo fe) :=
  re_bm PySem.F.slot_list_count PySem.F.type_list_count (mt_cntB hu) (fun p bs b H Q d h1 h2 h3 => by cases h2; exact ⟨p, bs, b, rfl, rfl, h1, h3 _ rfl⟩) (fun bs b d h => by cases h; exact ⟨_, rfl⟩) ho he hbase hfew hline hs hplain
theorem re_idxB (ho : RE X cl F W o fo) (he : RE X cl F W a fe)
    (hbase : attributeBase o "index" X.env (eval o X.env) = eval o X.env := by rfl)
    (hfew : ((backTo cpos (starEach [a] X.env)).all (fun x => !x.1) && (backToKw cpos (keywordEach [] X.env)).all (fun x => x.1.isSome)
      && decide ([a].length + ([] : List Keyword).length + (if ([] : List Keyword).isEmpty then 0 else 1) < 30)) = true := by rfl)
    (hline : (apos.endLine == cpos.line) = true := by rfl) (hs : starEach [a] X.env = (false, eval a X.env) :: starEach [] X.env := by rfl) (hplain : (backTo cpos (starEach [] X.env)).any (·.1) = false := by rfl) :
    RE X cl F W (.Call (.Attribute o "index" apos) [a] [] cpos) (cBM idxBD fo fe) :=
  re_bm PySem.F.slot_list_index PySem.F.type_list_index mt_idxB (fun p bs b H Q d h1 h2 h3 => by
    unfold idxBD at h2
    split at h2
    · rename_i hb
      cases h2
      exact ⟨p, bs, b, rfl, rfl, h1, hb, h3 _ rfl⟩
    · cases h2) (fun bs b d h => by
    unfold idxBD at h
    split at h
    · cases h; exact ⟨_, rfl⟩
    · cases h) ho he hbase hfew hline hs hplain
end
end DL

namespace DL
open PySem L2 PySem.Spec PyProof.Rows
/-! ### C(k = v, ..) -/
theorem prm_self {α : Type} (x : α) (l : List α) : ∀ p : List Nat, prm (0 :: p.map (· + 1)) (x :: l) = x :: prm p l := by
  intro p
  have h : ∀ p : List Nat, prm (p.map (· + 1)) (x :: l) = prm p l := by
    intro p
    unfold prm
    rw [List.filterMap_map]
    rfl
  show (0 :: p.map (· + 1)).filterMap ((x :: l)[·]?) = _
  rw [List.filterMap_cons]
  exact congrArg (x :: ·) (h p)
def makeK (c : Str) (Φ : Fn) (n : Nat) (p : List Nat) (o : Option (List D × Env)) : Out R := match o with
  | some (ds, e) => if ds.length = n then makeO c e (Φ (.jar 0 :: (prm p ds).map A.dat) [.obj c [] []]) else .bad
  | none => .bad
def cMakeK (c : Str) (Φ : Fn) (n : Nat) (p : List Nat) (gs : M (List R)) : M R := fun e => (gs e).bnd fun rs e1 => makeK c Φ n p (e1.frzs rs)
section
variable {X : Cx} {cl : Str → Addr} {F : Fra} {W : WX} {k : Nat} {f : Addr} {fd : FuncData} {ps ks : List Str} {Φ : Fn} {c : Str} {kws : List Keyword} {gs : M (List R)} {pos q : Pos} {p : List Nat}
theorem re_makeK0 (Mm : Mk X.K (cl c) f) (Fn : FnOk X.prog X.w X.K X.mg X.base (L2N.CX X.prog X.w) k f fd ps (spD X.K cl Φ)) (hr : Room (k + 1) X.A) (tk : L2N.Takes X W) (hW : SI W) (hg : Gl X c) (hm : X.mg c = some (.ref (cl c))) (hb : KBp X.K fd ps 1 ks (0 :: p.map (· + 1)))
    (hkw : RK X cl F W kws gs)
    (hall : (backToKw pos (keywordEach kws X.env)).all (·.1.isSome) = true := by rfl) (hks : (backToKw pos (keywordEach kws X.env)).filterMap (·.1) = ks := by rfl) (hdb : (c == ("__debug__" : Str)) = false := by decide)
    (hpl : ((backTo pos (starEach [] X.env)).any (·.1) || (backToKw pos (keywordEach kws X.env)).any (·.1.isNone)) = false :=
                                                                                                              by rfl) :
    RE X cl F W (.Call (.Name c q) [] kws pos) (cMakeK c Φ ks.length p gs) := by
  refine ⟨PE.imp (pe_makeK0 (E := fun c d H => ∃ σ, W c d σ H) Mm Fn hr hg hm hb (L2N.passes_call tk fun c d σ H ⟨σ', z⟩ => hW c d σ' σ H z) hkw.pk hall hks hdb hpl) fun σ H Q ⟨e, G, st, z⟩ => ?_⟩
  refine tA_then st z fun rs e1 vs H1 G1 s1 k1 r1 z => ?_
  cases y : e1.frzs rs with
  | none => rw [y] at z; exact z.elim
  | some pr =>
    obtain ⟨ds, e2⟩ := pr
    rw [y] at z
    obtain ⟨G2, s2, k2, r2⟩ := frzs_ok s1 r1 y
    have z : Post X.K cl F W σ (if ds.length = ks.length then makeO c e2 (Φ (.jar 0 :: (prm p ds).map A.dat) [.obj c [] []]) else .bad) _ := z
    by_cases hl : ds.length = ks.length
    · rw [if_pos hl] at z
      refine ⟨rfl, r2.length.symm.trans hl, fun x dx hx hdx ne => ?_⟩
      have h := make_D (Q := Q) (E := fun c d H => ∃ σ, W c d σ H) s2 (repL_prm r2 p) z (fun d v H' G' s5 k5 rv hq => hq v H' G' s5 ((k1.trans k2).trans k5) rv) (fun c d H' z => ⟨σ, z⟩) x dx hx hdx ne
      have e3 : prm (0 :: p.map (· + 1)) ([V.ref x] ++ vs) = V.ref x :: prm p vs := prm_self (V.ref x) vs p
      rw [← e3] at h
      exact h
    · rw [if_neg hl] at z; exact z.elim
end
end DL

namespace K03
open PySem L2 DL PySem.Spec PyProof.Rows

abbrev pw : Program := PySem.Challenge.pw_hurryways_k03_whole_webs_refused
def top (i : Nat) : Stmt := pw.main.body.getD i (.Pass ⟨0, 0, 0, 0⟩)
theorem bt_ArithmeticError : bootBuiltins ("ArithmeticError" : Str) = some (.type "ArithmeticError") := by kernel_rfl
theorem bt_LookupError : bootBuiltins ("LookupError" : Str) = some (.type "LookupError") := by kernel_rfl
theorem bt_ValueError : bootBuiltins ("ValueError" : Str) = some (.type "ValueError") := by kernel_rfl
theorem bt_abs : bootBuiltins ("abs" : Str) = some (.builtin "abs") := by kernel_rfl
theorem bt_all : bootBuiltins ("all" : Str) = some (.builtin "all") := by kernel_rfl
theorem bt_int : bootBuiltins ("int" : Str) = some (.type "int") := by kernel_rfl
theorem bt_len : bootBuiltins ("len" : Str) = some (.builtin "len") := by kernel_rfl
theorem bt_list : bootBuiltins ("list" : Str) = some (.type "list") := by kernel_rfl
theorem bt_max : bootBuiltins ("max" : Str) = some (.builtin "max") := by kernel_rfl
theorem bt_min : bootBuiltins ("min" : Str) = some (.builtin "min") := by kernel_rfl
theorem bt_repr : bootBuiltins ("repr" : Str) = some (.builtin "repr") := by kernel_rfl
theorem bt_str : bootBuiltins ("str" : Str) = some (.type "str") := by kernel_rfl
theorem bt_tuple : bootBuiltins ("tuple" : Str) = some (.type "tuple") := by kernel_rfl
abbrev CS : List Str := ["Web"]
abbrev EX : List Str := ["InvalidPlaces", "InvalidTies"]
abbrev S__law_bases : Stmt := top 28
theorem sc__law_bases : FnScope ["_law_e", "_law_found"] ["_law_e"] (defScope S__law_bases) := ⟨rfl, rfl, rfl, by decide +kernel, rfl, by decide +kernel, by decide +kernel⟩
def g__law_bases (y : Exc) : M Fl := (sSeq (sOwn 1 (fLst (cCons (cAndV (cIsX 0 (hitE y.c "WrongValue")) (cIsX 0 (hitE y.c "ValueError"))) cNil)))
  (sSeq (sExpr (cApp 1 (cAndV (cIsX 0 (hitE y.c "WrongName")) (cIsX 0 (hitE y.c "LookupError")))))
  (sRet (cOp addD (cVar 1) (cLst (cCons (cAndV (cIsX 0 (hitE y.c "NotPossible")) (cIsX 0 (hitE y.c "ArithmeticError"))) cNil))))))
def F__law_bases (y : Exc) : OutF := fnX 2 (g__law_bases y)
abbrev S__law_shown : Stmt := top 32
theorem sc__law_shown : FnScope ["_law_e", "_law_sorts"] ["_law_e"] (defScope S__law_shown) := ⟨rfl, rfl, rfl, by decide +kernel, rfl, by decide +kernel, by decide +kernel⟩
def g__law_shown (y : Exc) : M Fl := (sSeq (sAsg 1 (cLst (cCons (cIsX 0 (hitE y.c "InvalidPlaces")) (cCons (cIsX 0 (hitE y.c "InvalidTies")) cNil))))
  (sSeq (sIf (cOr (cTest (cOp neD (cBM cntBD (cVar 1) (cC (.bl true))) (cC (.int 1)))) (cTest (cOp neD (cCallX 0 (F__law_bases y)) (cLst (cCons (cC (.bl true)) (cCons (cC (.bl false)) (cCons (cC (.bl false)) cNil))))))) (sRet (cLst (cCons (cC (.str "odd")) (cCons (cC (.str "")) cNil)))) sNx)
  (sRet (cLst (cCons (cOp ixD (cLst (cCons (cC (.str "spots")) (cCons (cC (.str "links")) cNil))) (cBM idxBD (cVar 1) (cC (.bl true)))) (cCons (cCB repr2D (cCons (cXf 0 "index" y) cNil)) cNil))))))
def F__law_shown (y : Exc) : OutF := fnX 2 (g__law_shown y)
abbrev S__law_caught : Stmt := top 33
theorem sc__law_caught : FnScope ["_law_act", "_law_told", "_law_e"] ["_law_act"] (defScope S__law_caught) := ⟨rfl, rfl, rfl, by decide +kernel, rfl, by decide +kernel, by decide +kernel⟩
def g__law_caught (o : OutF) : M Fl := (sSeq (sTry 2 EX (sAsg 1 (cAct 0 o)) (fun y => (sRet (cCallX 2 (F__law_shown y)))))
  (sRet (cLst (cCons (cC (.str "told")) (cCons (cVar 1) cNil)))))
def F__law_caught (o : OutF) : OutF := fnL 3 g__law_caught o
abbrev S_InvalidPlaces___init__ : Stmt := (bodyOf (top 4)).getD 0 (.Pass ⟨0, 0, 0, 0⟩)
theorem sc_InvalidPlaces___init__ : FnScope ["self", "index"] ["self", "index"] (defScope S_InvalidPlaces___init__) := ⟨rfl, rfl, rfl, by decide +kernel, rfl, by decide +kernel, by decide +kernel⟩
abbrev S_is_name : Stmt := top 15
theorem sc_is_name : FnScope ["value", "sign"] ["value"] (defScope S_is_name) := ⟨rfl, rfl, rfl, by decide +kernel, rfl, by decide +kernel, by decide +kernel⟩
def g_is_name : M Fl := (sRet (cAndV (cIsT CS "str" (cVar 0)) (cAndV (cChain ltD leD (cC (.int 0)) (cCB lenD (cCons (cVar 0) cNil)) (cC (.int 8))) (cCB allD (cCons (cLc [1] (cIter (cVar 0)) (gN 1) tYs (cOp inD (cVar 1) (cC (.str "abcdefghijklmnopqrstuvwxyz")))) cNil)))))
def F_is_name : Fn := fnOf 2 1 g_is_name
abbrev S_check_places : Stmt := top 17
theorem sc_check_places : FnScope ["places", "index"] ["places"] (defScope S_check_places) := ⟨rfl, rfl, rfl, by decide +kernel, rfl, by decide +kernel, by decide +kernel⟩
def b1_check_places : M Fl := (sIf (cOr (cTest (cOp eqD (cVar 1) (cC (.int 9)))) (cOr (cNot (cTru (cCall F_is_name (cCons (cOp ixD (cVar 0) (cVar 1)) cNil)))) (cTest (cOp inD (cOp ixD (cVar 0) (cVar 1)) (cSl (cVar 0) cNoPart (cPart (cVar 1))))))) (sRaise "InvalidPlaces" "index" (cVar 1)) sNx)
def g_check_places : M Fl := (sSeq (sIf (cOr (cNot (cTru (cIsT CS "tuple" (cVar 0)))) (cTest (cOp ltD (cCB lenD (cCons (cVar 0) cNil)) (cC (.int 2))))) (sRaise "InvalidPlaces" "index" (cC .non)) sNx)
  (sFor (cRange1 (cCons (cCB lenD (cCons (cVar 0) cNil)) cNil)) (gN 1) b1_check_places))
def F_check_places : Fn := fnOf 2 1 g_check_places
abbrev S_InvalidTies___init__ : Stmt := (bodyOf (top 5)).getD 0 (.Pass ⟨0, 0, 0, 0⟩)
theorem sc_InvalidTies___init__ : FnScope ["self", "index"] ["self", "index"] (defScope S_InvalidTies___init__) := ⟨rfl, rfl, rfl, by decide +kernel, rfl, by decide +kernel, by decide +kernel⟩
abbrev S_is_pair : Stmt := top 16
theorem sc_is_pair : FnScope ["value"] ["value"] (defScope S_is_pair) := ⟨rfl, rfl, rfl, by decide +kernel, rfl, by decide +kernel, by decide +kernel⟩
def g_is_pair : M Fl := (sRet (cAndV (cIsT CS "tuple" (cVar 0)) (cOp eqD (cCB lenD (cCons (cVar 0) cNil)) (cC (.int 2)))))
def F_is_pair : Fn := fnOf 1 1 g_is_pair
abbrev S_is_tie : Stmt := top 18
theorem sc_is_tie : FnScope ["value", "places"] ["value", "places"] (defScope S_is_tie) := ⟨rfl, rfl, rfl, by decide +kernel, rfl, by decide +kernel, by decide +kernel⟩
def g_is_tie : M Fl := (sSeq (sIf (cOr (cNot (cTru (cCall F_is_pair (cCons (cVar 0) cNil)))) (cOr (cNot (cTru (cCall F_is_name (cCons (cOp ixD (cVar 0) (cC (.int 0))) cNil)))) (cNot (cTru (cCall F_is_name (cCons (cOp ixD (cVar 0) (cC (.int 1))) cNil)))))) (sRet (cC (.bl false))) sNx)
  (sRet (cAndV (cOp neD (cOp ixD (cVar 0) (cC (.int 0))) (cOp ixD (cVar 0) (cC (.int 1)))) (cAndV (cOp inD (cOp ixD (cVar 0) (cC (.int 0))) (cVar 1)) (cOp inD (cOp ixD (cVar 0) (cC (.int 1))) (cVar 1))))))
def F_is_tie : Fn := fnOf 2 2 g_is_tie
abbrev S_index_in : Stmt := top 20
theorem sc_index_in : FnScope ["ties", "one", "other", "index"] ["ties", "one", "other"] (defScope S_index_in) := ⟨rfl, rfl, rfl, by decide +kernel, rfl, by decide +kernel, by decide +kernel⟩
def b1_index_in : M Fl := (sIf (cTest (cOp inD (cOp ixD (cVar 0) (cVar 3)) (cTup (cCons (cTup (cCons (cVar 1) (cCons (cVar 2) cNil))) (cCons (cTup (cCons (cVar 2) (cCons (cVar 1) cNil))) cNil))))) (sRet (cVar 3)) sNx)
def g_index_in : M Fl := (sSeq (sFor (cRange1 (cCons (cCB lenD (cCons (cVar 0) cNil)) cNil)) (gN 3) b1_index_in)
  (sRet (cC .non)))
def F_index_in : Fn := fnOf 4 3 g_index_in
abbrev S_check_ties : Stmt := top 19
theorem sc_check_ties : FnScope ["ties", "places", "index"] ["ties", "places"] (defScope S_check_ties) := ⟨rfl, rfl, rfl, by decide +kernel, rfl, by decide +kernel, by decide +kernel⟩
def b1_check_ties : M Fl := (sSeq (sIf (cOr (cTest (cOp eqD (cVar 2) (cC (.int 16)))) (cNot (cTru (cCall F_is_tie (cCons (cOp ixD (cVar 0) (cVar 2)) (cCons (cVar 1) cNil)))))) (sRaise "InvalidTies" "index" (cVar 2)) sNx)
  (sIf (cTest (cOp isNotD (cCall F_index_in (cCons (cSl (cVar 0) cNoPart (cPart (cVar 2))) (cCons (cOp ixD (cOp ixD (cVar 0) (cVar 2)) (cC (.int 0))) (cCons (cOp ixD (cOp ixD (cVar 0) (cVar 2)) (cC (.int 1))) cNil)))) (cC .non))) (sRaise "InvalidTies" "index" (cVar 2)) sNx))
def g_check_ties : M Fl := (sSeq (sIf (cNot (cTru (cIsT CS "tuple" (cVar 0)))) (sRaise "InvalidTies" "index" (cC .non)) sNx)
  (sFor (cRange1 (cCons (cCB lenD (cCons (cVar 0) cNil)) cNil)) (gN 2) b1_check_ties))
def F_check_ties : Fn := fnOf 3 2 g_check_ties
abbrev S_Web___init__ : Stmt := (bodyOf (top 21)).getD 0 (.Pass ⟨0, 0, 0, 0⟩)
theorem sc_Web___init__ : FnScope ["self", "places", "ties"] ["self", "places", "ties"] (defScope S_Web___init__) := ⟨rfl, rfl, rfl, by decide +kernel, rfl, by decide +kernel, by decide +kernel⟩
def g_Web___init__ : M Fl := (sSeq (sExpr (cCall F_check_places (cCons (cVar 1) cNil)))
  (sSeq (sExpr (cCall F_check_ties (cCons (cVar 2) (cCons (cVar 1) cNil))))
  (sFldSet ["Web"] 0 "both" (cTup (cCons (cVar 1) (cCons (cVar 2) cNil))))))
def F_Web___init__ : Fn := fnOf 3 3 g_Web___init__
abbrev S_Web_ties : Stmt := (bodyOf (top 21)).getD 3 (.Pass ⟨0, 0, 0, 0⟩)
theorem sc_Web_ties : FnScope ["self"] ["self"] (defScope S_Web_ties) := ⟨rfl, rfl, rfl, by decide +kernel, rfl, by decide +kernel, by decide +kernel⟩
def g_Web_ties : M Fl := (sRet (cOp ixD (cFld ["Web"] "both" (cVar 0)) (cC (.int 1))))
def F_Web_ties : Fn := fnOf 1 1 g_Web_ties
abbrev S__law_dip : Stmt := top 26
theorem sc__law_dip : FnScope ["_law_jar_here", "_law_most", "_law_digit", "_law_seed"] ["_law_jar_here", "_law_most"] (defScope S__law_dip) := ⟨rfl, rfl, rfl, by decide +kernel, rfl, by decide +kernel, by decide +kernel⟩
def g__law_dip : M Fl := (sSeq (sSetIx 0 (cC (.int 2)) (cOp addD (cOp ixD (cVar 0) (cC (.int 2))) (cC (.int 1))))
  (sSeq (sIf (cTest (cOp gtD (cOp ixD (cVar 0) (cC (.int 0))) (cC (.int 0)))) (sSeq (sAsg 2 (cOp modD (cCB intFnD (cCons (cOp ixD (cVar 0) (cC (.int 0))) cNil)) (cVar 1)))
  (sSeq (sSetIx 0 (cC (.int 0)) (cOp fdivD (cCB intFnD (cCons (cOp ixD (cVar 0) (cC (.int 0))) cNil)) (cVar 1)))
  (sRet (cVar 2)))) sNx)
  (sSeq (sAsg 3 (cCB intFnD (cCons (cOp ixD (cVar 0) (cC (.int 1))) cNil)))
  (sSeq (sSetIx 0 (cC (.int 1)) (cOp modD (cCB intFnD (cCons (cOp addD (cOp addD (cOp mulD (cVar 3) (cC (.int 40692))) (cOp mulD (cOp ixD (cVar 0) (cC (.int 2))) (cC (.int 52021)))) (cC (.int 31))) cNil)) (cC (.int 2147483399))))
  (sRet (cOp modD (cCB intFnD (cCons (cOp fdivD (cOp ixD (cVar 0) (cC (.int 1))) (cC (.int 2048))) cNil)) (cVar 1)))))))
def F__law_dip : Fn := fnOf 4 2 g__law_dip
abbrev S__law_names : Stmt := top 30
theorem sc__law_names : FnScope ["_law_jar_here", "_law_most", "_law_pool", "_law_at"] ["_law_jar_here", "_law_most"] (defScope S__law_names) := ⟨rfl, rfl, rfl, by decide +kernel, rfl, by decide +kernel, by decide +kernel⟩
def g__law_names : M Fl := (sSeq (sAsg 2 (cLst (cCons (cC (.str "a")) (cCons (cC (.str "b")) (cCons (cC (.str "ab")) (cCons (cC (.str "hub")) (cCons (cC (.str "tie")) (cCons (cC (.str "places")) (cCons (cC (.str "zz")) (cCons (cC (.str "q")) (cCons (cC (.str "m")) (cCons (cC (.str "longname")) (cCons (cC (.str "x")) (cCons (cC (.str "y")) cNil))))))))))))))
  (sSeq (sAsg 3 (cCallJ F__law_dip (cCons (cVar 0) (cCons (cC (.int 12)) cNil))))
  (sRet (cSl (cOp addD (cSl (cVar 2) (cPart (cVar 3)) cNoPart) (cSl (cVar 2) cNoPart (cPart (cVar 3)))) cNoPart (cPart (cVar 1))))))
def F__law_names : Fn := fnOf 4 2 g__law_names
abbrev S__law_pick : Stmt := top 27
theorem sc__law_pick : FnScope ["_law_jar_here", "_law_menu", "_law_at"] ["_law_jar_here", "_law_menu"] (defScope S__law_pick) := ⟨rfl, rfl, rfl, by decide +kernel, rfl, by decide +kernel, by decide +kernel⟩
def g__law_pick : M Fl := (sSeq (sAsg 2 (cCallJ F__law_dip (cCons (cVar 0) (cCons (cCB lenD (cCons (cVar 1) cNil)) cNil))))
  (sRet (cOp ixD (cVar 1) (cVar 2))))
def F__law_pick : Fn := fnOf 3 2 g__law_pick
abbrev S__law_net : Stmt := top 31
theorem sc__law_net : FnScope ["_law_jar_here", "_law_least", "_law_most", "_law_links_most", "_law_spots", "_law_pairs", "_law_found", "_law_k", "_law_other_spot", "_law_many_links", "_law_turn", "_law_at"] ["_law_jar_here", "_law_least", "_law_most", "_law_links_most"] (defScope S__law_net) := ⟨rfl, rfl, rfl, by decide +kernel, rfl, by decide +kernel, by decide +kernel⟩
def b1__law_net : M Fl := (sAsg 5 (cOp addD (cVar 5) (cLc [8] (cIter (cSl (cVar 4) (cPart (cOp addD (cVar 7) (cC (.int 1)))) cNoPart)) (gN 8) tYs (cTup (cCons (cOp ixD (cVar 4) (cVar 7)) (cCons (cVar 8) cNil))))))
def b2__law_net : M Fl := (sSeq (sAsg 11 (cCallJ F__law_dip (cCons (cVar 0) (cCons (cCB lenD (cCons (cVar 5) cNil)) cNil))))
  (sSeq (sExpr (cApp 6 (cIf (cTest (cOp eqD (cCallJ F__law_dip (cCons (cVar 0) (cCons (cC (.int 2)) cNil))) (cC (.int 0)))) (cOp ixD (cVar 5) (cVar 11)) (cRevT (cOp ixD (cVar 5) (cVar 11))))))
  (sAsg 5 (cOp addD (cSl (cVar 5) cNoPart (cPart (cVar 11))) (cSl (cVar 5) (cPart (cOp addD (cVar 11) (cC (.int 1)))) cNoPart)))))
def g__law_net : M Fl := (sSeq (sAsg 4 (cCallJ F__law_names (cCons (cVar 0) (cCons (cOp addD (cVar 1) (cCallJ F__law_dip (cCons (cVar 0) (cCons (cOp addD (cOp subD (cVar 2) (cVar 1)) (cC (.int 1))) cNil)))) cNil))))
  (sSeq (sPar 5 6 (pV (cLst cNil)) (pN (fLst cNil)))
  (sSeq (sFor (cRange1 (cCons (cCB lenD (cCons (cVar 4) cNil)) cNil)) (gN 7) b1__law_net)
  (sSeq (sAsg 9 (cCB min2D (cCons (cVar 3) (cCons (cOp subD (cOp addD (cCB lenD (cCons (cVar 5) cNil)) (cC (.int 1))) (cCallJ F__law_dip (cCons (cVar 0) (cCons (cCallJ F__law_pick (cCons (cVar 0) (cCons (cLst (cCons (cC (.int 2)) (cCons (cC (.int 3)) (cCons (cCB lenD (cCons (cVar 5) cNil)) cNil)))) cNil))) cNil)))) cNil))))
  (sSeq (sFor (cRange1 (cCons (cCB min2D (cCons (cVar 9) (cCons (cCB lenD (cCons (cVar 5) cNil)) cNil))) cNil)) (gN 10) b2__law_net)
  (sRet (cTup (cCons (cCB tupleD (cCons (cVar 4) cNil)) (cCons (cCB tupleD (cCons (cVar 6) cNil)) cNil)))))))))
def F__law_net : Fn := fnOf 12 4 g__law_net
abbrev S__law_odd : Stmt := top 29
theorem sc__law_odd : FnScope ["_law_jar_here", "_law_menu"] ["_law_jar_here"] (defScope S__law_odd) := ⟨rfl, rfl, rfl, by decide +kernel, rfl, by decide +kernel, by decide +kernel⟩
def g__law_odd : M Fl := (sSeq (sAsg 1 (cLst (cCons (cC .non) (cCons (cC (.bl true)) (cCons (cC (.bl false)) (cCons (cC (.int 0)) (cCons (cC (.int 1)) (cCons (cNeg (cC (.int 1))) (cCons (cC (.int 7)) (cCons (cOp powD (cC (.int 10)) (cC (.int 30))) (cCons (cC (.str "")) (cCons (cC (.str "a")) cNil))))))))))))
  (sSeq (sAsg 1 (cOp addD (cVar 1) (cLst (cCons (cC (.str "A")) (cCons (cC (.str "a b")) (cCons (cTup cNil) (cCons (cTup (cCons (cC (.int 1)) cNil)) (cCons (cTup (cCons (cC (.str "a")) cNil)) (cCons (cTup (cCons (cC (.str "a")) (cCons (cC (.str "b")) cNil))) (cCons (cLst (cCons (cC (.str "a")) (cCons (cC (.str "b")) cNil))) (cCons (cLst cNil) (cCons (cOfF fDct) cNil))))))))))))
  (sRet (cCallJ F__law_pick (cCons (cVar 0) (cCons (cOp addD (cVar 1) (cLst (cCons (cOfF (fDct1 (cC (.str "a")) (cC (.int 1)))) (cCons (cTup (cCons (cC .non) (cCons (cC (.int 0)) cNil))) (cCons (cC (.str "a\nb")) (cCons (cTup (cCons (cTup (cCons (cC (.str "a")) (cCons (cC (.str "b")) cNil))) cNil)) (cCons (cTup (cCons (cC (.str "a")) (cCons (cC (.str "a")) cNil))) (cCons (cLst (cCons (cLst cNil) cNil)) (cCons (cC (.str "abcdefghi")) (cCons (cTup (cCons (cTup cNil) cNil)) cNil)))))))))) cNil))))))
def F__law_odd : Fn := fnOf 2 1 g__law_odd
abbrev S__law_put_in : Stmt := top 37
theorem sc__law_put_in : FnScope ["_law_jar_here", "_law_things", "_law_odd_one", "_law_at", "_law_way"] ["_law_jar_here", "_law_things", "_law_odd_one"] (defScope S__law_put_in) := ⟨rfl, rfl, rfl, by decide +kernel, rfl, by decide +kernel, by decide +kernel⟩
def g__law_put_in : M Fl := (sSeq (sPar 3 4 (pV (cCallJ F__law_dip (cCons (cVar 0) (cCons (cOp addD (cCB lenD (cCons (cVar 1) cNil)) (cC (.int 1))) cNil)))) (pV (cCallJ F__law_dip (cCons (cVar 0) (cCons (cC (.int 4)) cNil)))))
  (sSeq (sIf (cTest (cOp eqD (cVar 4) (cC (.int 0)))) (sRet (cOp addD (cOp addD (cSl (cVar 1) cNoPart (cPart (cVar 3))) (cTup (cCons (cVar 2) cNil))) (cSl (cVar 1) (cPart (cVar 3)) cNoPart))) sNx)
  (sRet (cIf (cTest (cOp eqD (cVar 4) (cC (.int 1)))) (cOp addD (cOp addD (cSl (cVar 1) cNoPart (cPart (cVar 3))) (cTup (cCons (cVar 2) cNil))) (cSl (cVar 1) (cPart (cOp addD (cVar 3) (cC (.int 1)))) cNoPart)) (cVar 1)))))
def F__law_put_in : Fn := fnOf 5 3 g__law_put_in
abbrev S__law_is_name : Stmt := top 34
theorem sc__law_is_name : FnScope ["_law_value", "_law_letters", "_law_glyph"] ["_law_value"] (defScope S__law_is_name) := ⟨rfl, rfl, rfl, by decide +kernel, rfl, by decide +kernel, by decide +kernel⟩
def g__law_is_name : M Fl := (sSeq (sAsg 1 (cC (.str "abcdefghijklmnopqrstuvwxyz")))
  (sRet (cAndV (cIsT CS "str" (cVar 0)) (cAndV (cChain ltD ltD (cC (.int 0)) (cCB lenD (cCons (cVar 0) cNil)) (cC (.int 9))) (cCB allD (cCons (cLc [2] (cIter (cVar 0)) (gN 2) tYs (cOp inD (cVar 2) (cVar 1))) cNil))))))
def F__law_is_name : Fn := fnOf 3 1 g__law_is_name
abbrev S__law_spots_slip : Stmt := top 35
theorem sc__law_spots_slip : FnScope ["_law_spots", "_law_k"] ["_law_spots"] (defScope S__law_spots_slip) := ⟨rfl, rfl, rfl, by decide +kernel, rfl, by decide +kernel, by decide +kernel⟩
def b1__law_spots_slip : M Fl := (sIf (cOr (cTest (cOp eqD (cVar 1) (cC (.int 9)))) (cOr (cNot (cTru (cCall F__law_is_name (cCons (cOp ixD (cVar 0) (cVar 1)) cNil)))) (cTest (cOp inD (cOp ixD (cVar 0) (cVar 1)) (cSl (cVar 0) cNoPart (cPart (cVar 1))))))) (sRet (cLst (cCons (cC (.str "spots")) (cCons (cCB repr2D (cCons (cVar 1) cNil)) cNil)))) sNx)
def g__law_spots_slip : M Fl := (sSeq (sIf (cOr (cNot (cTru (cIsT CS "tuple" (cVar 0)))) (cTest (cOp ltD (cCB lenD (cCons (cVar 0) cNil)) (cC (.int 2))))) (sRet (cLst (cCons (cC (.str "spots")) (cCons (cC (.str "None")) cNil)))) sNx)
  (sSeq (sFor (cRange1 (cCons (cCB lenD (cCons (cVar 0) cNil)) cNil)) (gN 1) b1__law_spots_slip)
  (sRet (cLst cNil))))
def F__law_spots_slip : Fn := fnOf 2 1 g__law_spots_slip
abbrev S__law_links_slip : Stmt := top 36
theorem sc__law_links_slip : FnScope ["_law_spots", "_law_links", "_law_k", "_law_link", "_law_spot"] ["_law_spots", "_law_links"] (defScope S__law_links_slip) := ⟨rfl, rfl, rfl, by decide +kernel, rfl, by decide +kernel, by decide +kernel⟩
def b1__law_links_slip : M Fl := (sSeq (sAsg 3 (cOp ixD (cVar 1) (cVar 2)))
  (sSeq (sIf (cOr (cTest (cOp eqD (cVar 2) (cC (.int 16)))) (cOr (cNot (cTru (cIsT CS "tuple" (cVar 3)))) (cTest (cOp neD (cCB lenD (cCons (cVar 3) cNil)) (cC (.int 2)))))) (sRet (cLst (cCons (cC (.str "links")) (cCons (cCB repr2D (cCons (cVar 2) cNil)) cNil)))) sNx)
  (sSeq (sIf (cOr (cNot (cTru (cCB allD (cCons (cLc [4] (cIter (cVar 3)) (gN 4) tYs (cAndV (cIsT CS "str" (cVar 4)) (cOp inD (cVar 4) (cVar 0)))) cNil)))) (cTest (cOp eqD (cOp ixD (cVar 3) (cC (.int 0))) (cOp ixD (cVar 3) (cC (.int 1)))))) (sRet (cLst (cCons (cC (.str "links")) (cCons (cCB repr2D (cCons (cVar 2) cNil)) cNil)))) sNx)
  (sIf (cOr (cTest (cOp inD (cVar 3) (cSl (cVar 1) cNoPart (cPart (cVar 2))))) (cTest (cOp inD (cRevT (cVar 3)) (cSl (cVar 1) cNoPart (cPart (cVar 2)))))) (sRet (cLst (cCons (cC (.str "links")) (cCons (cCB repr2D (cCons (cVar 2) cNil)) cNil)))) sNx))))
def g__law_links_slip : M Fl := (sSeq (sIf (cNot (cTru (cIsT CS "tuple" (cVar 1)))) (sRet (cLst (cCons (cC (.str "links")) (cCons (cC (.str "None")) cNil)))) sNx)
  (sSeq (sFor (cRange1 (cCons (cCB lenD (cCons (cVar 1) cNil)) cNil)) (gN 2) b1__law_links_slip)
  (sRet (cLst cNil))))
def F__law_links_slip : Fn := fnOf 5 2 g__law_links_slip
abbrev S__law_right : Stmt := top 38
theorem sc__law_right : FnScope ["_law_jar_here", "_law_turn", "_law_net_here", "_law_odd_spot", "_law_spots", "_law_odd_link", "_law_links", "_law_due", "_law_told"] ["_law_jar_here"] (defScope S__law_right) := ⟨rfl, rfl, rfl, by decide +kernel, rfl, by decide +kernel, by decide +kernel⟩
def b1__law_right : M Fl := (sSeq (sAsg 2 (cCallJ F__law_net (cCons (cVar 0) (cCons (cC (.int 2)) (cCons (cCallJ F__law_pick (cCons (cVar 0) (cCons (cLst (cCons (cC (.int 4)) (cCons (cC (.int 9)) cNil))) cNil))) (cCons (cC (.int 16)) cNil))))))
  (sSeq (sAsg 3 (cCallJ F__law_pick (cCons (cVar 0) (cCons (cLst (cCons (cC (.str "A")) (cCons (cC (.str "abcdefghi")) (cCons (cC (.str "")) (cCons (cC (.str "a1")) (cCons (cC (.str "a b")) (cCons (cOp ixD (cOp ixD (cVar 2) (cC (.int 0))) (cC (.int 0))) (cCons (cC (.str "ok")) (cCons (cCallJ F__law_odd (cCons (cVar 0) cNil)) cNil))))))))) cNil))))
  (sSeq (sAsg 4 (cCallJ F__law_put_in (cCons (cVar 0) (cCons (cOp ixD (cVar 2) (cC (.int 0))) (cCons (cVar 3) cNil)))))
  (sSeq (sAsg 4 (cCallJ F__law_pick (cCons (cVar 0) (cCons (cLst (cCons (cVar 4) (cCons (cVar 4) (cCons (cVar 4) (cCons (cCB listD (cCons (cVar 4) cNil)) (cCons (cSl (cVar 4) cNoPart (cPart (cC (.int 1)))) (cCons (cTup cNil) (cCons (cCB tupleSD (cCons (cC (.str "abcdefghij")) cNil)) (cCons (cC (.str "ab")) (cCons (cC .non) cNil)))))))))) cNil))))
  (sSeq (sAsg 5 (cLst (cCons (cOp ixD (cVar 2) (cC (.int 0))) (cCons (cOp mulD (cTup (cCons (cOp ixD (cOp ixD (cVar 2) (cC (.int 0))) (cC (.int 0))) cNil)) (cC (.int 2))) (cCons (cTup (cCons (cOp ixD (cOp ixD (cVar 2) (cC (.int 0))) (cC (.int 0))) (cCons (cC (.str "nobody")) cNil))) cNil)))))
  (sSeq (sAsg 5 (cOp addD (cVar 5) (cLst (cCons (cTup (cCons (cC (.str "a")) (cCons (cC (.str "b")) cNil))) (cCons (cTup (cCons (cOp ixD (cOp ixD (cVar 2) (cC (.int 0))) (cC (.int 1))) (cCons (cOp ixD (cOp ixD (cVar 2) (cC (.int 0))) (cC (.int 0))) cNil))) (cCons (cSl (cOp ixD (cVar 2) (cC (.int 0))) cNoPart (cPart (cC (.int 1)))) cNil))))))
  (sSeq (sAsg 6 (cCallJ F__law_put_in (cCons (cVar 0) (cCons (cOp ixD (cVar 2) (cC (.int 1))) (cCons (cCallJ F__law_pick (cCons (cVar 0) (cCons (cOp addD (cVar 5) (cLst (cCons (cCB listD (cCons (cSl (cOp ixD (cVar 2) (cC (.int 0))) cNoPart (cPart (cC (.int 2)))) cNil)) (cCons (cTup (cCons (cC .non) (cCons (cOp ixD (cOp ixD (cVar 2) (cC (.int 0))) (cC (.int 0))) cNil))) (cCons (cCallJ F__law_odd (cCons (cVar 0) cNil)) cNil))))) cNil))) cNil)))))
  (sSeq (sAsg 6 (cCallJ F__law_put_in (cCons (cVar 0) (cCons (cVar 6) (cCons (cCallJ F__law_pick (cCons (cVar 0) (cCons (cOp addD (cCB listD (cCons (cVar 6) cNil)) (cLst (cCons (cSl (cOp ixD (cVar 2) (cC (.int 0))) cNoPart (cPart (cC (.int 2)))) cNil))) cNil))) cNil)))))
  (sSeq (sAsg 6 (cCallJ F__law_pick (cCons (cVar 0) (cCons (cLst (cCons (cVar 6) (cCons (cVar 6) (cCons (cVar 6) (cCons (cVar 6) (cCons (cCB listD (cCons (cVar 6) cNil)) (cCons (cC .non) (cCons (cC (.str "")) (cCons (cOfF fDct) cNil))))))))) cNil))))
  (sSeq (sAsg 7 (cCall F__law_spots_slip (cCons (cVar 4) cNil)))
  (sSeq (sAsg 7 (cIf (cTest (cOp neD (cVar 7) (cLst cNil))) (cVar 7) (cCall F__law_links_slip (cCons (cVar 4) (cCons (cVar 6) cNil)))))
  (sSeq (sAsg 8 (cLam 1 (lamQ "_law_right") F__law_caught (cMakeK "Web" F_Web___init__ 2 [1, 0] (cCons (cVar 6) (cCons (cVar 4) cNil)))))
  (sIf (cOr (cAnd (cTest (cOp neD (cVar 7) (cLst cNil))) (cTest (cOp neD (cVar 8) (cVar 7)))) (cAnd (cTest (cOp eqD (cVar 7) (cLst cNil))) (cTest (cOp neD (cOp ixD (cVar 8) (cC (.int 0))) (cC (.str "told")))))) (sRet (cC (.bl false))) sNx)))))))))))))
def g__law_right : M Fl := (sSeq (sFor (cRange1 (cCons (cC (.int 8)) cNil)) (gN 1) b1__law_right)
  (sRet (cC (.bl true))))
def F__law_right : Fn := fnOf 9 1 g__law_right
abbrev S__law_jar : Stmt := top 25
theorem sc__law_jar : FnScope ["_law_script", "_law_k", "_law_mixed", "_law_cell", "_law_own", "_law_digits"] ["_law_script", "_law_k"] (defScope S__law_jar) := ⟨rfl, rfl, rfl, by decide +kernel, rfl, by decide +kernel, by decide +kernel⟩
def b1__law_jar : M Fl := (sAsg 2 (cOp modD (cCB intFnD (cCons (cOp addD (cOp mulD (cVar 2) (cC (.int 733))) (cVar 3)) cNil)) (cC (.int 1000000009))))
def g__law_jar : M D := (nSeq (sAsg 2 (cOp addD (cOp mulD (cOp mulD (cC (.int 7369)) (cOp addD (cVar 1) (cC (.int 5)))) (cOp addD (cVar 1) (cC (.int 2)))) (cOp mulD (cC (.int 29)) (cCB lenD (cCons (cVar 0) cNil)))))
  (nSeq (sFor (cIter (cSl (cVar 0) cNoPart (cPart (cC (.int 4))))) (gN 3) b1__law_jar)
  (nSeq (sAsg 4 (cIf (cTest (cOp ltD (cVar 1) (cCB lenD (cCons (cVar 0) cNil)))) (cOp ixD (cVar 0) (cVar 1)) (cC (.int 0))))
  (nSeq (sAsg 5 (cIf (cOr (cTest (cOp ltD (cVar 4) (cC (.int 0)))) (cTest (cOp geD (cVar 4) (cOp powD (cC (.int 10)) (cC (.int 18)))))) (cCB absD (cCons (cVar 4) cNil)) (cC (.int 0))))
  (fLst (cCons (cVar 5) (cCons (cOp modD (cCB intFnD (cCons (cOp addD (cOp addD (cOp mulD (cVar 2) (cC (.int 8117))) (cOp mulD (cVar 4) (cC (.int 64013)))) (cOp mulD (cC (.int 105019)) (cOp addD (cVar 1) (cC (.int 1))))) cNil)) (cC (.int 2147483563))) (cCons (cC (.int 0)) cNil))))))))
def F__law_jar : Fn := newOf 6 2 g__law_jar
abbrev S_law : Stmt := top 39
theorem sc_law : FnScope ["_law_script", "_law_spots", "_law_links", "_law_spot", "_law_k"] ["_law_script"] (defScope S_law) := ⟨rfl, rfl, rfl, by decide +kernel, rfl, by decide +kernel, by decide +kernel⟩
def b1_law : M Fl := (sIf (cNot (cTru (cCallTT 0 F__law_right (nCall F__law_jar (cCons (cVar 0) (cCons (cVar 4) cNil)))))) (sRet (cC (.bl false))) sNx)
def g_law : M Fl := (sSeq (sAsg 1 (cCB tupleSD (cCons (cC (.str "abcdefghi")) cNil)))
  (sSeq (sAsg 2 (cCB tupleD (cCons (cOp addD (cOp addD (cLc [3] (cIter (cSl (cVar 1) (cPart (cC (.int 1))) cNoPart)) (gN 3) tYs (cTup (cCons (cC (.str "a")) (cCons (cVar 3) cNil)))) (cLc [3] (cIter (cSl (cVar 1) (cPart (cC (.int 2))) cNoPart)) (gN 3) tYs (cTup (cCons (cC (.str "b")) (cCons (cVar 3) cNil))))) (cLst (cCons (cTup (cCons (cC (.str "c")) (cCons (cC (.str "d")) cNil))) (cCons (cTup (cCons (cC (.str "c")) (cCons (cC (.str "e")) cNil))) cNil)))) cNil)))
  (sSeq (sIf (cOr (cTest (cOp neD (cLam 1 (lamQ "law") F__law_caught (cMake "Web" F_Web___init__ (cCons (cVar 1) (cCons (cVar 2) cNil)))) (cLst (cCons (cC (.str "links")) (cCons (cC (.str "16")) cNil))))) (cTest (cOp neD (cCB lenD (cCons (cProp "Web" F_Web_ties (cMake "Web" F_Web___init__ (cCons (cVar 1) (cCons (cSl (cVar 2) cNoPart (cPart (cC (.int 16)))) cNil)))) cNil)) (cC (.int 16))))) (sRet (cC (.bl false))) sNx)
  (sSeq (sFor (cRange1 (cCons (cCB max2D (cCons (cC (.int 2)) (cCons (cCB min2D (cCons (cCB lenD (cCons (cVar 0) cNil)) (cCons (cC (.int 5)) cNil))) cNil))) cNil)) (gN 4) b1_law)
  (sRet (cC (.bl true)))))))
def F_law : Fn := fnOf 5 1 g_law
structure Fx (K : PySem.W.Frag) (mg : Str → Option Value) (cl : Str → Addr) where
  n_ArithmeticError : mg "ArithmeticError" = none
  n_LookupError : mg "LookupError" = none
  n_ValueError : mg "ValueError" = none
  n_abs : mg "abs" = none
  n_all : mg "all" = none
  n_int : mg "int" = none
  n_isinstance : mg "isinstance" = none
  n_len : mg "len" = none
  n_list : mg "list" = none
  n_max : mg "max" = none
  n_min : mg "min" = none
  n_range : mg "range" = none
  n_repr : mg "repr" = none
  n_str : mg "str" = none
  n_tuple : mg "tuple" = none
  i_LONGEST : ∃ t, mg "LONGEST" = some (.int 8 t)
  i_MOST_PLACES : ∃ t, mg "MOST_PLACES" = some (.int 9 t)
  i_MOST_TIES : ∃ t, mg "MOST_TIES" = some (.int 16 t)
  s_SMALL : ∃ t, mg "SMALL" = some (.str "abcdefghijklmnopqrstuvwxyz" t)
  a__law_bases : Addr
  d__law_bases : FuncData
  F__law_bases : FunD K "_law_bases" "_law_bases" (defArgs S__law_bases) (defBody S__law_bases) (defScope S__law_bases) [] [] a__law_bases d__law_bases
  m__law_bases : mg "_law_bases" = some (.ref a__law_bases)
  a__law_shown : Addr
  d__law_shown : FuncData
  F__law_shown : FunD K "_law_shown" "_law_shown" (defArgs S__law_shown) (defBody S__law_shown) (defScope S__law_shown) [] [] a__law_shown d__law_shown
  m__law_shown : mg "_law_shown" = some (.ref a__law_shown)
  a__law_caught : Addr
  d__law_caught : FuncData
  F__law_caught : FunD K "_law_caught" "_law_caught" (defArgs S__law_caught) (defBody S__law_caught) (defScope S__law_caught) [] [] a__law_caught d__law_caught
  m__law_caught : mg "_law_caught" = some (.ref a__law_caught)
  a_InvalidPlaces___init__ : Addr
  d_InvalidPlaces___init__ : FuncData
  F_InvalidPlaces___init__ : FunD K "__init__" "InvalidPlaces.__init__" (defArgs S_InvalidPlaces___init__) (defBody S_InvalidPlaces___init__) (defScope S_InvalidPlaces___init__) [] [] a_InvalidPlaces___init__ d_InvalidPlaces___init__
  a_is_name : Addr
  d_is_name : FuncData
  F_is_name : FunD K "is_name" "is_name" (defArgs S_is_name) (defBody S_is_name) (defScope S_is_name) [] [] a_is_name d_is_name
  m_is_name : mg "is_name" = some (.ref a_is_name)
  a_check_places : Addr
  d_check_places : FuncData
  F_check_places : FunD K "check_places" "check_places" (defArgs S_check_places) (defBody S_check_places) (defScope S_check_places) [] [] a_check_places d_check_places
  m_check_places : mg "check_places" = some (.ref a_check_places)
  a_InvalidTies___init__ : Addr
  d_InvalidTies___init__ : FuncData
  F_InvalidTies___init__ : FunD K "__init__" "InvalidTies.__init__" (defArgs S_InvalidTies___init__) (defBody S_InvalidTies___init__) (defScope S_InvalidTies___init__) [] [] a_InvalidTies___init__ d_InvalidTies___init__
  a_is_pair : Addr
  d_is_pair : FuncData
  F_is_pair : FunD K "is_pair" "is_pair" (defArgs S_is_pair) (defBody S_is_pair) (defScope S_is_pair) [] [] a_is_pair d_is_pair
  m_is_pair : mg "is_pair" = some (.ref a_is_pair)
  a_is_tie : Addr
  d_is_tie : FuncData
  F_is_tie : FunD K "is_tie" "is_tie" (defArgs S_is_tie) (defBody S_is_tie) (defScope S_is_tie) [] [] a_is_tie d_is_tie
  m_is_tie : mg "is_tie" = some (.ref a_is_tie)
  a_index_in : Addr
  d_index_in : FuncData
  F_index_in : FunD K "index_in" "index_in" (defArgs S_index_in) (defBody S_index_in) (defScope S_index_in) [] [] a_index_in d_index_in
  m_index_in : mg "index_in" = some (.ref a_index_in)
  a_check_ties : Addr
  d_check_ties : FuncData
  F_check_ties : FunD K "check_ties" "check_ties" (defArgs S_check_ties) (defBody S_check_ties) (defScope S_check_ties) [] [] a_check_ties d_check_ties
  m_check_ties : mg "check_ties" = some (.ref a_check_ties)
  a_Web___init__ : Addr
  d_Web___init__ : FuncData
  F_Web___init__ : FunD K "__init__" "Web.__init__" (defArgs S_Web___init__) (defBody S_Web___init__) (defScope S_Web___init__) [] [] a_Web___init__ d_Web___init__
  a_Web_ties : Addr
  d_Web_ties : FuncData
  F_Web_ties : FunD K "ties" "Web.ties" (defArgs S_Web_ties) (defBody S_Web_ties) (defScope S_Web_ties) [] [] a_Web_ties d_Web_ties
  a__law_dip : Addr
  d__law_dip : FuncData
  F__law_dip : FunD K "_law_dip" "_law_dip" (defArgs S__law_dip) (defBody S__law_dip) (defScope S__law_dip) [] [] a__law_dip d__law_dip
  m__law_dip : mg "_law_dip" = some (.ref a__law_dip)
  a__law_names : Addr
  d__law_names : FuncData
  F__law_names : FunD K "_law_names" "_law_names" (defArgs S__law_names) (defBody S__law_names) (defScope S__law_names) [] [] a__law_names d__law_names
  m__law_names : mg "_law_names" = some (.ref a__law_names)
  a__law_pick : Addr
  d__law_pick : FuncData
  F__law_pick : FunD K "_law_pick" "_law_pick" (defArgs S__law_pick) (defBody S__law_pick) (defScope S__law_pick) [] [] a__law_pick d__law_pick
  m__law_pick : mg "_law_pick" = some (.ref a__law_pick)
  a__law_net : Addr
  d__law_net : FuncData
  F__law_net : FunD K "_law_net" "_law_net" (defArgs S__law_net) (defBody S__law_net) (defScope S__law_net) [] [] a__law_net d__law_net
  m__law_net : mg "_law_net" = some (.ref a__law_net)
  a__law_odd : Addr
  d__law_odd : FuncData
  F__law_odd : FunD K "_law_odd" "_law_odd" (defArgs S__law_odd) (defBody S__law_odd) (defScope S__law_odd) [] [] a__law_odd d__law_odd
  m__law_odd : mg "_law_odd" = some (.ref a__law_odd)
  a__law_put_in : Addr
  d__law_put_in : FuncData
  F__law_put_in : FunD K "_law_put_in" "_law_put_in" (defArgs S__law_put_in) (defBody S__law_put_in) (defScope S__law_put_in) [] [] a__law_put_in d__law_put_in
  m__law_put_in : mg "_law_put_in" = some (.ref a__law_put_in)
  a__law_is_name : Addr
  d__law_is_name : FuncData
  F__law_is_name : FunD K "_law_is_name" "_law_is_name" (defArgs S__law_is_name) (defBody S__law_is_name) (defScope S__law_is_name) [] [] a__law_is_name d__law_is_name
  m__law_is_name : mg "_law_is_name" = some (.ref a__law_is_name)
  a__law_spots_slip : Addr
  d__law_spots_slip : FuncData
  F__law_spots_slip : FunD K "_law_spots_slip" "_law_spots_slip" (defArgs S__law_spots_slip) (defBody S__law_spots_slip) (defScope S__law_spots_slip) [] [] a__law_spots_slip d__law_spots_slip
  m__law_spots_slip : mg "_law_spots_slip" = some (.ref a__law_spots_slip)
  a__law_links_slip : Addr
  d__law_links_slip : FuncData
  F__law_links_slip : FunD K "_law_links_slip" "_law_links_slip" (defArgs S__law_links_slip) (defBody S__law_links_slip) (defScope S__law_links_slip) [] [] a__law_links_slip d__law_links_slip
  m__law_links_slip : mg "_law_links_slip" = some (.ref a__law_links_slip)
  a__law_right : Addr
  d__law_right : FuncData
  F__law_right : FunD K "_law_right" "_law_right" (defArgs S__law_right) (defBody S__law_right) (defScope S__law_right) [] [] a__law_right d__law_right
  m__law_right : mg "_law_right" = some (.ref a__law_right)
  a__law_jar : Addr
  d__law_jar : FuncData
  F__law_jar : FunD K "_law_jar" "_law_jar" (defArgs S__law_jar) (defBody S__law_jar) (defScope S__law_jar) [] [] a__law_jar d__law_jar
  m__law_jar : mg "_law_jar" = some (.ref a__law_jar)
  a_law : Addr
  d_law : FuncData
  F_law : FunD K "law" "law" (defArgs S_law) (defBody S_law) (defScope S_law) [] [] a_law d_law
  m_law : mg "law" = some (.ref a_law)
  c_Web : mg "Web" = some (.ref (cl "Web"))
  cls_Web : Cls K (cl "Web")
  c_InvalidPlaces : mg "InvalidPlaces" = some (.ref (cl "InvalidPlaces"))
  c_InvalidTies : mg "InvalidTies" = some (.ref (cl "InvalidTies"))
  c_NotPossible : mg "NotPossible" = some (.ref (cl "NotPossible"))
  c_WrongName : mg "WrongName" = some (.ref (cl "WrongName"))
  c_WrongValue : mg "WrongValue" = some (.ref (cl "WrongValue"))
  er_InvalidPlaces : ErrC K (cl "InvalidPlaces") "ValueError" "ValueError.__new__" "ValueError.__init__"
  en_InvalidPlaces : PySem.W.findIn K (.ref (cl "InvalidPlaces")) "index" = some none
  ei_InvalidPlaces : PySem.W.findIn K (.ref (cl "InvalidPlaces")) "__init__" = some (some (.ref a_InvalidPlaces___init__))
  et_InvalidPlaces : PySem.W.typeIn K (.ref a_InvalidPlaces___init__) = some (.type "function")
  er_InvalidTies : ErrC K (cl "InvalidTies") "ValueError" "ValueError.__new__" "ValueError.__init__"
  en_InvalidTies : PySem.W.findIn K (.ref (cl "InvalidTies")) "index" = some none
  ei_InvalidTies : PySem.W.findIn K (.ref (cl "InvalidTies")) "__init__" = some (some (.ref a_InvalidTies___init__))
  et_InvalidTies : PySem.W.typeIn K (.ref a_InvalidTies___init__) = some (.type "function")
  xi : ∀ c ∈ EX, ErrI K (cl c)
  xf_index : ∀ c ∈ EX, PySem.W.findIn K (.ref (cl c)) "index" = some none
  xk_InvalidPlaces : ∀ c ∈ EX, PySem.W.kitOne K (.ref (cl c)) (.ref (cl "InvalidPlaces")) = some (hitE c "InvalidPlaces")
  xk_InvalidTies : ∀ c ∈ EX, PySem.W.kitOne K (.ref (cl c)) (.ref (cl "InvalidTies")) = some (hitE c "InvalidTies")
  xk_NotPossible : ∀ c ∈ EX, PySem.W.kitOne K (.ref (cl c)) (.ref (cl "NotPossible")) = some (hitE c "NotPossible")
  xk_WrongName : ∀ c ∈ EX, PySem.W.kitOne K (.ref (cl c)) (.ref (cl "WrongName")) = some (hitE c "WrongName")
  xk_WrongValue : ∀ c ∈ EX, PySem.W.kitOne K (.ref (cl c)) (.ref (cl "WrongValue")) = some (hitE c "WrongValue")
  xt_ArithmeticError : ∀ c ∈ EX, PySem.W.kitOne K (.ref (cl c)) (.type "ArithmeticError") = some (hitE c "ArithmeticError")
  xt_LookupError : ∀ c ∈ EX, PySem.W.kitOne K (.ref (cl c)) (.type "LookupError") = some (hitE c "LookupError")
  xt_ValueError : ∀ c ∈ EX, PySem.W.kitOne K (.ref (cl c)) (.type "ValueError") = some (hitE c "ValueError")
  exm : ∀ c ∈ EX, PySem.W.exmAny K (.ref (cl c)) [.ref (cl "WrongValue"), .ref (cl "WrongName"), .ref (cl "NotPossible")] = some true
  C__law_right : Addr
  P__law_right : Addr
  fc__law_right : d__law_right.code = .ref C__law_right
  C_law : Addr
  P_law : Addr
  fc_law : d_law.code = .ref C_law
  mk_Web : Mk K (cl "Web") a_Web___init__
  at_Web_both : NoAttr K (cl "Web") "both"
  p_Web_ties : Addr
  pr_Web_ties : PropOf K (cl "Web") "ties" p_Web_ties a_Web_ties
  clsx : ClsX K cl CS
/-- the code objects of the defs that make lambdas, their tables -/
def Fx.cs {K : PySem.W.Frag} {mg : Str → Option Value} {cl : Str → Addr} (T : Fx K mg cl) : List (Addr × Addr) := [(T.C__law_right, T.P__law_right), (T.C_law, T.P_law)]
theorem bd__law_bases {K : PySem.W.Frag} {mg : Str → Option Value} {cl : Str → Addr} (T : Fx K mg cl) : Binds K T.d__law_bases ["_law_e"] [] := T.F__law_bases.bindsN fun _ _ _ _ _ _ us hl => match us, hl with | [_], _ => rfl
theorem ok__law_bases {P : Program} {w : World} {K : PySem.W.Frag} {mg : Str → Option Value} {base : Heap} {cl : Str → Addr} (T : Fx K mg cl) : FnX P w K mg base cl EX 1 T.a__law_bases T.d__law_bases "_law_e" F__law_bases :=
  fn_X (k := 0) (N := ["_law_e", "_law_found"]) (g := g__law_bases) T.F__law_bases sc__law_bases fun F cdv A outer s H p dd y hr hG hy HX =>
    (rs_cons (rs_own sc__law_bases.nd (rf_lst (ra_cons (re_and (re_isXC 0 HX (T.xi _ hy) (T.xk_WrongValue _ hy) rfl T.n_isinstance rfl T.c_WrongValue) (re_one (re_isXT 0 HX (T.xi _ hy) (T.xt_ValueError _ hy) rfl T.n_isinstance rfl T.n_ValueError bt_ValueError))) ra_nil)))
    (rs_cons (rs_expr (re_app 1 (re_and (re_isXC 0 HX (T.xi _ hy) (T.xk_WrongName _ hy) rfl T.n_isinstance rfl T.c_WrongName) (re_one (re_isXT 0 HX (T.xi _ hy) (T.xt_LookupError _ hy) rfl T.n_isinstance rfl T.n_LookupError bt_LookupError)))))
    (rs_one (rs_ret (re_op od_add (re_v 1) (re_lst (ra_cons (re_and (re_isXC 0 HX (T.xi _ hy) (T.xk_NotPossible _ hy) rfl T.n_isinstance rfl T.c_NotPossible) (re_one (re_isXT 0 HX (T.xi _ hy) (T.xt_ArithmeticError _ hy) rfl T.n_isinstance rfl T.n_ArithmeticError bt_ArithmeticError))) ra_nil)))))))
theorem bd__law_shown {K : PySem.W.Frag} {mg : Str → Option Value} {cl : Str → Addr} (T : Fx K mg cl) : Binds K T.d__law_shown ["_law_e"] [] := T.F__law_shown.bindsN fun _ _ _ _ _ _ us hl => match us, hl with | [_], _ => rfl
theorem ok__law_shown {P : Program} {w : World} {K : PySem.W.Frag} {mg : Str → Option Value} {base : Heap} {cl : Str → Addr} (T : Fx K mg cl) : FnX P w K mg base cl EX 2 T.a__law_shown T.d__law_shown "_law_e" F__law_shown :=
  fn_X (k := 1) (N := ["_law_e", "_law_sorts"]) (g := g__law_shown) T.F__law_shown sc__law_shown fun F cdv A outer s H p dd y hr hG hy HX =>
    (rs_cons (rs_asg sc__law_shown.nd (re_lst (ra_cons (re_isXC 0 HX (T.xi _ hy) (T.xk_InvalidPlaces _ hy) rfl T.n_isinstance rfl T.c_InvalidPlaces) (ra_cons (re_isXC 0 HX (T.xi _ hy) (T.xk_InvalidTies _ hy) rfl T.n_isinstance rfl T.c_InvalidTies) ra_nil))))
    (rs_cons (rs_if (rt_w (rw_or (rt_cmp (od_ne (room64h hr)) (re_cntB (room65h hr) (re_v 1) re_bl) re_int (nomark _)) (rw_or1 (rt_cmp (od_ne (room64h hr)) (re_callX 0 HX (ok__law_bases T) hy (hr.mono (by omega)) hG rfl T.m__law_bases T.F__law_bases.kp (bd__law_bases T)) (re_lst (ra_cons re_bl (ra_cons re_bl (ra_cons re_bl ra_nil)))) (nomark _))))) (rs_one (rs_ret (re_lst (ra_cons re_str (ra_cons re_str ra_nil))))) rs_nil)
    (rs_one (rs_ret (re_lst (ra_cons (re_ix (room1h hr) (re_lst (ra_cons re_str (ra_cons re_str ra_nil))) (re_idxB (re_v 1) re_bl)) (ra_cons (re_callB (cd_repr2 hG (room64h hr)) rfl T.n_repr bt_repr (ra_cons (re_xf 0 HX (T.xi _ hy) (T.xf_index _ hy)) ra_nil)) ra_nil)))))))
theorem bd__law_caught {K : PySem.W.Frag} {mg : Str → Option Value} {cl : Str → Addr} (T : Fx K mg cl) : Binds K T.d__law_caught ["_law_act"] [] := T.F__law_caught.bindsN fun _ _ _ _ _ _ us hl => match us, hl with | [_], _ => rfl
theorem ok__law_caught {P : Program} {w : World} {K : PySem.W.Frag} {mg : Str → Option Value} {base : Heap} {cl : Str → Addr} (T : Fx K mg cl) (k : Nat) (hk : 2 ≤ k) : FnL P w K mg base cl k T.a__law_caught T.d__law_caught "_law_act" F__law_caught :=
  fn_L (N := ["_law_act", "_law_told", "_law_e"]) (g := g__law_caught) T.F__law_caught sc__law_caught rfl (Or.inl rfl) fun F cdv A outer s H o hr hG hact =>
    (rs_cons (rs_try 2 rfl rfl sc__law_caught.nd rfl rfl rfl T.c_WrongValue rfl T.c_WrongName rfl T.c_NotPossible T.exm
    (fun W pn xe tk hp => (rs_one (rs_asg sc__law_caught.nd (hact _ _ _ _ _ tk))))
    (fun a oe pn G1 y dd hy HX => (rs_one (rs_ret (re_callX 2 HX (ok__law_shown T) hy (L2H.roomH_mark (hr.mono (by omega)) _) hG rfl T.m__law_shown T.F__law_shown.kp (bd__law_shown T))))))
    (rs_one (rs_ret (re_lst (ra_cons re_str (ra_cons (re_v 1) ra_nil))))))
theorem bd_InvalidPlaces___init__ {K : PySem.W.Frag} {mg : Str → Option Value} {cl : Str → Addr} (T : Fx K mg cl) : Binds K T.d_InvalidPlaces___init__ ["self", "index"] [] := T.F_InvalidPlaces___init__.bindsN fun _ _ _ _ _ _ us hl => match us, hl with | [_, _], _ => rfl
theorem ok_InvalidPlaces___init__ {P : Program} {w : World} {K : PySem.W.Frag} {mg : Str → Option Value} {base : Heap} {cl : Str → Addr} (T : Fx K mg cl) : FnOk P w K mg base (L2N.CX P w) 1 T.a_InvalidPlaces___init__ T.d_InvalidPlaces___init__ ["self", "index"] (spI (cl "InvalidPlaces") "index") :=
  init_ok (k := 0) T.er_InvalidPlaces T.en_InvalidPlaces T.F_InvalidPlaces___init__ sc_InvalidPlaces___init__ (Or.inl rfl) (Or.inl rfl)
theorem bd_is_name {K : PySem.W.Frag} {mg : Str → Option Value} {cl : Str → Addr} (T : Fx K mg cl) : Binds K T.d_is_name ["value"] [] := T.F_is_name.bindsN fun _ _ _ _ _ _ us hl => match us, hl with | [_], _ => rfl
theorem ok_is_name {P : Program} {w : World} {K : PySem.W.Frag} {mg : Str → Option Value} {base : Heap} {cl : Str → Addr} (T : Fx K mg cl) : FnOk P w K mg base (L2N.CX P w) 1 T.a_is_name T.d_is_name ["value"] (spD K cl F_is_name) :=
  fn_D (k := 0) (N := ["value", "sign"]) (g := g_is_name) T.F_is_name sc_is_name fun F cdv A outer s H E hr =>
    (rs_one (rs_ret (re_and (re_isT T.clsx (re_v 0) rfl T.n_isinstance rfl T.n_str bt_str (by decide)) (re_and (re_chain od_lt od_le re_int (re_callB cd_len rfl T.n_len bt_len (ra_cons (re_v 0) ra_nil)) (re_gint rfl T.i_LONGEST)) (re_one (re_callB (cd_all rfl) rfl T.n_all bt_all (ra_cons (re_lc (own := [("sign", 1)]) rfl sc_is_name.nd (ri_seq (re_v 0)) (blkOk_by (by kernel_rfl)) (fun _ _ _ _ _ => (rg_n 1 sc_is_name.nd)) (fun _ _ _ _ _ => rts_nil) (fun _ _ _ _ _ => (re_cmp (od_in (room65 hr)) (re_v 1) (re_gstr rfl T.s_SMALL) (by rfl)))) ra_nil)))))))
theorem bd_check_places {K : PySem.W.Frag} {mg : Str → Option Value} {cl : Str → Addr} (T : Fx K mg cl) : Binds K T.d_check_places ["places"] [] := T.F_check_places.bindsN fun _ _ _ _ _ _ us hl => match us, hl with | [_], _ => rfl
theorem ok_check_places {P : Program} {w : World} {K : PySem.W.Frag} {mg : Str → Option Value} {base : Heap} {cl : Str → Addr} (T : Fx K mg cl) : FnOk P w K mg base (L2N.CX P w) 3 T.a_check_places T.d_check_places ["places"] (spD K cl F_check_places) :=
  fn_D (k := 2) (N := ["places", "index"]) (g := g_check_places) T.F_check_places sc_check_places fun F cdv A outer s H E hr =>
    (rs_cons (rs_if (rt_w (rw_or (rt_not (rt_tru (re_isT T.clsx (re_v 0) rfl T.n_isinstance rfl T.n_tuple bt_tuple (by decide)))) (rw_or1 (rt_cmp od_lt (re_callB cd_len rfl T.n_len bt_len (ra_cons (re_v 0) ra_nil)) re_int (nomark _))))) (rs_one (rs_raise rfl (L2N.takes_of rfl rfl rfl rfl) T.er_InvalidPlaces T.ei_InvalidPlaces T.et_InvalidPlaces (ok_InvalidPlaces___init__ T) (hr.mono (by omega)) (bd_InvalidPlaces___init__ T) rfl T.c_InvalidPlaces re_non)) rs_nil)
    (rs_one (rs_for (passes_of rfl) rfl (ri_range1 rfl T.n_range (ra_cons (re_callB cd_len rfl T.n_len bt_len (ra_cons (re_v 0) ra_nil)) ra_nil)) (rg_n 1 sc_check_places.nd) (rs_one (rs_if (rt_w (rw_or (rt_cmp (od_eq (room64 hr)) (re_v 1) (re_gint rfl T.i_MOST_PLACES) (nomark _)) (rw_or (rt_not (rt_tru (re_call (ok_is_name T) (hr.mono (by omega)) (L2N.takes_of rfl rfl rfl rfl) rfl T.m_is_name T.F_is_name.kp (bd_is_name T) (ra_cons (re_ix (room1 hr) (re_v 0) (re_v 1)) ra_nil)))) (rw_or1 (rt_cmp (od_in (room65 hr)) (re_ix (room1 hr) (re_v 0) (re_v 1)) (re_sl (re_v 0) ro_none (ro_some (re_v 1))) (by rfl)))))) (rs_one (rs_raise rfl (L2N.takes_of rfl rfl rfl rfl) T.er_InvalidPlaces T.ei_InvalidPlaces T.et_InvalidPlaces (ok_InvalidPlaces___init__ T) (hr.mono (by omega)) (bd_InvalidPlaces___init__ T) rfl T.c_InvalidPlaces (re_v 1))) rs_nil)))))
theorem bd_InvalidTies___init__ {K : PySem.W.Frag} {mg : Str → Option Value} {cl : Str → Addr} (T : Fx K mg cl) : Binds K T.d_InvalidTies___init__ ["self", "index"] [] := T.F_InvalidTies___init__.bindsN fun _ _ _ _ _ _ us hl => match us, hl with | [_, _], _ => rfl
theorem ok_InvalidTies___init__ {P : Program} {w : World} {K : PySem.W.Frag} {mg : Str → Option Value} {base : Heap} {cl : Str → Addr} (T : Fx K mg cl) : FnOk P w K mg base (L2N.CX P w) 1 T.a_InvalidTies___init__ T.d_InvalidTies___init__ ["self", "index"] (spI (cl "InvalidTies") "index") :=
  init_ok (k := 0) T.er_InvalidTies T.en_InvalidTies T.F_InvalidTies___init__ sc_InvalidTies___init__ (Or.inl rfl) (Or.inl rfl)
theorem bd_is_pair {K : PySem.W.Frag} {mg : Str → Option Value} {cl : Str → Addr} (T : Fx K mg cl) : Binds K T.d_is_pair ["value"] [] := T.F_is_pair.bindsN fun _ _ _ _ _ _ us hl => match us, hl with | [_], _ => rfl
theorem ok_is_pair {P : Program} {w : World} {K : PySem.W.Frag} {mg : Str → Option Value} {base : Heap} {cl : Str → Addr} (T : Fx K mg cl) : FnOk P w K mg base (L2N.CX P w) 1 T.a_is_pair T.d_is_pair ["value"] (spD K cl F_is_pair) :=
  fn_D (k := 0) (N := ["value"]) (g := g_is_pair) T.F_is_pair sc_is_pair fun F cdv A outer s H E hr =>
    (rs_one (rs_ret (re_and (re_isT T.clsx (re_v 0) rfl T.n_isinstance rfl T.n_tuple bt_tuple (by decide)) (re_one (re_cmp (od_eq (room64 hr)) (re_callB cd_len rfl T.n_len bt_len (ra_cons (re_v 0) ra_nil)) re_int (nomark _))))))
theorem bd_is_tie {K : PySem.W.Frag} {mg : Str → Option Value} {cl : Str → Addr} (T : Fx K mg cl) : Binds K T.d_is_tie ["value", "places"] [] := T.F_is_tie.bindsN fun _ _ _ _ _ _ us hl => match us, hl with | [_, _], _ => rfl
theorem ok_is_tie {P : Program} {w : World} {K : PySem.W.Frag} {mg : Str → Option Value} {base : Heap} {cl : Str → Addr} (T : Fx K mg cl) : FnOk P w K mg base (L2N.CX P w) 2 T.a_is_tie T.d_is_tie ["value", "places"] (spD K cl F_is_tie) :=
  fn_D (k := 1) (N := ["value", "places"]) (g := g_is_tie) T.F_is_tie sc_is_tie fun F cdv A outer s H E hr =>
    (rs_cons (rs_if (rt_w (rw_or (rt_not (rt_tru (re_call (ok_is_pair T) (hr.mono (by omega)) (L2N.takes_of rfl rfl rfl rfl) rfl T.m_is_pair T.F_is_pair.kp (bd_is_pair T) (ra_cons (re_v 0) ra_nil)))) (rw_or (rt_not (rt_tru (re_call (ok_is_name T) (hr.mono (by omega)) (L2N.takes_of rfl rfl rfl rfl) rfl T.m_is_name T.F_is_name.kp (bd_is_name T) (ra_cons (re_ix (room1 hr) (re_v 0) re_int) ra_nil)))) (rw_or1 (rt_not (rt_tru (re_call (ok_is_name T) (hr.mono (by omega)) (L2N.takes_of rfl rfl rfl rfl) rfl T.m_is_name T.F_is_name.kp (bd_is_name T) (ra_cons (re_ix (room1 hr) (re_v 0) re_int) ra_nil)))))))) (rs_one (rs_ret re_bl)) rs_nil)
    (rs_one (rs_ret (re_and (re_cmp (od_ne (room64 hr)) (re_ix (room1 hr) (re_v 0) re_int) (re_ix (room1 hr) (re_v 0) re_int) (nomark _)) (re_and (re_cmp (od_in (room65 hr)) (re_ix (room1 hr) (re_v 0) re_int) (re_v 1) (by rfl)) (re_one (re_cmp (od_in (room65 hr)) (re_ix (room1 hr) (re_v 0) re_int) (re_v 1) (by rfl))))))))
theorem bd_index_in {K : PySem.W.Frag} {mg : Str → Option Value} {cl : Str → Addr} (T : Fx K mg cl) : Binds K T.d_index_in ["ties", "one", "other"] [] := T.F_index_in.bindsN fun _ _ _ _ _ _ us hl => match us, hl with | [_, _, _], _ => rfl
theorem ok_index_in {P : Program} {w : World} {K : PySem.W.Frag} {mg : Str → Option Value} {base : Heap} {cl : Str → Addr} (T : Fx K mg cl) : FnOk P w K mg base (L2N.CX P w) 1 T.a_index_in T.d_index_in ["ties", "one", "other"] (spD K cl F_index_in) :=
  fn_D (k := 0) (N := ["ties", "one", "other", "index"]) (g := g_index_in) T.F_index_in sc_index_in fun F cdv A outer s H E hr =>
    (rs_cons (rs_for (passes_of rfl) rfl (ri_range1 rfl T.n_range (ra_cons (re_callB cd_len rfl T.n_len bt_len (ra_cons (re_v 0) ra_nil)) ra_nil)) (rg_n 3 sc_index_in.nd) (rs_one (rs_if (rt_cmp (od_in (room65 hr)) (re_ix (room1 hr) (re_v 0) (re_v 3)) (re_tup (ra_cons (re_tup (ra_cons (re_v 1) (ra_cons (re_v 2) ra_nil))) (ra_cons (re_tup (ra_cons (re_v 2) (ra_cons (re_v 1) ra_nil))) ra_nil))) (by rfl)) (rs_one (rs_ret (re_v 3))) rs_nil)))
    (rs_one (rs_ret re_non)))
theorem bd_check_ties {K : PySem.W.Frag} {mg : Str → Option Value} {cl : Str → Addr} (T : Fx K mg cl) : Binds K T.d_check_ties ["ties", "places"] [] := T.F_check_ties.bindsN fun _ _ _ _ _ _ us hl => match us, hl with | [_, _], _ => rfl
theorem ok_check_ties {P : Program} {w : World} {K : PySem.W.Frag} {mg : Str → Option Value} {base : Heap} {cl : Str → Addr} (T : Fx K mg cl) : FnOk P w K mg base (L2N.CX P w) 3 T.a_check_ties T.d_check_ties ["ties", "places"] (spD K cl F_check_ties) :=
  fn_D (k := 2) (N := ["ties", "places", "index"]) (g := g_check_ties) T.F_check_ties sc_check_ties fun F cdv A outer s H E hr =>
    (rs_cons (rs_if (rt_not (rt_tru (re_isT T.clsx (re_v 0) rfl T.n_isinstance rfl T.n_tuple bt_tuple (by decide)))) (rs_one (rs_raise rfl (L2N.takes_of rfl rfl rfl rfl) T.er_InvalidTies T.ei_InvalidTies T.et_InvalidTies (ok_InvalidTies___init__ T) (hr.mono (by omega)) (bd_InvalidTies___init__ T) rfl T.c_InvalidTies re_non)) rs_nil)
    (rs_one (rs_for (passes_of rfl) rfl (ri_range1 rfl T.n_range (ra_cons (re_callB cd_len rfl T.n_len bt_len (ra_cons (re_v 0) ra_nil)) ra_nil)) (rg_n 2 sc_check_ties.nd) (rs_cons (rs_if (rt_w (rw_or (rt_cmp (od_eq (room64 hr)) (re_v 2) (re_gint rfl T.i_MOST_TIES) (nomark _)) (rw_or1 (rt_not (rt_tru (re_call (ok_is_tie T) (hr.mono (by omega)) (L2N.takes_of rfl rfl rfl rfl) rfl T.m_is_tie T.F_is_tie.kp (bd_is_tie T) (ra_cons (re_ix (room1 hr) (re_v 0) (re_v 2)) (ra_cons (re_v 1) ra_nil)))))))) (rs_one (rs_raise rfl (L2N.takes_of rfl rfl rfl rfl) T.er_InvalidTies T.ei_InvalidTies T.et_InvalidTies (ok_InvalidTies___init__ T) (hr.mono (by omega)) (bd_InvalidTies___init__ T) rfl T.c_InvalidTies (re_v 2))) rs_nil)
    (rs_one (rs_if (rt_cmp od_isNot (re_call (ok_index_in T) (hr.mono (by omega)) (L2N.takes_of rfl rfl rfl rfl) rfl T.m_index_in T.F_index_in.kp (bd_index_in T) (ra_cons (re_sl (re_v 0) ro_none (ro_some (re_v 2))) (ra_cons (re_ix (room1 hr) (re_ix (room1 hr) (re_v 0) (re_v 2)) re_int) (ra_cons (re_ix (room1 hr) (re_ix (room1 hr) (re_v 0) (re_v 2)) re_int) ra_nil)))) re_non (nomark _)) (rs_one (rs_raise rfl (L2N.takes_of rfl rfl rfl rfl) T.er_InvalidTies T.ei_InvalidTies T.et_InvalidTies (ok_InvalidTies___init__ T) (hr.mono (by omega)) (bd_InvalidTies___init__ T) rfl T.c_InvalidTies (re_v 2))) rs_nil))))))
theorem bd_Web___init__ {K : PySem.W.Frag} {mg : Str → Option Value} {cl : Str → Addr} (T : Fx K mg cl) : Binds K T.d_Web___init__ ["self", "places", "ties"] [] := T.F_Web___init__.bindsN fun _ _ _ _ _ _ us hl => match us, hl with | [_, _, _], _ => rfl
theorem kb_Web___init___0_ties_places {K : PySem.W.Frag} {mg : Str → Option Value} {cl : Str → Addr} (T : Fx K mg cl) : KBp K T.d_Web___init__ ["self", "places", "ties"] 1 ["ties", "places"] [0, 2, 1] := kb_p T.F_Web___init__ 1 ["ties", "places"] [0, 2, 1] fun _ _ _ _ _ _ us ws h1 h2 => match us, ws, h1, h2 with | [_], [_, _], _, _ => rfl
theorem ok_Web___init__ {P : Program} {w : World} {K : PySem.W.Frag} {mg : Str → Option Value} {base : Heap} {cl : Str → Addr} (T : Fx K mg cl) : FnOk P w K mg base (L2N.CX P w) 4 T.a_Web___init__ T.d_Web___init__ ["self", "places", "ties"] (spD K cl F_Web___init__) :=
  fn_D (k := 3) (N := ["self", "places", "ties"]) (g := g_Web___init__) T.F_Web___init__ sc_Web___init__ fun F cdv A outer s H E hr =>
    (rs_cons (rs_expr (re_call (ok_check_places T) (hr.mono (by omega)) (L2N.takes_of rfl rfl rfl rfl) rfl T.m_check_places T.F_check_places.kp (bd_check_places T) (ra_cons (re_v 1) ra_nil)))
    (rs_cons (rs_expr (re_call (ok_check_ties T) (hr.mono (by omega)) (L2N.takes_of rfl rfl rfl rfl) rfl T.m_check_ties T.F_check_ties.kp (bd_check_ties T) (ra_cons (re_v 2) (ra_cons (re_v 1) ra_nil))))
    (rs_one (rs_fld 0 (fun c hc => by rw [List.mem_singleton.mp hc]; exact ⟨T.cls_Web, T.at_Web_both⟩) (re_tup (ra_cons (re_v 1) (ra_cons (re_v 2) ra_nil)))))))
theorem bd_Web_ties {K : PySem.W.Frag} {mg : Str → Option Value} {cl : Str → Addr} (T : Fx K mg cl) : Binds K T.d_Web_ties ["self"] [] := T.F_Web_ties.bindsN fun _ _ _ _ _ _ us hl => match us, hl with | [_], _ => rfl
theorem ok_Web_ties {P : Program} {w : World} {K : PySem.W.Frag} {mg : Str → Option Value} {base : Heap} {cl : Str → Addr} (T : Fx K mg cl) : FnOk P w K mg base (L2N.CX P w) 1 T.a_Web_ties T.d_Web_ties ["self"] (spD K cl F_Web_ties) :=
  fn_D (k := 0) (N := ["self"]) (g := g_Web_ties) T.F_Web_ties sc_Web_ties fun F cdv A outer s H E hr =>
    (rs_one (rs_ret (re_ix (room1 hr) (re_fld (fun c hc => by rw [List.mem_singleton.mp hc]; exact ⟨T.cls_Web, T.at_Web_both⟩) (re_v 0)) re_int)))
theorem nx_Web_ties : ∀ d x j, F_Web_ties [.dat d] [] ≠ .exn x j := nx_fn (g := g_Web_ties) (by unfold g_Web_ties; exact nx_ret (nx_op (nx_fld nx_var) nx_c))
theorem bd__law_dip {K : PySem.W.Frag} {mg : Str → Option Value} {cl : Str → Addr} (T : Fx K mg cl) : Binds K T.d__law_dip ["_law_jar_here", "_law_most"] [] := T.F__law_dip.bindsN fun _ _ _ _ _ _ us hl => match us, hl with | [_, _], _ => rfl
theorem ok__law_dip {P : Program} {w : World} {K : PySem.W.Frag} {mg : Str → Option Value} {base : Heap} {cl : Str → Addr} (T : Fx K mg cl) : FnOk P w K mg base (L2N.CX P w) 1 T.a__law_dip T.d__law_dip ["_law_jar_here", "_law_most"] (spD K cl F__law_dip) :=
  fn_D (k := 0) (N := ["_law_jar_here", "_law_most", "_law_digit", "_law_seed"]) (g := g__law_dip) T.F__law_dip sc__law_dip fun F cdv A outer s H E hr =>
    (rs_cons (rs_setIx 0 re_int (re_op od_add (re_ix (room1 hr) (re_v 0) re_int) re_int))
    (rs_cons (rs_if (rt_cmp od_gt (re_ix (room1 hr) (re_v 0) re_int) re_int (nomark _)) (rs_cons (rs_asg sc__law_dip.nd (re_op od_mod (re_callTy cd_int rfl T.n_int bt_int (ra_cons (re_ix (room1 hr) (re_v 0) re_int) ra_nil)) (re_v 1)))
    (rs_cons (rs_setIx 0 re_int (re_op od_fdiv (re_callTy cd_int rfl T.n_int bt_int (ra_cons (re_ix (room1 hr) (re_v 0) re_int) ra_nil)) (re_v 1)))
    (rs_one (rs_ret (re_v 2))))) rs_nil)
    (rs_cons (rs_asg sc__law_dip.nd (re_callTy cd_int rfl T.n_int bt_int (ra_cons (re_ix (room1 hr) (re_v 0) re_int) ra_nil)))
    (rs_cons (rs_setIx 0 re_int (re_op od_mod (re_callTy cd_int rfl T.n_int bt_int (ra_cons (re_op od_add (re_op od_add (re_op od_mul (re_v 3) re_int) (re_op od_mul (re_ix (room1 hr) (re_v 0) re_int) re_int)) re_int) ra_nil)) re_int))
    (rs_one (rs_ret (re_op od_mod (re_callTy cd_int rfl T.n_int bt_int (ra_cons (re_op od_fdiv (re_ix (room1 hr) (re_v 0) re_int) re_int) ra_nil)) (re_v 1))))))))
theorem bd__law_names {K : PySem.W.Frag} {mg : Str → Option Value} {cl : Str → Addr} (T : Fx K mg cl) : Binds K T.d__law_names ["_law_jar_here", "_law_most"] [] := T.F__law_names.bindsN fun _ _ _ _ _ _ us hl => match us, hl with | [_, _], _ => rfl
theorem ok__law_names {P : Program} {w : World} {K : PySem.W.Frag} {mg : Str → Option Value} {base : Heap} {cl : Str → Addr} (T : Fx K mg cl) : FnOk P w K mg base (L2N.CX P w) 2 T.a__law_names T.d__law_names ["_law_jar_here", "_law_most"] (spD K cl F__law_names) :=
  fn_D (k := 1) (N := ["_law_jar_here", "_law_most", "_law_pool", "_law_at"]) (g := g__law_names) T.F__law_names sc__law_names fun F cdv A outer s H E hr =>
    (rs_cons (rs_asg sc__law_names.nd (re_lst (ra_cons re_str (ra_cons re_str (ra_cons re_str (ra_cons re_str (ra_cons re_str (ra_cons re_str (ra_cons re_str (ra_cons re_str (ra_cons re_str (ra_cons re_str (ra_cons re_str (ra_cons re_str ra_nil))))))))))))))
    (rs_cons (rs_asg sc__law_names.nd (re_callJ (ok__law_dip T) (hr.mono (by omega)) (L2N.takes_of rfl rfl rfl rfl) rfl T.m__law_dip T.F__law_dip.kp (bd__law_dip T) (ra_cons (re_v 0) (ra_cons re_int ra_nil))))
    (rs_one (rs_ret (re_sl (re_op od_add (re_sl (re_v 2) (ro_some (re_v 3)) ro_none) (re_sl (re_v 2) ro_none (ro_some (re_v 3)))) ro_none (ro_some (re_v 1)))))))
theorem bd__law_pick {K : PySem.W.Frag} {mg : Str → Option Value} {cl : Str → Addr} (T : Fx K mg cl) : Binds K T.d__law_pick ["_law_jar_here", "_law_menu"] [] := T.F__law_pick.bindsN fun _ _ _ _ _ _ us hl => match us, hl with | [_, _], _ => rfl
theorem ok__law_pick {P : Program} {w : World} {K : PySem.W.Frag} {mg : Str → Option Value} {base : Heap} {cl : Str → Addr} (T : Fx K mg cl) : FnOk P w K mg base (L2N.CX P w) 2 T.a__law_pick T.d__law_pick ["_law_jar_here", "_law_menu"] (spD K cl F__law_pick) :=
  fn_D (k := 1) (N := ["_law_jar_here", "_law_menu", "_law_at"]) (g := g__law_pick) T.F__law_pick sc__law_pick fun F cdv A outer s H E hr =>
    (rs_cons (rs_asg sc__law_pick.nd (re_callJ (ok__law_dip T) (hr.mono (by omega)) (L2N.takes_of rfl rfl rfl rfl) rfl T.m__law_dip T.F__law_dip.kp (bd__law_dip T) (ra_cons (re_v 0) (ra_cons (re_callB cd_len rfl T.n_len bt_len (ra_cons (re_v 1) ra_nil)) ra_nil))))
    (rs_one (rs_ret (re_ix (room1 hr) (re_v 1) (re_v 2)))))
theorem bd__law_net {K : PySem.W.Frag} {mg : Str → Option Value} {cl : Str → Addr} (T : Fx K mg cl) : Binds K T.d__law_net ["_law_jar_here", "_law_least", "_law_most", "_law_links_most"] [] := T.F__law_net.bindsN fun _ _ _ _ _ _ us hl => match us, hl with | [_, _, _, _], _ => rfl
theorem ok__law_net {P : Program} {w : World} {K : PySem.W.Frag} {mg : Str → Option Value} {base : Heap} {cl : Str → Addr} (T : Fx K mg cl) : FnOk P w K mg base (L2N.CX P w) 3 T.a__law_net T.d__law_net ["_law_jar_here", "_law_least", "_law_most", "_law_links_most"] (spD K cl F__law_net) :=
  fn_D (k := 2) (N := ["_law_jar_here", "_law_least", "_law_most", "_law_links_most", "_law_spots", "_law_pairs", "_law_found", "_law_k", "_law_other_spot", "_law_many_links", "_law_turn", "_law_at"]) (g := g__law_net) T.F__law_net sc__law_net fun F cdv A outer s H E hr =>
    (rs_cons (rs_asg sc__law_net.nd (re_callJ (ok__law_names T) (hr.mono (by omega)) (L2N.takes_of rfl rfl rfl rfl) rfl T.m__law_names T.F__law_names.kp (bd__law_names T) (ra_cons (re_v 0) (ra_cons (re_op od_add (re_v 1) (re_callJ (ok__law_dip T) (hr.mono (by omega)) (L2N.takes_of rfl rfl rfl rfl) rfl T.m__law_dip T.F__law_dip.kp (bd__law_dip T) (ra_cons (re_v 0) (ra_cons (re_op od_add (re_op od_sub (re_v 2) (re_v 1)) re_int) ra_nil)))) ra_nil))))
    (rs_cons (rs_par (i := 5) (j := 6) rfl sc__law_net.nd (rp_v (re_lst ra_nil)) (rp_n (rf_lst ra_nil)) (by rfl))
    (rs_cons (rs_for (passes_of rfl) rfl (ri_range1 rfl T.n_range (ra_cons (re_callB cd_len rfl T.n_len bt_len (ra_cons (re_v 4) ra_nil)) ra_nil)) (rg_n 7 sc__law_net.nd) (rs_one (rs_asg sc__law_net.nd (re_op od_add (re_v 5) (re_lc (own := [("_law_other_spot", 8)]) rfl sc__law_net.nd (ri_seq (re_sl (re_v 4) (ro_some (re_op od_add (re_v 7) re_int)) ro_none)) (blkOk_by (by kernel_rfl)) (fun _ _ _ _ _ => (rg_n 8 sc__law_net.nd)) (fun _ _ _ _ _ => rts_nil) (fun _ _ _ _ _ => (re_tup (ra_cons (re_ix (room1 hr) (re_v 4) (re_v 7)) (ra_cons (re_v 8) ra_nil)))))))))
    (rs_cons (rs_asg sc__law_net.nd (re_callB (cd_min2 rfl) rfl T.n_min bt_min (ra_cons (re_v 3) (ra_cons (re_op od_sub (re_op od_add (re_callB cd_len rfl T.n_len bt_len (ra_cons (re_v 5) ra_nil)) re_int) (re_callJ (ok__law_dip T) (hr.mono (by omega)) (L2N.takes_of rfl rfl rfl rfl) rfl T.m__law_dip T.F__law_dip.kp (bd__law_dip T) (ra_cons (re_v 0) (ra_cons (re_callJ (ok__law_pick T) (hr.mono (by omega)) (L2N.takes_of rfl rfl rfl rfl) rfl T.m__law_pick T.F__law_pick.kp (bd__law_pick T) (ra_cons (re_v 0) (ra_cons (re_lst (ra_cons re_int (ra_cons re_int (ra_cons (re_callB cd_len rfl T.n_len bt_len (ra_cons (re_v 5) ra_nil)) ra_nil)))) ra_nil))) ra_nil)))) ra_nil))))
    (rs_cons (rs_for (passes_of rfl) rfl (ri_range1 rfl T.n_range (ra_cons (re_callB (cd_min2 rfl) rfl T.n_min bt_min (ra_cons (re_v 9) (ra_cons (re_callB cd_len rfl T.n_len bt_len (ra_cons (re_v 5) ra_nil)) ra_nil))) ra_nil)) (rg_n 10 sc__law_net.nd) (rs_cons (rs_asg sc__law_net.nd (re_callJ (ok__law_dip T) (hr.mono (by omega)) (L2N.takes_of rfl rfl rfl rfl) rfl T.m__law_dip T.F__law_dip.kp (bd__law_dip T) (ra_cons (re_v 0) (ra_cons (re_callB cd_len rfl T.n_len bt_len (ra_cons (re_v 5) ra_nil)) ra_nil))))
    (rs_cons (rs_expr (re_app 6 (re_if (rt_cmp (od_eq (room64 hr)) (re_callJ (ok__law_dip T) (hr.mono (by omega)) (L2N.takes_of rfl rfl rfl rfl) rfl T.m__law_dip T.F__law_dip.kp (bd__law_dip T) (ra_cons (re_v 0) (ra_cons re_int ra_nil))) re_int (nomark _)) (re_ix (room1 hr) (re_v 5) (re_v 11)) (re_revT (re_ix (room1 hr) (re_v 5) (re_v 11))))))
    (rs_one (rs_asg sc__law_net.nd (re_op od_add (re_sl (re_v 5) ro_none (ro_some (re_v 11))) (re_sl (re_v 5) (ro_some (re_op od_add (re_v 11) re_int)) ro_none)))))))
    (rs_one (rs_ret (re_tup (ra_cons (re_callTy cd_tuple rfl T.n_tuple bt_tuple (ra_cons (re_v 4) ra_nil)) (ra_cons (re_callTy cd_tuple rfl T.n_tuple bt_tuple (ra_cons (re_v 6) ra_nil)) ra_nil))))))))))
theorem bd__law_odd {K : PySem.W.Frag} {mg : Str → Option Value} {cl : Str → Addr} (T : Fx K mg cl) : Binds K T.d__law_odd ["_law_jar_here"] [] := T.F__law_odd.bindsN fun _ _ _ _ _ _ us hl => match us, hl with | [_], _ => rfl
theorem ok__law_odd {P : Program} {w : World} {K : PySem.W.Frag} {mg : Str → Option Value} {base : Heap} {cl : Str → Addr} (T : Fx K mg cl) : FnOk P w K mg base (L2N.CX P w) 3 T.a__law_odd T.d__law_odd ["_law_jar_here"] (spD K cl F__law_odd) :=
  fn_D (k := 2) (N := ["_law_jar_here", "_law_menu"]) (g := g__law_odd) T.F__law_odd sc__law_odd fun F cdv A outer s H E hr =>
    (rs_cons (rs_asg sc__law_odd.nd (re_lst (ra_cons re_non (ra_cons re_bl (ra_cons re_bl (ra_cons re_int (ra_cons re_int (ra_cons (re_neg re_int) (ra_cons re_int (ra_cons (re_op od_pow re_int re_int) (ra_cons re_str (ra_cons re_str ra_nil))))))))))))
    (rs_cons (rs_asg sc__law_odd.nd (re_op od_add (re_v 1) (re_lst (ra_cons re_str (ra_cons re_str (ra_cons (re_tup ra_nil) (ra_cons (re_tup (ra_cons re_int ra_nil)) (ra_cons (re_tup (ra_cons re_str ra_nil)) (ra_cons (re_tup (ra_cons re_str (ra_cons re_str ra_nil))) (ra_cons (re_lst (ra_cons re_str (ra_cons re_str ra_nil))) (ra_cons (re_lst ra_nil) (ra_cons (re_ofF rf_dct) ra_nil))))))))))))
    (rs_one (rs_ret (re_callJ (ok__law_pick T) (hr.mono (by omega)) (L2N.takes_of rfl rfl rfl rfl) rfl T.m__law_pick T.F__law_pick.kp (bd__law_pick T) (ra_cons (re_v 0) (ra_cons (re_op od_add (re_v 1) (re_lst (ra_cons (re_ofF (rf_dct1 re_str re_int)) (ra_cons (re_tup (ra_cons re_non (ra_cons re_int ra_nil))) (ra_cons re_str (ra_cons (re_tup (ra_cons (re_tup (ra_cons re_str (ra_cons re_str ra_nil))) ra_nil)) (ra_cons (re_tup (ra_cons re_str (ra_cons re_str ra_nil))) (ra_cons (re_lst (ra_cons (re_lst ra_nil) ra_nil)) (ra_cons re_str (ra_cons (re_tup (ra_cons (re_tup ra_nil) ra_nil)) ra_nil)))))))))) ra_nil)))))))
theorem bd__law_put_in {K : PySem.W.Frag} {mg : Str → Option Value} {cl : Str → Addr} (T : Fx K mg cl) : Binds K T.d__law_put_in ["_law_jar_here", "_law_things", "_law_odd_one"] [] := T.F__law_put_in.bindsN fun _ _ _ _ _ _ us hl => match us, hl with | [_, _, _], _ => rfl
theorem ok__law_put_in {P : Program} {w : World} {K : PySem.W.Frag} {mg : Str → Option Value} {base : Heap} {cl : Str → Addr} (T : Fx K mg cl) : FnOk P w K mg base (L2N.CX P w) 2 T.a__law_put_in T.d__law_put_in ["_law_jar_here", "_law_things", "_law_odd_one"] (spD K cl F__law_put_in) :=
  fn_D (k := 1) (N := ["_law_jar_here", "_law_things", "_law_odd_one", "_law_at", "_law_way"]) (g := g__law_put_in) T.F__law_put_in sc__law_put_in fun F cdv A outer s H E hr =>
    (rs_cons (rs_par (i := 3) (j := 4) rfl sc__law_put_in.nd (rp_v (re_callJ (ok__law_dip T) (hr.mono (by omega)) (L2N.takes_of rfl rfl rfl rfl) rfl T.m__law_dip T.F__law_dip.kp (bd__law_dip T) (ra_cons (re_v 0) (ra_cons (re_op od_add (re_callB cd_len rfl T.n_len bt_len (ra_cons (re_v 1) ra_nil)) re_int) ra_nil)))) (rp_v (re_callJ (ok__law_dip T) (hr.mono (by omega)) (L2N.takes_of rfl rfl rfl rfl) rfl T.m__law_dip T.F__law_dip.kp (bd__law_dip T) (ra_cons (re_v 0) (ra_cons re_int ra_nil)))) (by rfl))
    (rs_cons (rs_if (rt_cmp (od_eq (room64 hr)) (re_v 4) re_int (nomark _)) (rs_one (rs_ret (re_op od_add (re_op od_add (re_sl (re_v 1) ro_none (ro_some (re_v 3))) (re_tup (ra_cons (re_v 2) ra_nil))) (re_sl (re_v 1) (ro_some (re_v 3)) ro_none)))) rs_nil)
    (rs_one (rs_ret (re_if (rt_cmp (od_eq (room64 hr)) (re_v 4) re_int (nomark _)) (re_op od_add (re_op od_add (re_sl (re_v 1) ro_none (ro_some (re_v 3))) (re_tup (ra_cons (re_v 2) ra_nil))) (re_sl (re_v 1) (ro_some (re_op od_add (re_v 3) re_int)) ro_none)) (re_v 1))))))
theorem bd__law_is_name {K : PySem.W.Frag} {mg : Str → Option Value} {cl : Str → Addr} (T : Fx K mg cl) : Binds K T.d__law_is_name ["_law_value"] [] := T.F__law_is_name.bindsN fun _ _ _ _ _ _ us hl => match us, hl with | [_], _ => rfl
theorem ok__law_is_name {P : Program} {w : World} {K : PySem.W.Frag} {mg : Str → Option Value} {base : Heap} {cl : Str → Addr} (T : Fx K mg cl) : FnOk P w K mg base (L2N.CX P w) 1 T.a__law_is_name T.d__law_is_name ["_law_value"] (spD K cl F__law_is_name) :=
  fn_D (k := 0) (N := ["_law_value", "_law_letters", "_law_glyph"]) (g := g__law_is_name) T.F__law_is_name sc__law_is_name fun F cdv A outer s H E hr =>
    (rs_cons (rs_asg sc__law_is_name.nd re_str)
    (rs_one (rs_ret (re_and (re_isT T.clsx (re_v 0) rfl T.n_isinstance rfl T.n_str bt_str (by decide)) (re_and (re_chain od_lt od_lt re_int (re_callB cd_len rfl T.n_len bt_len (ra_cons (re_v 0) ra_nil)) re_int) (re_one (re_callB (cd_all rfl) rfl T.n_all bt_all (ra_cons (re_lc (own := [("_law_glyph", 2)]) rfl sc__law_is_name.nd (ri_seq (re_v 0)) (blkOk_by (by kernel_rfl)) (fun _ _ _ _ _ => (rg_n 2 sc__law_is_name.nd)) (fun _ _ _ _ _ => rts_nil) (fun _ _ _ _ _ => (re_cmp (od_in (room65 hr)) (re_v 2) (re_v 1) (by rfl)))) ra_nil))))))))
theorem bd__law_spots_slip {K : PySem.W.Frag} {mg : Str → Option Value} {cl : Str → Addr} (T : Fx K mg cl) : Binds K T.d__law_spots_slip ["_law_spots"] [] := T.F__law_spots_slip.bindsN fun _ _ _ _ _ _ us hl => match us, hl with | [_], _ => rfl
theorem ok__law_spots_slip {P : Program} {w : World} {K : PySem.W.Frag} {mg : Str → Option Value} {base : Heap} {cl : Str → Addr} (T : Fx K mg cl) : FnG P w K mg base 2 T.a__law_spots_slip T.d__law_spots_slip ["_law_spots"] (spD K cl F__law_spots_slip) :=
  fnG_D (k := 1) (N := ["_law_spots", "_law_k"]) (g := g__law_spots_slip) T.F__law_spots_slip sc__law_spots_slip fun F cdv A outer s H E hr hG =>
    (rs_cons (rs_if (rt_w (rw_or (rt_not (rt_tru (re_isT T.clsx (re_v 0) rfl T.n_isinstance rfl T.n_tuple bt_tuple (by decide)))) (rw_or1 (rt_cmp od_lt (re_callB cd_len rfl T.n_len bt_len (ra_cons (re_v 0) ra_nil)) re_int (nomark _))))) (rs_one (rs_ret (re_lst (ra_cons re_str (ra_cons re_str ra_nil))))) rs_nil)
    (rs_cons (rs_for (passes_of rfl) rfl (ri_range1 rfl T.n_range (ra_cons (re_callB cd_len rfl T.n_len bt_len (ra_cons (re_v 0) ra_nil)) ra_nil)) (rg_n 1 sc__law_spots_slip.nd) (rs_one (rs_if (rt_w (rw_or (rt_cmp (od_eq (room64 hr)) (re_v 1) re_int (nomark _)) (rw_or (rt_not (rt_tru (re_call (ok__law_is_name T) (hr.mono (by omega)) (L2N.takes_of rfl rfl rfl rfl) rfl T.m__law_is_name T.F__law_is_name.kp (bd__law_is_name T) (ra_cons (re_ix (room1 hr) (re_v 0) (re_v 1)) ra_nil)))) (rw_or1 (rt_cmp (od_in (room65 hr)) (re_ix (room1 hr) (re_v 0) (re_v 1)) (re_sl (re_v 0) ro_none (ro_some (re_v 1))) (by rfl)))))) (rs_one (rs_ret (re_lst (ra_cons re_str (ra_cons (re_callB (cd_repr2 hG (room64 hr)) rfl T.n_repr bt_repr (ra_cons (re_v 1) ra_nil)) ra_nil))))) rs_nil)))
    (rs_one (rs_ret (re_lst ra_nil)))))
theorem bd__law_links_slip {K : PySem.W.Frag} {mg : Str → Option Value} {cl : Str → Addr} (T : Fx K mg cl) : Binds K T.d__law_links_slip ["_law_spots", "_law_links"] [] := T.F__law_links_slip.bindsN fun _ _ _ _ _ _ us hl => match us, hl with | [_, _], _ => rfl
theorem ok__law_links_slip {P : Program} {w : World} {K : PySem.W.Frag} {mg : Str → Option Value} {base : Heap} {cl : Str → Addr} (T : Fx K mg cl) : FnG P w K mg base 1 T.a__law_links_slip T.d__law_links_slip ["_law_spots", "_law_links"] (spD K cl F__law_links_slip) :=
  fnG_D (k := 0) (N := ["_law_spots", "_law_links", "_law_k", "_law_link", "_law_spot"]) (g := g__law_links_slip) T.F__law_links_slip sc__law_links_slip fun F cdv A outer s H E hr hG =>
    (rs_cons (rs_if (rt_not (rt_tru (re_isT T.clsx (re_v 1) rfl T.n_isinstance rfl T.n_tuple bt_tuple (by decide)))) (rs_one (rs_ret (re_lst (ra_cons re_str (ra_cons re_str ra_nil))))) rs_nil)
    (rs_cons (rs_for (passes_of rfl) rfl (ri_range1 rfl T.n_range (ra_cons (re_callB cd_len rfl T.n_len bt_len (ra_cons (re_v 1) ra_nil)) ra_nil)) (rg_n 2 sc__law_links_slip.nd) (rs_cons (rs_asg sc__law_links_slip.nd (re_ix (room1 hr) (re_v 1) (re_v 2)))
    (rs_cons (rs_if (rt_w (rw_or (rt_cmp (od_eq (room64 hr)) (re_v 2) re_int (nomark _)) (rw_or (rt_not (rt_tru (re_isT T.clsx (re_v 3) rfl T.n_isinstance rfl T.n_tuple bt_tuple (by decide)))) (rw_or1 (rt_cmp (od_ne (room64 hr)) (re_callB cd_len rfl T.n_len bt_len (ra_cons (re_v 3) ra_nil)) re_int (nomark _)))))) (rs_one (rs_ret (re_lst (ra_cons re_str (ra_cons (re_callB (cd_repr2 hG (room64 hr)) rfl T.n_repr bt_repr (ra_cons (re_v 2) ra_nil)) ra_nil))))) rs_nil)
    (rs_cons (rs_if (rt_w (rw_or (rt_not (rt_tru (re_callB (cd_all rfl) rfl T.n_all bt_all (ra_cons (re_lc (own := [("_law_spot", 4)]) rfl sc__law_links_slip.nd (ri_seq (re_v 3)) (blkOk_by (by kernel_rfl)) (fun _ _ _ _ _ => (rg_n 4 sc__law_links_slip.nd)) (fun _ _ _ _ _ => rts_nil) (fun _ _ _ _ _ => (re_and (re_isT T.clsx (re_v 4) rfl T.n_isinstance rfl T.n_str bt_str (by decide)) (re_one (re_cmp (od_in (room65 hr)) (re_v 4) (re_v 0) (by rfl)))))) ra_nil)))) (rw_or1 (rt_cmp (od_eq (room64 hr)) (re_ix (room1 hr) (re_v 3) re_int) (re_ix (room1 hr) (re_v 3) re_int) (nomark _))))) (rs_one (rs_ret (re_lst (ra_cons re_str (ra_cons (re_callB (cd_repr2 hG (room64 hr)) rfl T.n_repr bt_repr (ra_cons (re_v 2) ra_nil)) ra_nil))))) rs_nil)
    (rs_one (rs_if (rt_w (rw_or (rt_cmp (od_in (room65 hr)) (re_v 3) (re_sl (re_v 1) ro_none (ro_some (re_v 2))) (by rfl)) (rw_or1 (rt_cmp (od_in (room65 hr)) (re_revT (re_v 3)) (re_sl (re_v 1) ro_none (ro_some (re_v 2))) (by rfl))))) (rs_one (rs_ret (re_lst (ra_cons re_str (ra_cons (re_callB (cd_repr2 hG (room64 hr)) rfl T.n_repr bt_repr (ra_cons (re_v 2) ra_nil)) ra_nil))))) rs_nil))))))
    (rs_one (rs_ret (re_lst ra_nil)))))
theorem bd__law_right {K : PySem.W.Frag} {mg : Str → Option Value} {cl : Str → Addr} (T : Fx K mg cl) : Binds K T.d__law_right ["_law_jar_here"] [] := T.F__law_right.bindsN fun _ _ _ _ _ _ us hl => match us, hl with | [_], _ => rfl
theorem ok__law_right {P : Program} {w : World} {K : PySem.W.Frag} {mg : Str → Option Value} {base : Heap} {cl : Str → Addr} (T : Fx K mg cl) (tb : ∀ p ∈ T.cs, LamX.TabB base mg p.1 p.2) : FnG P w K mg base 8 T.a__law_right T.d__law_right ["_law_jar_here"] (spT K cl 1 (T.cs.map (·.2)) F__law_right) :=
  fn_T (k := 7) (N := ["_law_jar_here", "_law_turn", "_law_net_here", "_law_odd_spot", "_law_spots", "_law_odd_link", "_law_links", "_law_due", "_law_told"]) (g := g__law_right) T.F__law_right sc__law_right fun F js0 cdv A outer s H E hcd hF hn hr hG =>
    (rs_cons (rs_for (passes_of rfl) rfl (ri_range1 rfl T.n_range (ra_cons re_int ra_nil)) (rg_n 1 sc__law_right.nd) (rs_cons (rs_asg sc__law_right.nd (re_callJ (ok__law_net T) (hr.mono (by omega)) (L2N.takes_of rfl rfl rfl rfl) rfl T.m__law_net T.F__law_net.kp (bd__law_net T) (ra_cons (re_v 0) (ra_cons re_int (ra_cons (re_callJ (ok__law_pick T) (hr.mono (by omega)) (L2N.takes_of rfl rfl rfl rfl) rfl T.m__law_pick T.F__law_pick.kp (bd__law_pick T) (ra_cons (re_v 0) (ra_cons (re_lst (ra_cons re_int (ra_cons re_int ra_nil))) ra_nil))) (ra_cons re_int ra_nil))))))
    (rs_cons (rs_asg sc__law_right.nd (re_callJ (ok__law_pick T) (hr.mono (by omega)) (L2N.takes_of rfl rfl rfl rfl) rfl T.m__law_pick T.F__law_pick.kp (bd__law_pick T) (ra_cons (re_v 0) (ra_cons (re_lst (ra_cons re_str (ra_cons re_str (ra_cons re_str (ra_cons re_str (ra_cons re_str (ra_cons (re_ix (room1 hr) (re_ix (room1 hr) (re_v 2) re_int) re_int) (ra_cons re_str (ra_cons (re_callJ (ok__law_odd T) (hr.mono (by omega)) (L2N.takes_of rfl rfl rfl rfl) rfl T.m__law_odd T.F__law_odd.kp (bd__law_odd T) (ra_cons (re_v 0) ra_nil)) ra_nil))))))))) ra_nil))))
    (rs_cons (rs_asg sc__law_right.nd (re_callJ (ok__law_put_in T) (hr.mono (by omega)) (L2N.takes_of rfl rfl rfl rfl) rfl T.m__law_put_in T.F__law_put_in.kp (bd__law_put_in T) (ra_cons (re_v 0) (ra_cons (re_ix (room1 hr) (re_v 2) re_int) (ra_cons (re_v 3) ra_nil)))))
    (rs_cons (rs_asg sc__law_right.nd (re_callJ (ok__law_pick T) (hr.mono (by omega)) (L2N.takes_of rfl rfl rfl rfl) rfl T.m__law_pick T.F__law_pick.kp (bd__law_pick T) (ra_cons (re_v 0) (ra_cons (re_lst (ra_cons (re_v 4) (ra_cons (re_v 4) (ra_cons (re_v 4) (ra_cons (re_callTy cd_list rfl T.n_list bt_list (ra_cons (re_v 4) ra_nil)) (ra_cons (re_sl (re_v 4) ro_none (ro_some re_int)) (ra_cons (re_tup ra_nil) (ra_cons (re_callTy (cd_tupleS rfl) rfl T.n_tuple bt_tuple (ra_cons re_str ra_nil)) (ra_cons re_str (ra_cons re_non ra_nil)))))))))) ra_nil))))
    (rs_cons (rs_asg sc__law_right.nd (re_lst (ra_cons (re_ix (room1 hr) (re_v 2) re_int) (ra_cons (re_op od_mul (re_tup (ra_cons (re_ix (room1 hr) (re_ix (room1 hr) (re_v 2) re_int) re_int) ra_nil)) re_int) (ra_cons (re_tup (ra_cons (re_ix (room1 hr) (re_ix (room1 hr) (re_v 2) re_int) re_int) (ra_cons re_str ra_nil))) ra_nil)))))
    (rs_cons (rs_asg sc__law_right.nd (re_op od_add (re_v 5) (re_lst (ra_cons (re_tup (ra_cons re_str (ra_cons re_str ra_nil))) (ra_cons (re_tup (ra_cons (re_ix (room1 hr) (re_ix (room1 hr) (re_v 2) re_int) re_int) (ra_cons (re_ix (room1 hr) (re_ix (room1 hr) (re_v 2) re_int) re_int) ra_nil))) (ra_cons (re_sl (re_ix (room1 hr) (re_v 2) re_int) ro_none (ro_some re_int)) ra_nil))))))
    (rs_cons (rs_asg sc__law_right.nd (re_callJ (ok__law_put_in T) (hr.mono (by omega)) (L2N.takes_of rfl rfl rfl rfl) rfl T.m__law_put_in T.F__law_put_in.kp (bd__law_put_in T) (ra_cons (re_v 0) (ra_cons (re_ix (room1 hr) (re_v 2) re_int) (ra_cons (re_callJ (ok__law_pick T) (hr.mono (by omega)) (L2N.takes_of rfl rfl rfl rfl) rfl T.m__law_pick T.F__law_pick.kp (bd__law_pick T) (ra_cons (re_v 0) (ra_cons (re_op od_add (re_v 5) (re_lst (ra_cons (re_callTy cd_list rfl T.n_list bt_list (ra_cons (re_sl (re_ix (room1 hr) (re_v 2) re_int) ro_none (ro_some re_int)) ra_nil)) (ra_cons (re_tup (ra_cons re_non (ra_cons (re_ix (room1 hr) (re_ix (room1 hr) (re_v 2) re_int) re_int) ra_nil))) (ra_cons (re_callJ (ok__law_odd T) (hr.mono (by omega)) (L2N.takes_of rfl rfl rfl rfl) rfl T.m__law_odd T.F__law_odd.kp (bd__law_odd T) (ra_cons (re_v 0) ra_nil)) ra_nil))))) ra_nil))) ra_nil)))))
    (rs_cons (rs_asg sc__law_right.nd (re_callJ (ok__law_put_in T) (hr.mono (by omega)) (L2N.takes_of rfl rfl rfl rfl) rfl T.m__law_put_in T.F__law_put_in.kp (bd__law_put_in T) (ra_cons (re_v 0) (ra_cons (re_v 6) (ra_cons (re_callJ (ok__law_pick T) (hr.mono (by omega)) (L2N.takes_of rfl rfl rfl rfl) rfl T.m__law_pick T.F__law_pick.kp (bd__law_pick T) (ra_cons (re_v 0) (ra_cons (re_op od_add (re_callTy cd_list rfl T.n_list bt_list (ra_cons (re_v 6) ra_nil)) (re_lst (ra_cons (re_sl (re_ix (room1 hr) (re_v 2) re_int) ro_none (ro_some re_int)) ra_nil))) ra_nil))) ra_nil)))))
    (rs_cons (rs_asg sc__law_right.nd (re_callJ (ok__law_pick T) (hr.mono (by omega)) (L2N.takes_of rfl rfl rfl rfl) rfl T.m__law_pick T.F__law_pick.kp (bd__law_pick T) (ra_cons (re_v 0) (ra_cons (re_lst (ra_cons (re_v 6) (ra_cons (re_v 6) (ra_cons (re_v 6) (ra_cons (re_v 6) (ra_cons (re_callTy cd_list rfl T.n_list bt_list (ra_cons (re_v 6) ra_nil)) (ra_cons re_non (ra_cons re_str (ra_cons (re_ofF rf_dct) ra_nil))))))))) ra_nil))))
    (rs_cons (rs_asg sc__law_right.nd (re_callG (ok__law_spots_slip T) hG (hr.mono (by omega)) (L2N.takes_of rfl rfl rfl rfl) rfl T.m__law_spots_slip T.F__law_spots_slip.kp (bd__law_spots_slip T) (ra_cons (re_v 4) ra_nil)))
    (rs_cons (rs_asg sc__law_right.nd (re_if (rt_cmp (od_ne (room64 hr)) (re_v 7) (re_lst ra_nil) (nomark _)) (re_v 7) (re_callG (ok__law_links_slip T) hG (hr.mono (by omega)) (L2N.takes_of rfl rfl rfl rfl) rfl T.m__law_links_slip T.F__law_links_slip.kp (bd__law_links_slip T) (ra_cons (re_v 4) (ra_cons (re_v 6) ra_nil)))))
    (rs_cons (rs_asg sc__law_right.nd (re_lam 1 (js_at (i := 0) hF hn rfl) (tb (T.C__law_right, T.P__law_right) (by simp [Fx.cs])) (hcd.trans T.fc__law_right) rfl T.m__law_caught T.F__law_caught.kp (ok__law_caught T 6 (by omega)) (bd__law_caught T) (hr.mono (by omega)) hG (kl := 5) (by omega) (LamX.lamS_by (sc := defScope S__law_right) (by decide +kernel)) rfl (fun _ _ _ _ _ => rfl) (fun F A outer s H E f c' hr => (re_makeK0 (ks := ["ties", "places"]) (p := [1, 0]) T.mk_Web (ok_Web___init__ T) (hr.mono (by omega)) lamC_takes si0 rfl T.c_Web (kb_Web___init___0_ties_places T) (rk_cons (re_v 6) (rk_cons (re_v 4) rk_nil))))))
    (rs_one (rs_if (rt_w (rw_or (rt_w (rw_and (rt_cmp (od_ne (room64 hr)) (re_v 7) (re_lst ra_nil) (nomark _)) (rw_and1 (rt_cmp (od_ne (room64 hr)) (re_v 8) (re_v 7) (nomark _))))) (rw_or1 (rt_w (rw_and (rt_cmp (od_eq (room64 hr)) (re_v 7) (re_lst ra_nil) (nomark _)) (rw_and1 (rt_cmp (od_ne (room64 hr)) (re_ix (room1 hr) (re_v 8) re_int) re_str (nomark _)))))))) (rs_one (rs_ret re_bl)) rs_nil)))))))))))))))
    (rs_one (rs_ret re_bl)))
theorem bd__law_jar {K : PySem.W.Frag} {mg : Str → Option Value} {cl : Str → Addr} (T : Fx K mg cl) : Binds K T.d__law_jar ["_law_script", "_law_k"] [] := T.F__law_jar.bindsN fun _ _ _ _ _ _ us hl => match us, hl with | [_, _], _ => rfl
theorem ok__law_jar {P : Program} {w : World} {K : PySem.W.Frag} {mg : Str → Option Value} {base : Heap} {cl : Str → Addr} (T : Fx K mg cl) : FnOk P w K mg base (L2N.CX P w) 1 T.a__law_jar T.d__law_jar ["_law_script", "_law_k"] (spN K cl F__law_jar) :=
  fn_N (k := 0) (N := ["_law_script", "_law_k", "_law_mixed", "_law_cell", "_law_own", "_law_digits"]) (g := g__law_jar) T.F__law_jar sc__law_jar fun F cdv A outer s H E hr =>
    (rn_cons (rs_asg sc__law_jar.nd (re_op od_add (re_op od_mul (re_op od_mul re_int (re_op od_add (re_v 1) re_int)) (re_op od_add (re_v 1) re_int)) (re_op od_mul re_int (re_callB cd_len rfl T.n_len bt_len (ra_cons (re_v 0) ra_nil)))))
    (rn_cons (rs_for (passes_of rfl) rfl (ri_seq (re_sl (re_v 0) ro_none (ro_some re_int))) (rg_n 3 sc__law_jar.nd) (rs_one (rs_asg sc__law_jar.nd (re_op od_mod (re_callTy cd_int rfl T.n_int bt_int (ra_cons (re_op od_add (re_op od_mul (re_v 2) re_int) (re_v 3)) ra_nil)) re_int))))
    (rn_cons (rs_asg sc__law_jar.nd (re_if (rt_cmp od_lt (re_v 1) (re_callB cd_len rfl T.n_len bt_len (ra_cons (re_v 0) ra_nil)) (nomark _)) (re_ix (room1 hr) (re_v 0) (re_v 1)) re_int))
    (rn_cons (rs_asg sc__law_jar.nd (re_if (rt_w (rw_or (rt_cmp od_lt (re_v 4) re_int (nomark _)) (rw_or1 (rt_cmp od_ge (re_v 4) (re_op od_pow re_int re_int) (nomark _))))) (re_callB cd_abs rfl T.n_abs bt_abs (ra_cons (re_v 4) ra_nil)) re_int))
    (rn_ret (rf_lst (ra_cons (re_v 5) (ra_cons (re_op od_mod (re_callTy cd_int rfl T.n_int bt_int (ra_cons (re_op od_add (re_op od_add (re_op od_mul (re_v 2) re_int) (re_op od_mul (re_v 4) re_int)) (re_op od_mul re_int (re_op od_add (re_v 1) re_int))) ra_nil)) re_int) (ra_cons re_int ra_nil)))))))))
theorem bd_law {K : PySem.W.Frag} {mg : Str → Option Value} {cl : Str → Addr} (T : Fx K mg cl) : Binds K T.d_law ["_law_script"] [] := T.F_law.bindsN fun _ _ _ _ _ _ us hl => match us, hl with | [_], _ => rfl
theorem ok_law {P : Program} {w : World} {K : PySem.W.Frag} {mg : Str → Option Value} {base : Heap} {cl : Str → Addr} (T : Fx K mg cl) (tb : ∀ p ∈ T.cs, LamX.TabB base mg p.1 p.2) : FnG P w K mg base 9 T.a_law T.d_law ["_law_script"] (spT K cl 0 (T.cs.map (·.2)) F_law) :=
  fn_T (k := 8) (N := ["_law_script", "_law_spots", "_law_links", "_law_spot", "_law_k"]) (g := g_law) T.F_law sc_law fun F js0 cdv A outer s H E hcd hF hn hr hG =>
    (rs_cons (rs_asg sc_law.nd (re_callTy (cd_tupleS rfl) rfl T.n_tuple bt_tuple (ra_cons re_str ra_nil)))
    (rs_cons (rs_asg sc_law.nd (re_callTy cd_tuple rfl T.n_tuple bt_tuple (ra_cons (re_op od_add (re_op od_add (re_lc (own := [("_law_spot", 3)]) rfl sc_law.nd (ri_seq (re_sl (re_v 1) (ro_some re_int) ro_none)) (blkOk_by (by kernel_rfl)) (fun _ _ _ _ _ => (rg_n 3 sc_law.nd)) (fun _ _ _ _ _ => rts_nil) (fun _ _ _ _ _ => (re_tup (ra_cons re_str (ra_cons (re_v 3) ra_nil))))) (re_lc (own := [("_law_spot", 3)]) rfl sc_law.nd (ri_seq (re_sl (re_v 1) (ro_some re_int) ro_none)) (blkOk_by (by kernel_rfl)) (fun _ _ _ _ _ => (rg_n 3 sc_law.nd)) (fun _ _ _ _ _ => rts_nil) (fun _ _ _ _ _ => (re_tup (ra_cons re_str (ra_cons (re_v 3) ra_nil)))))) (re_lst (ra_cons (re_tup (ra_cons re_str (ra_cons re_str ra_nil))) (ra_cons (re_tup (ra_cons re_str (ra_cons re_str ra_nil))) ra_nil)))) ra_nil)))
    (rs_cons (rs_if (rt_w (rw_or (rt_cmp (od_ne (room64 hr)) (re_lam 1 (js_at (i := 1) hF hn rfl) (tb (T.C_law, T.P_law) (by simp [Fx.cs])) (hcd.trans T.fc_law) rfl T.m__law_caught T.F__law_caught.kp (ok__law_caught T 6 (by omega)) (bd__law_caught T) (hr.mono (by omega)) hG (kl := 5) (by omega) (LamX.lamS_by (sc := defScope S_law) (by decide +kernel)) rfl (fun _ _ _ _ _ => rfl) (fun F A outer s H E f c' hr => (re_make T.mk_Web (ok_Web___init__ T) (hr.mono (by omega)) lamC_takes si0 rfl T.c_Web (bd_Web___init__ T) (ra_cons (re_v 1) (ra_cons (re_v 2) ra_nil))))) (re_lst (ra_cons re_str (ra_cons re_str ra_nil))) (nomark _)) (rw_or1 (rt_cmp (od_ne (room64 hr)) (re_callB cd_len rfl T.n_len bt_len (ra_cons (re_prop T.cls_Web T.pr_Web_ties (ok_Web_ties T) (hr.mono (by omega)) (bd_Web_ties T) nx_Web_ties (re_make T.mk_Web (ok_Web___init__ T) (hr.mono (by omega)) (L2N.takes_of rfl rfl rfl rfl) si0 rfl T.c_Web (bd_Web___init__ T) (ra_cons (re_v 1) (ra_cons (re_sl (re_v 2) ro_none (ro_some re_int)) ra_nil)))) ra_nil)) re_int (nomark _))))) (rs_one (rs_ret re_bl)) rs_nil)
    (rs_cons (rs_for (passes_of rfl) rfl (ri_range1 rfl T.n_range (ra_cons (re_callB (cd_max2 rfl) rfl T.n_max bt_max (ra_cons re_int (ra_cons (re_callB (cd_min2 rfl) rfl T.n_min bt_min (ra_cons (re_callB cd_len rfl T.n_len bt_len (ra_cons (re_v 0) ra_nil)) (ra_cons re_int ra_nil))) ra_nil))) ra_nil)) (rg_n 4 sc_law.nd) (rs_one (rs_if (rt_not (rt_tru (re_callTT hF hn (ok__law_right T tb) hG (hr.mono (by omega)) (L2N.takes_of rfl rfl rfl rfl) rfl T.m__law_right T.F__law_right.kp (bd__law_right T) (rf_call (ok__law_jar T) (hr.mono (by omega)) (L2N.takes_of rfl rfl rfl rfl) rfl T.m__law_jar T.F__law_jar.kp (bd__law_jar T) (ra_cons (re_v 0) (ra_cons (re_v 4) ra_nil)))))) (rs_one (rs_ret re_bl)) rs_nil)))
    (rs_one (rs_ret re_bl))))))
/-! the head -/
def fa : List He.Fa := [.free "ArithmeticError", .free "LookupError", .free "ValueError", .free "abs", .free "all", .free "int", .free "isinstance", .free "len", .free "list", .free "max", .free "min", .free "range", .free "repr", .free "str", .free "tuple", .int "LONGEST" 8, .int "MOST_PLACES" 9, .int "MOST_TIES" 16, .str "SMALL" "abcdefghijklmnopqrstuvwxyz", .glo "_law_bases", .glo "_law_shown", .glo "_law_caught", .glo "is_name", .glo "check_places", .glo "is_pair", .glo "is_tie", .glo "index_in", .glo "check_ties", .glo "_law_dip", .glo "_law_names", .glo "_law_pick", .glo "_law_net", .glo "_law_odd", .glo "_law_put_in", .glo "_law_is_name", .glo "_law_spots_slip", .glo "_law_links_slip", .glo "_law_right", .glo "_law_jar", .glo "law", .glo "Web", .cls "Web", .glo "InvalidPlaces", .glo "InvalidTies", .glo "NotPossible", .glo "WrongName", .glo "WrongValue", .mkr "Web", .noat "Web" "both"]
def fc : List Fc := [.own "InvalidPlaces" "InvalidPlaces" (hitE "InvalidPlaces" "InvalidPlaces"), .own "InvalidTies" "InvalidPlaces" (hitE "InvalidTies" "InvalidPlaces"), .own "InvalidPlaces" "InvalidTies" (hitE "InvalidPlaces" "InvalidTies"), .own "InvalidTies" "InvalidTies" (hitE "InvalidTies" "InvalidTies"), .own "InvalidPlaces" "NotPossible" (hitE "InvalidPlaces" "NotPossible"), .own "InvalidTies" "NotPossible" (hitE "InvalidTies" "NotPossible"), .own "InvalidPlaces" "WrongName" (hitE "InvalidPlaces" "WrongName"), .own "InvalidTies" "WrongName" (hitE "InvalidTies" "WrongName"), .own "InvalidPlaces" "WrongValue" (hitE "InvalidPlaces" "WrongValue"), .own "InvalidTies" "WrongValue" (hitE "InvalidTies" "WrongValue"), .prp "Web" "ties", .ins "Web", .own "Web" "Web" true]
def e__law_bases : Df := ⟨.g "_law_bases", "_law_bases", "_law_bases", defArgs S__law_bases, defBody S__law_bases, defScope S__law_bases⟩
def e__law_shown : Df := ⟨.g "_law_shown", "_law_shown", "_law_shown", defArgs S__law_shown, defBody S__law_shown, defScope S__law_shown⟩
def e__law_caught : Df := ⟨.g "_law_caught", "_law_caught", "_law_caught", defArgs S__law_caught, defBody S__law_caught, defScope S__law_caught⟩
def e_InvalidPlaces___init__ : Df := ⟨.m "InvalidPlaces" "__init__", "__init__", "InvalidPlaces.__init__", defArgs S_InvalidPlaces___init__, defBody S_InvalidPlaces___init__, defScope S_InvalidPlaces___init__⟩
def e_is_name : Df := ⟨.g "is_name", "is_name", "is_name", defArgs S_is_name, defBody S_is_name, defScope S_is_name⟩
def e_check_places : Df := ⟨.g "check_places", "check_places", "check_places", defArgs S_check_places, defBody S_check_places, defScope S_check_places⟩
def e_InvalidTies___init__ : Df := ⟨.m "InvalidTies" "__init__", "__init__", "InvalidTies.__init__", defArgs S_InvalidTies___init__, defBody S_InvalidTies___init__, defScope S_InvalidTies___init__⟩
def e_is_pair : Df := ⟨.g "is_pair", "is_pair", "is_pair", defArgs S_is_pair, defBody S_is_pair, defScope S_is_pair⟩
def e_is_tie : Df := ⟨.g "is_tie", "is_tie", "is_tie", defArgs S_is_tie, defBody S_is_tie, defScope S_is_tie⟩
def e_index_in : Df := ⟨.g "index_in", "index_in", "index_in", defArgs S_index_in, defBody S_index_in, defScope S_index_in⟩
def e_check_ties : Df := ⟨.g "check_ties", "check_ties", "check_ties", defArgs S_check_ties, defBody S_check_ties, defScope S_check_ties⟩
def e_Web___init__ : Df := ⟨.m "Web" "__init__", "__init__", "Web.__init__", defArgs S_Web___init__, defBody S_Web___init__, defScope S_Web___init__⟩
def e_Web_ties : Df := ⟨.p "Web" "ties", "ties", "Web.ties", defArgs S_Web_ties, defBody S_Web_ties, defScope S_Web_ties⟩
def e__law_dip : Df := ⟨.g "_law_dip", "_law_dip", "_law_dip", defArgs S__law_dip, defBody S__law_dip, defScope S__law_dip⟩
def e__law_names : Df := ⟨.g "_law_names", "_law_names", "_law_names", defArgs S__law_names, defBody S__law_names, defScope S__law_names⟩
def e__law_pick : Df := ⟨.g "_law_pick", "_law_pick", "_law_pick", defArgs S__law_pick, defBody S__law_pick, defScope S__law_pick⟩
def e__law_net : Df := ⟨.g "_law_net", "_law_net", "_law_net", defArgs S__law_net, defBody S__law_net, defScope S__law_net⟩
def e__law_odd : Df := ⟨.g "_law_odd", "_law_odd", "_law_odd", defArgs S__law_odd, defBody S__law_odd, defScope S__law_odd⟩
def e__law_put_in : Df := ⟨.g "_law_put_in", "_law_put_in", "_law_put_in", defArgs S__law_put_in, defBody S__law_put_in, defScope S__law_put_in⟩
def e__law_is_name : Df := ⟨.g "_law_is_name", "_law_is_name", "_law_is_name", defArgs S__law_is_name, defBody S__law_is_name, defScope S__law_is_name⟩
def e__law_spots_slip : Df := ⟨.g "_law_spots_slip", "_law_spots_slip", "_law_spots_slip", defArgs S__law_spots_slip, defBody S__law_spots_slip, defScope S__law_spots_slip⟩
def e__law_links_slip : Df := ⟨.g "_law_links_slip", "_law_links_slip", "_law_links_slip", defArgs S__law_links_slip, defBody S__law_links_slip, defScope S__law_links_slip⟩
def e__law_right : Df := ⟨.g "_law_right", "_law_right", "_law_right", defArgs S__law_right, defBody S__law_right, defScope S__law_right⟩
def e__law_jar : Df := ⟨.g "_law_jar", "_law_jar", "_law_jar", defArgs S__law_jar, defBody S__law_jar, defScope S__law_jar⟩
def e_law : Df := ⟨.g "law", "law", "law", defArgs S_law, defBody S_law, defScope S_law⟩
def fn : List Df := [e__law_bases, e__law_shown, e__law_caught, e_InvalidPlaces___init__, e_is_name, e_check_places, e_InvalidTies___init__, e_is_pair, e_is_tie, e_index_in, e_check_ties, e_Web___init__, e_Web_ties, e__law_dip, e__law_names, e__law_pick, e__law_net, e__law_odd, e__law_put_in, e__law_is_name, e__law_spots_slip, e__law_links_slip, e__law_right, e__law_jar, e_law]
abbrev R : PySem.W.OpenRow := PySem.W.OpenLaw.row PySem.Challenge.rw_hurryways_k03_whole_webs_refused
def fx : List DL.Fx := [DL.Fx.err "InvalidPlaces" 0 "index", DL.Fx.err "InvalidTies" 0 "index", DL.Fx.nof "InvalidPlaces" "index", DL.Fx.nof "InvalidTies" "index", DL.Fx.kitT "InvalidPlaces" "ArithmeticError" (hitE "InvalidPlaces" "ArithmeticError"), DL.Fx.kitT "InvalidTies" "ArithmeticError" (hitE "InvalidTies" "ArithmeticError"), DL.Fx.kitT "InvalidPlaces" "LookupError" (hitE "InvalidPlaces" "LookupError"), DL.Fx.kitT "InvalidTies" "LookupError" (hitE "InvalidTies" "LookupError"), DL.Fx.kitT "InvalidPlaces" "ValueError" (hitE "InvalidPlaces" "ValueError"), DL.Fx.kitT "InvalidTies" "ValueError" (hitE "InvalidTies" "ValueError"), DL.Fx.exm "InvalidPlaces" ["WrongValue", "WrongName", "NotPossible"], DL.Fx.exm "InvalidTies" ["WrongValue", "WrongName", "NotPossible"]]
def lm : List At := [.g "_law_right", .g "law"]
abbrev hk : PySem.W.Hook := hookT 5 fa fc fx fn lm
def ob (s : PySem.W.SharedT) : AlT := obsTG 5 fa fc fx fn lm (HandSHeadRun.getT s)
theorem ob_eq (s : PySem.W.SharedT) : ob s = hk.obs s.abs := obsTG_eq (HandSHeadRun.getT_eq s)
/-- the names of the lambdas -/
def qs : List Str := [lamQ "_law_right", lamQ "law"]
def clK (K : PySem.W.Frag) (c : Str) : Addr := He.ga K c
theorem facts {K : PySem.W.Frag} {h : Heap} {mg : Str → Option Value} (KX : K.In h) (G : h.Ns mainGlobals mg) (c : SaysL fa fc fx fn lm h K) : ∃ T : Fx K mg (clK K), T.a_law = He.ga K "law" ∧ T.cs = lm.map fun a => (codeAd K (a.ad K), tabAd K (codeAd K (a.ad K))) := by
  obtain ⟨d0, f0⟩ := c.x.df 0 (d := e__law_bases) rfl
  obtain ⟨d1, f1⟩ := c.x.df 1 (d := e__law_shown) rfl
  obtain ⟨d2, f2⟩ := c.x.df 2 (d := e__law_caught) rfl
  obtain ⟨d3, f3⟩ := c.x.df 3 (d := e_InvalidPlaces___init__) rfl
  obtain ⟨d4, f4⟩ := c.x.df 4 (d := e_is_name) rfl
  obtain ⟨d5, f5⟩ := c.x.df 5 (d := e_check_places) rfl
  obtain ⟨d6, f6⟩ := c.x.df 6 (d := e_InvalidTies___init__) rfl
  obtain ⟨d7, f7⟩ := c.x.df 7 (d := e_is_pair) rfl
  obtain ⟨d8, f8⟩ := c.x.df 8 (d := e_is_tie) rfl
  obtain ⟨d9, f9⟩ := c.x.df 9 (d := e_index_in) rfl
  obtain ⟨d10, f10⟩ := c.x.df 10 (d := e_check_ties) rfl
  obtain ⟨d11, f11⟩ := c.x.df 11 (d := e_Web___init__) rfl
  obtain ⟨d12, f12⟩ := c.x.df 12 (d := e_Web_ties) rfl
  obtain ⟨d13, f13⟩ := c.x.df 13 (d := e__law_dip) rfl
  obtain ⟨d14, f14⟩ := c.x.df 14 (d := e__law_names) rfl
  obtain ⟨d15, f15⟩ := c.x.df 15 (d := e__law_pick) rfl
  obtain ⟨d16, f16⟩ := c.x.df 16 (d := e__law_net) rfl
  obtain ⟨d17, f17⟩ := c.x.df 17 (d := e__law_odd) rfl
  obtain ⟨d18, f18⟩ := c.x.df 18 (d := e__law_put_in) rfl
  obtain ⟨d19, f19⟩ := c.x.df 19 (d := e__law_is_name) rfl
  obtain ⟨d20, f20⟩ := c.x.df 20 (d := e__law_spots_slip) rfl
  obtain ⟨d21, f21⟩ := c.x.df 21 (d := e__law_links_slip) rfl
  obtain ⟨d22, f22⟩ := c.x.df 22 (d := e__law_right) rfl
  obtain ⟨d23, f23⟩ := c.x.df 23 (d := e__law_jar) rfl
  obtain ⟨d24, f24⟩ := c.x.df 24 (d := e_law) rfl
  have cls_Web := He.cls_ok (c.x.fact 41 rfl)
  exact ⟨{ n_ArithmeticError := He.free_ok KX G (c.x.fact 0 rfl), n_LookupError := He.free_ok KX G (c.x.fact 1 rfl), n_ValueError := He.free_ok KX G (c.x.fact 2 rfl), n_abs := He.free_ok KX G (c.x.fact 3 rfl), n_all := He.free_ok KX G (c.x.fact 4 rfl), n_int := He.free_ok KX G (c.x.fact 5 rfl), n_isinstance := He.free_ok KX G (c.x.fact 6 rfl), n_len := He.free_ok KX G (c.x.fact 7 rfl), n_list := He.free_ok KX G (c.x.fact 8 rfl), n_max := He.free_ok KX G (c.x.fact 9 rfl), n_min := He.free_ok KX G (c.x.fact 10 rfl), n_range := He.free_ok KX G (c.x.fact 11 rfl), n_repr := He.free_ok KX G (c.x.fact 12 rfl), n_str := He.free_ok KX G (c.x.fact 13 rfl), n_tuple := He.free_ok KX G (c.x.fact 14 rfl), i_LONGEST := He.int_ok KX G (c.x.fact 15 rfl), i_MOST_PLACES := He.int_ok KX G (c.x.fact 16 rfl), i_MOST_TIES := He.int_ok KX G (c.x.fact 17 rfl), s_SMALL := He.str_ok KX G (c.x.fact 18 rfl), a__law_bases := _, d__law_bases := d0, F__law_bases := f0, m__law_bases := He.glo_ok KX G (c.x.fact 19 rfl), a__law_shown := _, d__law_shown := d1, F__law_shown := f1, m__law_shown := He.glo_ok KX G (c.x.fact 20 rfl), a__law_caught := _, d__law_caught := d2, F__law_caught := f2, m__law_caught := He.glo_ok KX G (c.x.fact 21 rfl), a_InvalidPlaces___init__ := _, d_InvalidPlaces___init__ := d3, F_InvalidPlaces___init__ := f3, a_is_name := _, d_is_name := d4, F_is_name := f4, m_is_name := He.glo_ok KX G (c.x.fact 22 rfl), a_check_places := _, d_check_places := d5, F_check_places := f5, m_check_places := He.glo_ok KX G (c.x.fact 23 rfl), a_InvalidTies___init__ := _, d_InvalidTies___init__ := d6, F_InvalidTies___init__ := f6, a_is_pair := _, d_is_pair := d7, F_is_pair := f7, m_is_pair := He.glo_ok KX G (c.x.fact 24 rfl), a_is_tie := _, d_is_tie := d8, F_is_tie := f8, m_is_tie := He.glo_ok KX G (c.x.fact 25 rfl), a_index_in := _, d_index_in := d9, F_index_in := f9, m_index_in := He.glo_ok KX G (c.x.fact 26 rfl), a_check_ties := _, d_check_ties := d10, F_check_ties := f10, m_check_ties := He.glo_ok KX G (c.x.fact 27 rfl), a_Web___init__ := _, d_Web___init__ := d11, F_Web___init__ := f11, a_Web_ties := _, d_Web_ties := d12, F_Web_ties := f12, a__law_dip := _, d__law_dip := d13, F__law_dip := f13, m__law_dip := He.glo_ok KX G (c.x.fact 28 rfl), a__law_names := _, d__law_names := d14, F__law_names := f14, m__law_names := He.glo_ok KX G (c.x.fact 29 rfl), a__law_pick := _, d__law_pick := d15, F__law_pick := f15, m__law_pick := He.glo_ok KX G (c.x.fact 30 rfl), a__law_net := _, d__law_net := d16, F__law_net := f16, m__law_net := He.glo_ok KX G (c.x.fact 31 rfl), a__law_odd := _, d__law_odd := d17, F__law_odd := f17, m__law_odd := He.glo_ok KX G (c.x.fact 32 rfl), a__law_put_in := _, d__law_put_in := d18, F__law_put_in := f18, m__law_put_in := He.glo_ok KX G (c.x.fact 33 rfl), a__law_is_name := _, d__law_is_name := d19, F__law_is_name := f19, m__law_is_name := He.glo_ok KX G (c.x.fact 34 rfl), a__law_spots_slip := _, d__law_spots_slip := d20, F__law_spots_slip := f20, m__law_spots_slip := He.glo_ok KX G (c.x.fact 35 rfl), a__law_links_slip := _, d__law_links_slip := d21, F__law_links_slip := f21, m__law_links_slip := He.glo_ok KX G (c.x.fact 36 rfl), a__law_right := _, d__law_right := d22, F__law_right := f22, m__law_right := He.glo_ok KX G (c.x.fact 37 rfl), a__law_jar := _, d__law_jar := d23, F__law_jar := f23, m__law_jar := He.glo_ok KX G (c.x.fact 38 rfl), a_law := _, d_law := d24, F_law := f24, m_law := He.glo_ok KX G (c.x.fact 39 rfl), c_Web := He.glo_ok KX G (c.x.fact 40 rfl), cls_Web := cls_Web, c_InvalidPlaces := He.glo_ok KX G (c.x.fact 42 rfl), c_InvalidTies := He.glo_ok KX G (c.x.fact 43 rfl), c_NotPossible := He.glo_ok KX G (c.x.fact 44 rfl), c_WrongName := He.glo_ok KX G (c.x.fact 45 rfl), c_WrongValue := He.glo_ok KX G (c.x.fact 46 rfl), er_InvalidPlaces := (Fx.err_ok (c.fx_ 0 rfl)).1, en_InvalidPlaces := (Fx.err_ok (c.fx_ 0 rfl)).2.2.1, ei_InvalidPlaces := (Fx.err_ok (c.fx_ 0 rfl)).2.2.2.1, et_InvalidPlaces := (Fx.err_ok (c.fx_ 0 rfl)).2.2.2.2, er_InvalidTies := (Fx.err_ok (c.fx_ 1 rfl)).1, en_InvalidTies := (Fx.err_ok (c.fx_ 1 rfl)).2.2.1, ei_InvalidTies := (Fx.err_ok (c.fx_ 1 rfl)).2.2.2.1, et_InvalidTies := (Fx.err_ok (c.fx_ 1 rfl)).2.2.2.2, xi := (List.forall_mem_cons.mpr ⟨(Fx.err_ok (c.fx_ 0 rfl)).2.1, (List.forall_mem_cons.mpr ⟨(Fx.err_ok (c.fx_ 1 rfl)).2.1, (fun _ h => nomatch h)⟩)⟩), xf_index := (List.forall_mem_cons.mpr ⟨(He.eqO_ok (c.fx_ 2 rfl)), (List.forall_mem_cons.mpr ⟨(He.eqO_ok (c.fx_ 3 rfl)), (fun _ h => nomatch h)⟩)⟩), xk_InvalidPlaces := (List.forall_mem_cons.mpr ⟨(of_decide_eq_true (c.x.more 0 rfl)), (List.forall_mem_cons.mpr ⟨(of_decide_eq_true (c.x.more 1 rfl)), (fun _ h => nomatch h)⟩)⟩), xk_InvalidTies := (List.forall_mem_cons.mpr ⟨(of_decide_eq_true (c.x.more 2 rfl)), (List.forall_mem_cons.mpr ⟨(of_decide_eq_true (c.x.more 3 rfl)), (fun _ h => nomatch h)⟩)⟩), xk_NotPossible := (List.forall_mem_cons.mpr ⟨(of_decide_eq_true (c.x.more 4 rfl)), (List.forall_mem_cons.mpr ⟨(of_decide_eq_true (c.x.more 5 rfl)), (fun _ h => nomatch h)⟩)⟩), xk_WrongName := (List.forall_mem_cons.mpr ⟨(of_decide_eq_true (c.x.more 6 rfl)), (List.forall_mem_cons.mpr ⟨(of_decide_eq_true (c.x.more 7 rfl)), (fun _ h => nomatch h)⟩)⟩), xk_WrongValue := (List.forall_mem_cons.mpr ⟨(of_decide_eq_true (c.x.more 8 rfl)), (List.forall_mem_cons.mpr ⟨(of_decide_eq_true (c.x.more 9 rfl)), (fun _ h => nomatch h)⟩)⟩), xt_ArithmeticError := (List.forall_mem_cons.mpr ⟨(of_decide_eq_true (c.fx_ 4 rfl)), (List.forall_mem_cons.mpr ⟨(of_decide_eq_true (c.fx_ 5 rfl)), (fun _ h => nomatch h)⟩)⟩), xt_LookupError := (List.forall_mem_cons.mpr ⟨(of_decide_eq_true (c.fx_ 6 rfl)), (List.forall_mem_cons.mpr ⟨(of_decide_eq_true (c.fx_ 7 rfl)), (fun _ h => nomatch h)⟩)⟩), xt_ValueError := (List.forall_mem_cons.mpr ⟨(of_decide_eq_true (c.fx_ 8 rfl)), (List.forall_mem_cons.mpr ⟨(of_decide_eq_true (c.fx_ 9 rfl)), (fun _ h => nomatch h)⟩)⟩), exm := (List.forall_mem_cons.mpr ⟨(of_decide_eq_true (c.fx_ 10 rfl)), (List.forall_mem_cons.mpr ⟨(of_decide_eq_true (c.fx_ 11 rfl)), (fun _ h => nomatch h)⟩)⟩), C__law_right := codeAd K (At.ad K (.g "_law_right")), P__law_right := tabAd K (codeAd K (At.ad K (.g "_law_right"))), fc__law_right := f22.code_of (c.tab (.g "_law_right") (by simp [lm])).1, C_law := codeAd K (At.ad K (.g "law")), P_law := tabAd K (codeAd K (At.ad K (.g "law"))), fc_law := f24.code_of (c.tab (.g "law") (by simp [lm])).1, mk_Web := He.mkr_ok (c.x.fact 47 rfl), at_Web_both := He.noat_ok (c.x.fact 48 rfl), p_Web_ties := _, pr_Web_ties := Fc.prp_ok (c.x.more 10 rfl), clsx := ⟨(List.forall_mem_cons.mpr ⟨(Fc.ins_ok (c.x.more 11 rfl) cls_Web).1, (fun _ h => nomatch h)⟩), (List.forall_mem_cons.mpr ⟨(Fc.ins_ok (c.x.more 11 rfl) cls_Web).2.1, (fun _ h => nomatch h)⟩), (List.forall_mem_cons.mpr ⟨(Fc.ins_ok (c.x.more 11 rfl) cls_Web).2.2, (fun _ h => nomatch h)⟩), (List.forall_mem_cons.mpr ⟨(List.forall_mem_cons.mpr ⟨(of_decide_eq_true (c.x.more 12 rfl)), (fun _ h => nomatch h)⟩), (fun _ h => nomatch h)⟩)⟩ }, rfl, rfl⟩
end K03

namespace K03
open PySem L2 DL PySem.Spec PyProof.Rows

def loose0 : List Str := ["_wall", "WrongValue", "InvalidText", "InvalidPlaces", "InvalidTies", "WrongName", "NotPossible", "MOST_PLACES", "MOST_TIES", "SMALL", "LONGEST", "HEAD", "TIE", "is_name", "is_pair", "check_places", "is_tie", "check_ties", "index_in", "Web", "web_told", "web_of", "_law_jar", "_law_dip", "_law_pick", "_law_bases", "_law_odd", "_law_names", "_law_net", "_law_shown"]
def loose1 : List Str := ["_law_caught", "_law_is_name", "_law_spots_slip", "_law_links_slip", "_law_put_in", "_law_right"]
def loose : List Str := loose0 ++ loose1
open PySem.W PySem.Calls HandSHeadRun
theorem triple {α β γ δ : Type} {o : Option α} {f : α → β} {g : α → γ} {h : α → δ} {a : β} {b : γ} {c : δ} (h1 : o.map f = some a) (h2 : o.map g = some b) (h3 : o.map h = some c) : o.map (fun s => (f s, g s, h s)) = some (a, b, c) := by
  cases o with
  | none => cases h1
  | some x => cases h1; cases h2; cases h3; rfl
theorem runA (w : World) (os : OsState) : (endF (stepQ (denQ tabQ) R.prog w) 20000 R.prog w os).map (fun s => looksF R.prog (boot_heap w.params) s.abs) = some true := by kernel_rfl
theorem runB (w : World) (os : OsState) : (endF (stepQ (denQ tabQ) R.prog w) 20000 R.prog w os).map (fun s => seenQ (PySem.W.view R.prog [39]) loose (importedModules R.prog.main.body) (fun s => xlAt (PySem.W.view R.prog [39]) [] s && recOk R.toRowW.records s) s.abs) = some (openGood (PySem.W.view R.prog [39]) loose) := by kernel_rfl
abbrev KK (s : PySem.W.SharedT) : PySem.W.Frag := frT (HandSHeadRun.getT s) (He.asD (HandSHeadRun.getT s) 5)
/-- what is seen, part by part -/
theorem parts {fa : List He.Fa} {fc : List Fc} {fx : List DL.Fx} {fn : List Df} {lm : List At} {k : Nat} {o : Option PySem.W.SharedT} (h1 : o.map (fun s => fa.all fun f => f.ok (KK s)) = some true) (h2 : o.map (fun s => fc.all fun f => f.ok (KK s)) = some true)
    (h7 : o.map (fun s => fx.all fun f => f.ok (KK s)) = some true) (h8 : o.map (fun s => (lm.all fun a => tabOk (KK s) (HandSHeadRun.getT s) (a.ad (KK s))) && decide ((lm.map fun a => tabAd (KK s) (codeAd (KK s) (a.ad (KK s)))).Nodup)) = some true)
    (h3 : o.map (fun s => (fn.take k).all fun d => d.ok (KK s)) = some true) (h4 : o.map (fun s => (fn.drop k).all fun d => d.ok (KK s)) = some true)
    (h5 : o.map (fun s => (fn.take k).map fun d => dfV (KK s) (d.at_.ad (KK s))) = some ((fn.take k).map Df.val)) (h6 : o.map (fun s => (fn.drop k).map fun d => dfV (KK s) (d.at_.ad (KK s))) = some ((fn.drop k).map Df.val)) :
    o.map (fun s => obsTG 5 fa fc fx fn lm (HandSHeadRun.getT s)) = some (valX fn) := by
  cases o with
  | none => cases h1
  | some x =>
    have e1 := Option.some.inj h1
    have e2 := Option.some.inj h2
    have e3 := Option.some.inj h3
    have e4 := Option.some.inj h4
    have e5 := Option.some.inj h5
    have e6 := Option.some.inj h6
    have e7 := Option.some.inj h7
    have e8 := Option.some.inj h8
    have a : (fn.all fun d => d.ok (KK x)) = true := by
      rw [← List.take_append_drop k fn, List.all_append]
      exact Bool.and_eq_true_iff.mpr ⟨e3, e4⟩
    have m : (fn.map fun d => dfV (KK x) (d.at_.ad (KK x))) = fn.map Df.val := by
      rw [← List.take_append_drop k fn, List.map_append, List.map_append]
      exact e5 ▸ e6 ▸ rfl
    exact congrArg some (Prod.ext (Bool.and_eq_true_iff.mpr ⟨e1, Bool.and_eq_true_iff.mpr ⟨e2, Bool.and_eq_true_iff.mpr ⟨e7, Bool.and_eq_true_iff.mpr ⟨a, e8⟩⟩⟩⟩) m)
theorem runC1 (w : World) (os : OsState) : (endF (stepQ (denQ tabQ) R.prog w) 20000 R.prog w os).map (fun s => fa.all fun f => f.ok (KK s)) = some true := by kernel_rfl
theorem runC2 (w : World) (os : OsState) : (endF (stepQ (denQ tabQ) R.prog w) 20000 R.prog w os).map (fun s => fc.all fun f => f.ok (KK s)) = some true := by kernel_rfl
theorem runC7 (w : World) (os : OsState) : (endF (stepQ (denQ tabQ) R.prog w) 20000 R.prog w os).map (fun s => fx.all fun f => f.ok (KK s)) = some true := by kernel_rfl
theorem runC8 (w : World) (os : OsState) : (endF (stepQ (denQ tabQ) R.prog w) 20000 R.prog w os).map (fun s => (lm.all fun a => tabOk (KK s) (HandSHeadRun.getT s) (a.ad (KK s))) && decide ((lm.map fun a => tabAd (KK s) (codeAd (KK s) (a.ad (KK s)))).Nodup)) = some true := by kernel_rfl
theorem runC3 (w : World) (os : OsState) : (endF (stepQ (denQ tabQ) R.prog w) 20000 R.prog w os).map (fun s => (fn.take 12).all fun d => d.ok (KK s)) = some true := by kernel_rfl
theorem runC4 (w : World) (os : OsState) : (endF (stepQ (denQ tabQ) R.prog w) 20000 R.prog w os).map (fun s => (fn.drop 12).all fun d => d.ok (KK s)) = some true := by kernel_rfl
theorem runC5 (w : World) (os : OsState) : (endF (stepQ (denQ tabQ) R.prog w) 20000 R.prog w os).map (fun s => (fn.take 12).map fun d => dfV (KK s) (d.at_.ad (KK s))) = some ((fn.take 12).map Df.val) := by kernel_rfl
theorem runC6 (w : World) (os : OsState) : (endF (stepQ (denQ tabQ) R.prog w) 20000 R.prog w os).map (fun s => (fn.drop 12).map fun d => dfV (KK s) (d.at_.ad (KK s))) = some ((fn.drop 12).map Df.val) := by kernel_rfl
theorem runC (w : World) (os : OsState) : (endF (stepQ (denQ tabQ) R.prog w) 20000 R.prog w os).map ob = some (hk.val w) := by
  have h := parts (fa := fa) (fc := fc) (fx := fx) (fn := fn) (lm := lm) (k := 12) (o := (endF (stepQ (denQ tabQ) R.prog w) 20000 R.prog w os)) (runC1 w os) (runC2 w os) (runC7 w os) (runC8 w os) (runC3 w os) (runC4 w os) (runC5 w os) (runC6 w os)
  exact h
theorem run (w : World) : HandSHeadRun.RunEq R (PySem.W.view R.prog [39]) hk ob 20000 loose w := fun os => triple (runA w os) (runB w os) (runC w os)
end K03

namespace DL
open PySem L2 PySem.Spec PyProof.Rows
/-! ### mirrors with errors, evaluated -/
section
variable {α β : Type} {e : Env} {x y : Exc} {i : Nat} {d : D}
@[simp] theorem v_exn {k : α → Env → Out β} : (Out.exn x e : Out α).bnd k = .exn x e := rfl
@[simp] theorem v_exnF {k : Env → Out Fl} : (Out.exn x e : Out Fl).bndF k = .exn x e := rfl
@[simp] theorem v_outE1 : outF (.exn x e) = .exn x e.j := rfl
@[simp] theorem v_callOe : callO e (.exn x []) = .exn x e := rfl
@[simp] theorem v_makeOe {c : Str} : makeO c e (.exn x [d]) = .exn x e := rfl
@[simp] theorem v_raise {c f : Str} {g : M R} : sRaise c f g e = (g e).bnd fun r e1 => raiseF c f (e1.frz r) := rfl
@[simp] theorem v_raiseF {c f : Str} : raiseF c f (some (d, e)) = .exn ⟨c, [f], [d]⟩ e := rfl
def ptrO (o : Out R) : Option S → Out R
  | some .ptr => o
  | _ => .bad
@[simp] theorem v_ptrO {o : Out R} : ptrO o (some .ptr) = o := rfl
@[simp] theorem v_isX {b : Bool} : cIsX i b e = ptrO (.ok (.val (.bl b)) e) e.s[i]? := by unfold cIsX ptrO; split <;> simp_all
@[simp] theorem v_xcall {o : OutF} : cCallX i o e = ptrO (callOk e o) e.s[i]? := by unfold cCallX ptrO; split <;> simp_all
@[simp] theorem v_callOk : callOk e (.ok d []) = .ok (.val d) e := rfl
@[simp] theorem v_acts {o : OutF} : cAct i o e = ptrO (callO e o) e.s[i]? := by unfold cAct ptrO; split <;> simp_all
def xfO (f : Str) (x : Exc) (e : Env) : Out R := match x.ns, x.l with
  | [g], [d] => if g = f then .ok (.val d) e else .bad
  | _, _ => .bad
@[simp] theorem v_xf {f : Str} : cXf i f x e = ptrO (xfO f x e) e.s[i]? := by
  obtain ⟨c, ns, l⟩ := x
  unfold cXf ptrO xfO
  cases e.s[i]? with
  | none => rfl
  | some z =>
    cases z with
    | ptr =>
      match ns, l with
      | [g], [d] => rfl
      | [], _ => rfl
      | [_], [] => rfl
      | [_], _ :: _ :: _ => rfl
      | _ :: _ :: _, _ => rfl
    | _ => rfl
@[simp] theorem v_xfO {c f : Str} : xfO f ⟨c, [f], [d]⟩ e = .ok (.val d) e := by simp [xfO]
def tryO (i : Nat) (cs : List Str) (fsu : Exc → M Fl) : Out Fl → Out Fl
  | .exn x e1 => if x.c ∈ cs then rtO (fsu x (e1.bare i)) else .bad
  | .ok f e1 => .ok f e1
  | .bad => .bad
@[simp] theorem v_try {cs : List Str} {fb : M Fl} {fsu : Exc → M Fl} : sTry i cs fb fsu e = tryO i cs fsu (fb e) := by unfold sTry tryO; rfl
@[simp] theorem v_tryOk {cs : List Str} {fsu : Exc → M Fl} {f : Fl} : tryO i cs fsu (.ok f e) = .ok f e := rfl
@[simp] theorem v_tryE {cs : List Str} {fsu : Exc → M Fl} : tryO i cs fsu (.exn x e) = if x.c ∈ cs then rtO (fsu x (e.bare i)) else .bad := rfl
@[simp] theorem v_rtO : rtO (.ok (.rt d) e) = .ok (.rt d) e := rfl
@[simp] theorem v_bare : e.bare i = ⟨(e.s.map S.noP).set i .ptr, e.j⟩ := rfl
@[simp] theorem v_noP1 : S.ptr.noP = .un := rfl
@[simp] theorem v_noP2 : (S.dat d).noP = .dat d := rfl
@[simp] theorem v_noP3 : S.un.noP = .un := rfl
@[simp] theorem v_noP4 : (S.own d).noP = .own d := rfl
@[simp] theorem v_fnX {n : Nat} {g : M Fl} : fnX n g = outF (g (envX n)) := rfl
@[simp] theorem v_fnL {n : Nat} {g : OutF → M Fl} {o : OutF} : fnL n g o = outF (g o (envX n)) := rfl
@[simp] theorem v_envX {n : Nat} : envX n = ⟨.ptr :: List.replicate (n - 1) .un, []⟩ := rfl
def lamT (q : Str) (Φ : OutF → OutF) (fb : M R) (e : Env) : Option D → Out R
  | some (.tab q') => if q' = q then callOk e (Φ (lamOut fb e)) else .bad
  | _ => .bad
@[simp] theorem v_lam {k : Nat} {q : Str} {Φ : OutF → OutF} {fb : M R} : cLam k q Φ fb e = lamT q Φ fb e e.j[k]? := by unfold cLam lamT; rfl
@[simp] theorem v_lamT {q : Str} {Φ : OutF → OutF} {fb : M R} : lamT q Φ fb e (some (.tab q)) = callOk e (Φ (lamOut fb e)) := if_pos rfl
def lamR : Out R → OutF
  | .ok r e1 => frzL r e1
  | .exn x e1 => .exn x e1.j
  | .bad => .bad
@[simp] theorem v_lamOut {fb : M R} : lamOut fb e = lamR (fb e.lam) := by unfold lamOut lamR; rfl
@[simp] theorem v_lamRv : lamR (.ok (.val d) e) = .ok d e.j := rfl
@[simp] theorem v_lamRx : lamR (.exn x e) = .exn x e.j := rfl
@[simp] theorem v_lamE : e.lam = ⟨e.s.map S.dt, []⟩ := rfl
@[simp] theorem v_dt1 : (S.dat d).dt = .dat d := rfl
@[simp] theorem v_dt2 : (S.own d).dt = .un := rfl
@[simp] theorem v_dt3 {k : Nat} : (S.jar k).dt = .un := rfl
@[simp] theorem v_dt4 : S.un.dt = .un := rfl
def bmO (g : List Bool → Bool → Option D) (r : R) (fe : M R) (e : Env) (o : Option D) : Out R := if isLstO o then (fe e).bnd fun ra e2 => cBMv g r ra e2 else .bad
@[simp] theorem v_bm {g : List Bool → Bool → Option D} {fo fe : M R} : cBM g fo fe e = (fo e).bnd fun r e1 => bmO g r fe e1 (e1.rd r) := rfl
@[simp] theorem v_bmO {g : List Bool → Bool → Option D} {r : R} {fe : M R} {l : List D} : bmO g r fe e (some (.lst l)) = (fe e).bnd fun ra e2 => cBMv g r ra e2 := if_pos rfl
def bmV (g : List Bool → Bool → Option D) (b : Bool) (e : Env) : Option D → Out R
  | some (.lst l) => opt ((boolsOf l).bind fun bs => g bs b) e
  | _ => .bad
@[simp] theorem v_bmv {g : List Bool → Bool → Option D} {r : R} {b : Bool} : cBMv g r (.val (.bl b)) e = bmV g b e (e.rd r) := by unfold cBMv bmV; cases e.rd r with
  | none => rfl
  | some z => cases z <;> rfl
@[simp] theorem v_bmV {g : List Bool → Bool → Option D} {b : Bool} {l : List D} : bmV g b e (some (.lst l)) = opt ((boolsOf l).bind fun bs => g bs b) e := rfl
@[simp] theorem v_makeK {c : Str} {Φ : Fn} {n : Nat} {p : List Nat} {gs : M (List R)} : cMakeK c Φ n p gs e = (gs e).bnd fun rs e1 => makeK c Φ n p (e1.frzs rs) := rfl
@[simp] theorem v_makeKs {c : Str} {Φ : Fn} {n : Nat} {p : List Nat} {ds : List D} : makeK c Φ n p (some (ds, e)) = if ds.length = n then makeO c e (Φ (.jar 0 :: (prm p ds).map A.dat) [.obj c [] []]) else .bad := rfl
@[simp] theorem v_ofF {f : M D} : cOfF f e = (f e).bnd fun d e1 => .ok (.val d) e1 := rfl
@[simp] theorem v_tt {nj : Nat} {Φ : Fn} {f : M D} : cCallTT nj Φ f e = (f e).bnd fun d e1 => callTT e1 nj (Φ [.jar 0] (d :: e1.j.drop nj)) := rfl
theorem v_ttO {nj : Nat} {ts : List D} {x : D} (h : (e.j.drop nj).length = ts.length) : callTT e nj (.ok d (x :: ts)) = .ok (.val d) (e.putT nj ts) := if_pos h
end
/-! ### a loop that ends at the first bad number -/
def firstB (bad : Nat → Bool) (n : Nat) : Option Nat := (List.range n).find? bad
theorem firstB_some {bad : Nat → Bool} {n k : Nat} (h : firstB bad n = some k) : k < n ∧ bad k = true ∧ ∀ m < k, bad m = false := by
  unfold firstB at h
  obtain ⟨h1, as, bs, h2, h3⟩ := List.find?_eq_some_iff_append.mp h
  have hl : as.length = k := by
    have e1 : (List.range n)[as.length]? = some k := by rw [h2]; simp
    have e2 := (List.getElem?_eq_some_iff.mp e1)
    obtain ⟨hh, e3⟩ := e2
    rw [List.getElem_range] at e3
    exact e3
  have hk : k ∈ List.range n := by rw [h2]; simp
  refine ⟨List.mem_range.mp hk, h1, fun m hm => ?_⟩
  have hm2 : m ∈ as := by
    have hlt : m < as.length := by omega
    have e1 : (List.range n)[m]? = as[m]? := by rw [h2, List.getElem?_append_left hlt]
    have hn : m < n := by have := List.mem_range.mp hk; omega
    rw [List.getElem?_range hn] at e1
    exact List.mem_of_getElem? e1.symm
  have := h3 m hm2
  simpa using this
theorem firstB_none {bad : Nat → Bool} {n : Nat} (h : firstB bad n = none) : ∀ m < n, bad m = false := fun m hm => by
  have := List.find?_eq_none.mp h m (List.mem_range.mpr hm)
  simpa using this
def Stops : Out Fl → Prop
  | .exn _ _ => True
  | .ok (.rt _) _ => True
  | _ => False
theorem forL_stop {g : Tg} {body : M Fl} {d : D} {ds : List D} {e e1 : Env} {o : Out Fl} (h1 : g d e = some e1) (h2 : body e1 = o) (hs : Stops o) : forL g body (d :: ds) e = o := by
  rw [forL, h1]
  simp only [h2]
  cases o with
  | ok f e2 => cases f <;> first | rfl | exact hs.elim
  | exn x e2 => rfl
  | bad => exact hs.elim
theorem first_ok {i : Nat} {body : M Fl} {n : Nat} {bad : Nat → Bool} {o : Nat → Out Fl} {C : S → Env} (hset : ∀ x d, (C x).setS i (.dat d) = C (.dat d))
    (good : ∀ k < n, (∀ m < k, bad m = false) → bad k = false → ∃ e2, body (C (.dat (.int k))) = .ok .nx (C e2)) (isbad : ∀ k < n, (∀ m < k, bad m = false) → bad k = true → body (C (.dat (.int k))) = o k) (ho : ∀ k, Stops (o k)) :
    ∀ (x : S), (firstB bad n = none ∧ ∃ y, forL (gN i) body (rng 0 n) (C x) = .ok .nx (C y)) ∨ ∃ k, firstB bad n = some k ∧ forL (gN i) body (rng 0 n) (C x) = o k := by
  have key : ∀ (m k : Nat) (x : S), k + m = n → (∀ j < k, bad j = false) → ((∀ j < n, bad j = false) ∧ ∃ y, forL (gN i) body (rng k m) (C x) = .ok .nx (C y)) ∨ ∃ j, j < n ∧ bad j = true ∧ (∀ l < j, bad l = false) ∧ forL (gN i) body (rng k m) (C x) = o j := by
    intro m
    induction m with
    | zero => intro k x hk hb; exact .inl ⟨fun j hj => hb j (by omega), x, rfl⟩
    | succ m ih =>
      intro k x hk hb
      rw [rng_cons]
      cases hbk : bad k with
      | true => exact .inr ⟨k, by omega, hbk, hb, forL_stop (e1 := C (.dat (.int k))) (by rw [v_gN, hset]) (isbad k (by omega) hb hbk) (ho k)⟩
      | false =>
        obtain ⟨y, hy⟩ := good k (by omega) hb hbk
        have e1 : forL (gN i) body (.int (k : Int) :: rng ((k : Int) + 1) m) (C x) = forL (gN i) body (rng ((k : Int) + 1) m) (C y) := by
          rw [forL, v_gN, hset]
          simp only [hy, v_bnd]
        rw [e1]
        have := ih (k + 1) y (by omega) (fun j hj => by
          rcases Nat.lt_or_ge j k with h | h
          · exact hb j h
          · rw [show j = k by omega]; exact hbk)
        rw [show ((k + 1 : Nat) : Int) = (k : Int) + 1 by omega] at this
        exact this
  intro x
  have r := key n 0 x (by omega) (fun j hj => by omega)
  cases hf : firstB bad n with
  | none =>
    refine .inl ⟨rfl, ?_⟩
    rcases r with ⟨_, y, h⟩ | ⟨j, h1, h2, _, _⟩
    · exact ⟨y, h⟩
    · rw [firstB_none hf j h1] at h2; cases h2
  | some k =>
    obtain ⟨h1, h2, h3⟩ := firstB_some hf
    refine .inr ⟨k, rfl, ?_⟩
    rcases r with ⟨h, _⟩ | ⟨j, j1, j2, j3, j4⟩
    · rw [h k h1] at h2; cases h2
    · have : j = k := by
        rcases Nat.lt_trichotomy j k with h | h | h
        · rw [h3 j h] at j2; cases j2
        · exact h
        · rw [j3 k h] at h2; cases h2
      rw [← this]
      exact j4
end DL

namespace K03
open PySem L2 DL PySem.Spec PyProof.Rows
/-! the draws -/
def JarD (d : D) : Prop := ∃ a b c : Int, d = .lst [.int a, .int b, .int c]
theorem dip_ok {m : Int} (hm : 0 < m) (h2 : m < 1073741824) {d : D} (hd : JarD d) : ∃ v d', F__law_dip [.jar 0, .dat (.int m)] [d] = .ok (.int v) [d'] ∧ JarD d' ∧ 0 ≤ v ∧ v < m := by
  obtain ⟨a, b, c, rfl⟩ := hd
  have e1 : (0 : Int) < 2147483399 := by decide
  have e2 : (0 : Int) < 2048 := by decide
  have e3 : (2048 : Int) < 1073741824 := by decide
  by_cases ha : 0 < a
  · refine ⟨a % m, .lst [.int (a / m), .int b, .int (c + 1)], ?_, ⟨_, _, _, rfl⟩, Int.emod_nonneg _ (by omega), Int.emod_lt_of_pos _ hm⟩
    simp [F__law_dip, g__law_dip, v_mulI, v_modI, v_divI, hm, h2, ha]
  · refine ⟨(b * 40692 + (c + 1) * 52021 + 31) % 2147483399 / 2048 % m, .lst [.int a, .int ((b * 40692 + (c + 1) * 52021 + 31) % 2147483399), .int (c + 1)], ?_, ⟨_, _, _, rfl⟩, Int.emod_nonneg _ (by omega), Int.emod_lt_of_pos _ hm⟩
    simp [F__law_dip, g__law_dip, v_mulI, v_modI, v_divI, hm, h2, ha, e1, e2, e3]
theorem pick_ok {l : List D} (hl : l ≠ []) (h2 : (l.length : Int) < 1073741824) {d : D} (hd : JarD d) : ∃ x d', F__law_pick [.jar 0, .dat (.lst l)] [d] = .ok x [d'] ∧ JarD d' ∧ x ∈ l := by
  have hp : 0 < l.length := List.length_pos_iff.mpr hl
  obtain ⟨v, d', h1, h3, h4, h5⟩ := dip_ok (m := l.length) (by omega) h2 hd
  obtain ⟨k, rfl⟩ : ∃ k : Nat, v = k := ⟨v.toNat, by omega⟩
  have hk : k < l.length := by omega
  have e : atI l (k : Int) = some l[k] := at_nat (List.getElem?_eq_getElem hk)
  refine ⟨l[k], d', ?_, h3, List.getElem_mem hk⟩
  simp [F__law_pick, g__law_pick, lenD, h1, e]
def pool0 : List Str := ["a", "b", "ab", "hub", "tie", "places", "zz", "q", "m", "longname", "x", "y"]
theorem pool0_nd : pool0.Nodup := by decide +kernel
theorem names_ok0 {m : Nat} (hm : m ≤ 12) {d : D} (hd : JarD d) : ∃ (ws : List Str) (d' : D), F__law_names [.jar 0, .dat (.int m)] [d] = .ok (.lst (ws.map D.str)) [d'] ∧ JarD d' ∧ ws.length = m ∧ ws.Nodup ∧ ∀ w ∈ ws, w ∈ pool0 := by
  obtain ⟨v, d', h1, h3, h4, h5⟩ := dip_ok (m := 12) (by decide) (by decide) hd
  obtain ⟨k, rfl⟩ : ∃ k : Nat, v = k := ⟨v.toNat, by omega⟩
  have hk : k < 12 := by omega
  have pm : (pool0.drop k ++ pool0.take k).Perm pool0 := List.perm_append_comm.trans (by rw [List.take_append_drop])
  have ln : (pool0.drop k ++ pool0.take k).length = 12 := pm.length_eq
  refine ⟨(pool0.drop k ++ pool0.take k).take m, d', ?_, h3, ?_, ?_, ?_⟩
  · have e : [D.str "a", .str "b", .str "ab", .str "hub", .str "tie", .str "places", .str "zz", .str "q", .str "m", .str "longname", .str "x", .str "y"] = pool0.map D.str := rfl
    have hs : (pool0.map D.str).length = 12 := rfl
    have a1 : addD (.lst ((pool0.map D.str).drop k)) (.lst ((pool0.map D.str).take k)) = some (.lst ((pool0.map D.str).drop k ++ (pool0.map D.str).take k)) := v_addL (by rw [List.length_drop, List.length_take, hs]; omega)
    simp only [F__law_names, g__law_names, v_fn, List.length_cons, List.length_nil]
    simp [v_lstO, h1]
    rw [e, cut_from, cut_to, a1]
    simp [cut_to]
  · rw [List.length_take, ln]; omega
  · exact ((pm.nodup_iff).mpr pool0_nd).sublist (List.take_sublist _ _)
  · exact fun w hw => pm.mem_iff.mp (List.mem_of_mem_take hw)
def pool : List Str := pool0 ++ (["c", "d", "e", "f", "g", "h", "i", "z", "n", "o", "none", "ba", "way", "abcdefgh"] : List Str)
theorem names_ok {m : Nat} (hm : m ≤ 12) {d : D} (hd : JarD d) : ∃ (ws : List Str) (d' : D), F__law_names [.jar 0, .dat (.int m)] [d] = .ok (.lst (ws.map D.str)) [d'] ∧ JarD d' ∧ ws.length = m ∧ ws.Nodup ∧ ∀ w ∈ ws, w ∈ pool := by
  obtain ⟨ws, d', h1, h2, h3, h4, h5⟩ := names_ok0 hm hd
  exact ⟨ws, d', h1, h2, h3, h4, fun w hw => List.mem_append_left _ (h5 w hw)⟩
theorem pool_ok : ∀ w ∈ pool, PyData.strOk w = true := by decide +kernel
def netE (lo hi mx : Nat) (ws : List Str) (ps : List (Str × Str)) (fd : List (Str × Str)) (x y z t : S) (d : D) : DL.Env :=
  ⟨[.jar 0, .dat (.int lo), .dat (.int hi), .dat (.int mx), .dat (.lst (ws.map D.str)), .dat (.lst (ps.map tieD)), .own (.lst (fd.map tieD)), x, .un, y, z, t], [d]⟩
theorem net1 {lo hi mx : Nat} {ws : List Str} (hw : ws.length ≤ 12) {y z t : S} {d : D} : ∃ x', forL (gN 7) b1__law_net (rng 0 ws.length) (netE lo hi mx ws [] [] .un y z t d) = .ok .nx (netE lo hi mx ws (allPairs ws) [] x' y z t d) := by
  obtain ⟨e', h1, acc, k, x', h2, h3, h4, h5⟩ := forL_ok (g := gN 7) (body := b1__law_net) (ds := rng 0 ws.length)
    (fun ds e => ∃ (acc : List (Str × Str)) (k : Nat) (x : S), k ≤ ws.length ∧ ds = rng k (ws.length - k) ∧ acc ++ allPairs (ws.drop k) = allPairs ws ∧ e = netE lo hi mx ws acc [] x y z t d)
    (fun dd ds e ⟨acc, k, x, hk, hd, ha, he⟩ => by
      have hlt : k < ws.length := by
        rcases Nat.lt_or_ge k ws.length with h | h
        · exact h
        · rw [show ws.length - k = 0 by omega] at hd
          cases hd
      rw [show ws.length - k = (ws.length - (k + 1)) + 1 by omega, rng_cons] at hd
      cases hd
      subst he
      have hdr := List.drop_eq_getElem_cons hlt
      rw [hdr, allPairs] at ha
      have la := allPairs_len (l := ws)
      have lq : ws.length * ws.length ≤ 12 * 12 := Nat.mul_le_mul hw hw
      have lt : acc.length + (ws.drop (k + 1)).length ≤ 144 := by
        have := congrArg List.length ha
        rw [List.length_append, List.length_append, List.length_map] at this
        omega
      refine ⟨netE lo hi mx ws acc [] (.dat (.int k)) y z t d, netE lo hi mx ws (acc ++ (ws.drop (k + 1)).map fun o => (ws[k], o)) [] (.dat (.int k)) y z t d, rfl, .inl ?_, _, k + 1, _, hlt, by rw [show ((k + 1 : Nat) : Int) = (k : Int) + 1 by omega], by rw [List.append_assoc]; exact ha, rfl⟩
      have hat : atI (ws.map D.str) (k : Int) = some (.str ws[k]) := at_nat (by rw [List.getElem?_map, List.getElem?_eq_getElem hlt]; rfl)
      have hc : cLc [8] (cIter (cSl (cVar 4) (cPart (cOp addD (cVar 7) (cC (.int 1)))) cNoPart)) (gN 8) tYs (cTup (cCons (cOp ixD (cVar 4) (cVar 7)) (cCons (cVar 8) cNil))) (netE lo hi mx ws acc [] (.dat (.int k)) y z t d) =
          .ok (.val (.lst ((((ws.drop (k + 1)).map D.str).filter fun _ => true).map fun o => .tup [.str ws[k], o]))) (netE lo hi mx ws acc [] (.dat (.int k)) y z t d) := by
        refine v_lc1 (fun _ => true) (fun o => .tup [.str ws[k], o]) ?_ ?_ ?_ fun o ho => ⟨rfl, fun _ => ?_⟩
        · have e1 : (k : Int) + 1 = ((k + 1 : Nat) : Int) := by omega
          simp [netE]
          rw [e1, cut_from]
        · rfl
        · rw [List.length_map, sizeLine_eq]; omega
        · simp [netE, hat]
      have e2 : ∀ l : List D, l.filter (fun _ => true) = l := fun l => by simp
      rw [e2] at hc
      unfold b1__law_net
      rw [v_asg]
      have e3 : cVar 5 (netE lo hi mx ws acc [] (.dat (.int k)) y z t d) = .ok (.val (.lst (acc.map tieD))) (netE lo hi mx ws acc [] (.dat (.int k)) y z t d) := rfl
      rw [v_op, e3, v_bnd, hc, v_bnd, v_rdV, v_rdV, v_opt2, v_addL (by rw [List.length_map, List.length_map, List.length_map]; omega)]
      simp [netE, tieD, Function.comp_def])
    ⟨[], 0, .un, Nat.zero_le _, by simp, by simp, rfl⟩
  have hk : k = ws.length := by
    rcases Nat.lt_or_ge k ws.length with h | h
    · rw [show ws.length - k = (ws.length - (k + 1)) + 1 by omega, rng_cons] at h3
      cases h3
    · omega
  subst hk
  rw [List.drop_length, allPairs, List.append_nil] at h4
  subst h4
  exact ⟨x', h5 ▸ h1⟩
theorem net2 {lo hi mx : Nat} {ws : List Str} {ps : List (Str × Str)} (hl : Lk ws ps) (hp : ps.length ≤ 144) {T : Nat} (hT : T ≤ ps.length) {x y z t : S} {d : D} (hd : JarD d) :
    ∃ (fd rest : List (Str × Str)) (z' t' : S) (d' : D), forL (gN 10) b2__law_net (rng 0 T) (netE lo hi mx ws ps [] x y z t d) = .ok .nx (netE lo hi mx ws rest fd x y z' t' d') ∧ JarD d' ∧ Lk ws fd ∧ fd.length = T := by
  obtain ⟨e', h1, fd, rest, z', t', d', h2, h3, h4, h5, h6, h7⟩ := forL_ok (g := gN 10) (body := b2__law_net) (ds := rng 0 T)
    (fun ds e => ∃ (fd rest : List (Str × Str)) (z t : S) (d : D), JarD d ∧ Lk ws (fd ++ rest) ∧ fd.length + rest.length = ps.length ∧ fd.length ≤ T ∧ ds = rng fd.length (T - fd.length) ∧ e = netE lo hi mx ws rest fd x y z t d)
    (fun dd ds e ⟨fd, rest, z, t, d, hd, hk, hn, hf, hds, he⟩ => by
      have hlt : fd.length < T := by
        rcases Nat.lt_or_ge fd.length T with h | h
        · exact h
        · rw [show T - fd.length = 0 by omega] at hds
          cases hds
      rw [show T - fd.length = (T - (fd.length + 1)) + 1 by omega, rng_cons] at hds
      cases hds
      subst he
      have hr : 0 < rest.length := by omega
      obtain ⟨v, d1, q1, q2, q3, q4⟩ := dip_ok (m := rest.length) (by omega) (by omega) hd
      obtain ⟨k, rfl⟩ : ∃ k : Nat, v = k := ⟨v.toNat, by omega⟩
      have hkl : k < rest.length := by omega
      obtain ⟨u, d2, r1, r2, r3, r4⟩ := dip_ok (m := 2) (by decide) (by decide) q2
      have hat : atI (rest.map tieD) (k : Int) = some (tieD rest[k]) := at_nat (by rw [List.getElem?_map, List.getElem?_eq_getElem hkl]; rfl)
      have pm : rest.Perm (rest[k] :: (rest.take k ++ rest.drop (k + 1))) := by
        have e := List.take_append_drop k rest
        rw [List.drop_eq_getElem_cons hkl] at e
        conv => lhs; rw [← e]
        exact List.perm_middle
      have lk : Lk ws (rest[k] :: (fd ++ (rest.take k ++ rest.drop (k + 1)))) := hk.perm ((pm.append_left fd).trans List.perm_middle)
      have ln : (rest.take k ++ rest.drop (k + 1)).length + 1 = rest.length := by have := pm.length_eq; simp only [List.length_cons] at this; omega
      have e1 : (k : Int) + 1 = ((k + 1 : Nat) : Int) := by omega
      have asm : ∀ w : Str × Str, Lk ws (w :: (fd ++ (rest.take k ++ rest.drop (k + 1)))) → Lk ws ((fd ++ [w]) ++ (rest.take k ++ rest.drop (k + 1))) := fun w h => h.perm (by rw [List.append_assoc]; exact List.perm_middle.symm)
      have key : ∃ w : Str × Str, Lk ws (w :: (fd ++ (rest.take k ++ rest.drop (k + 1)))) ∧ b2__law_net (netE lo hi mx ws rest fd x y (.dat (.int fd.length)) t d) = .ok .nx (netE lo hi mx ws (rest.take k ++ rest.drop (k + 1)) (fd ++ [w]) x y (.dat (.int fd.length)) (.dat (.int k)) d2) := by
        have a1 : addD (.lst ((rest.map tieD).take k)) (.lst ((rest.map tieD).drop (k + 1))) = some (.lst ((rest.map tieD).take k ++ (rest.map tieD).drop (k + 1))) := v_addL (by rw [List.length_take, List.length_drop, List.length_map]; omega)
        have lf : (fd.map tieD).length < 16777216 := by rw [List.length_map]; omega
        by_cases hu : u = 0
        · refine ⟨rest[k], lk, ?_⟩
          subst hu
          simp [b2__law_net, netE, q1, r1, hat, v_appL lf]
          rw [e1, cut_from, cut_to, a1]
          simp
        · refine ⟨rest[k].swap, lk.swap, ?_⟩
          have hs : (tieD rest[k]) = .tup [.str rest[k].1, .str rest[k].2] := rfl
          simp [b2__law_net, netE, q1, r1, hat, hu, hs, v_appL lf]
          rw [e1, cut_from, cut_to, a1]
          simp [tieD]
      obtain ⟨w, w1, w2⟩ := key
      exact ⟨_, _, rfl, .inl w2, fd ++ [w], rest.take k ++ rest.drop (k + 1), _, _, d2, r2, asm w w1, by rw [List.length_append]; simp only [List.length_cons, List.length_nil]; omega, by rw [List.length_append]; simp only [List.length_cons, List.length_nil]; omega,
        by rw [List.length_append]; simp only [List.length_cons, List.length_nil, Nat.zero_add]; rw [show ((fd.length + 1 : Nat) : Int) = (fd.length : Int) + 1 by omega], rfl⟩)
    ⟨[], ps, z, t, d, hd, hl, by simp, by simp, by simp, rfl⟩
  have hf : fd.length = T := by
    rcases Nat.lt_or_ge fd.length T with h | h
    · rw [show T - fd.length = (T - (fd.length + 1)) + 1 by omega, rng_cons] at h6
      cases h6
    · omega
  exact ⟨fd, rest, z', t', d', h7 ▸ h1, h2, h3.sub (List.sublist_append_left _ _), hf⟩
/-- a drawn web -/
structure Net (lo hi mx : Nat) (ws : List Str) (ls : List (Str × Str)) : Prop where
  nd : ws.Nodup
  pool : ∀ w ∈ ws, w ∈ pool
  lo : lo ≤ ws.length
  hi : ws.length ≤ hi
  lk : Lk ws ls
  mx : ls.length ≤ mx
def netD (ws : List Str) (ls : List (Str × Str)) : D := .tup [.tup (ws.map D.str), .tup (ls.map tieD)]
theorem net_run {lo hi mx k : Nat} {ws : List Str} {fd rest : List (Str × Str)} {d d1 d2 d3 d4 d5 : D} {x' z' t' : S} {many tt u : Int} {m : Nat}
    (a1 : F__law_dip [.jar 0, .dat (.int ((hi : Int) - lo + 1))] [d] = .ok (.int k) [d1]) (b1' : F__law_names [.jar 0, .dat (.int ((lo : Int) + k))] [d1] = .ok (.lst (ws.map D.str)) [d2])
    (c1 : forL (gN 7) b1__law_net (rng 0 ws.length) (netE lo hi mx ws [] [] .un .un .un .un d2) = .ok .nx (netE lo hi mx ws (allPairs ws) [] x' .un .un .un d2))
    (e1 : F__law_pick [.jar 0, .dat (.lst [.int 2, .int 3, .int (allPairs ws).length])] [d2] = .ok (.int m) [d3]) (f1 : F__law_dip [.jar 0, .dat (.int m)] [d3] = .ok (.int u) [d4])
    (hmany : many = if (allPairs ws).length + 1 - u < (mx : Int) then (allPairs ws).length + 1 - u else (mx : Int)) (htt : tt = if ((allPairs ws).length : Int) < many then ((allPairs ws).length : Int) else many)
    (g1 : forL (gN 10) b2__law_net (rng 0 tt.toNat) (netE lo hi mx ws (allPairs ws) [] x' (.dat (.int many)) .un .un d4) = .ok .nx (netE lo hi mx ws rest fd x' (.dat (.int many)) z' t' d5))
    (r1 : rngI1 [.val (.int ws.length)] = some (rng 0 ws.length)) (r2 : rngI1 [.val (.int tt)] = some (rng 0 tt.toNat)) :
    F__law_net [.jar 0, .dat (.int lo), .dat (.int hi), .dat (.int mx)] [d] = .ok (netD ws fd) [d5] := by
  have st1 : ∀ k : DL.Env → Out Fl, (forL (gN 7) b1__law_net (rng 0 ws.length) ⟨[.jar 0, .dat (.int lo), .dat (.int hi), .dat (.int mx), .dat (.lst (ws.map D.str)), .dat (.lst []), .own (.lst []), .un, .un, .un, .un, .un], [d2]⟩).bndF k =
      k (netE lo hi mx ws (allPairs ws) [] x' .un .un .un d2) := fun k => by
    have := c1
    unfold netE at this
    simp only [List.map_nil] at this
    rw [this]
    rfl
  have st2 : ∀ k : DL.Env → Out Fl, (forL (gN 10) b2__law_net (rng 0 tt.toNat) ⟨[.jar 0, .dat (.int lo), .dat (.int hi), .dat (.int mx), .dat (.lst (ws.map D.str)), .dat (.lst ((allPairs ws).map tieD)), .own (.lst []), x', .un, .dat (.int many), .un, .un], [d4]⟩).bndF k =
      k (netE lo hi mx ws rest fd x' (.dat (.int many)) z' t' d5) := fun k => by
    have := g1
    unfold netE at this
    simp only [List.map_nil] at this
    rw [this]
    rfl
  unfold F__law_net g__law_net
  simp -implicitDefEqProofs [a1, b1', r1, st1]
  simp -implicitDefEqProofs [netE, e1, f1]
  rw [← hmany, ← htt, r2]
  simp -implicitDefEqProofs [st2]
  simp -implicitDefEqProofs [netE, netD]
theorem net_ok {lo hi mx : Nat} (h2 : 2 ≤ lo) (hh : lo ≤ hi) (h12 : hi ≤ 12) {d : D} (hd : JarD d) :
    ∃ (ws : List Str) (ls : List (Str × Str)) (d' : D), F__law_net [.jar 0, .dat (.int lo), .dat (.int hi), .dat (.int mx)] [d] = .ok (netD ws ls) [d'] ∧ JarD d' ∧ Net lo hi mx ws ls := by
  obtain ⟨v, d1, a1, a2, a3, a4⟩ := dip_ok (m := (hi : Int) - lo + 1) (by omega) (by omega) hd
  obtain ⟨k, rfl⟩ : ∃ k : Nat, v = k := ⟨v.toNat, by omega⟩
  obtain ⟨ws, d2, b1, b2, b3, b4, b5⟩ := names_ok (m := lo + k) (by omega) a2
  have b1' : F__law_names [.jar 0, .dat (.int ((lo : Int) + k))] [d1] = .ok (.lst (ws.map D.str)) [d2] := by rw [show ((lo : Int) + k) = ((lo + k : Nat) : Int) by omega]; exact b1
  have lq : ws.length * ws.length ≤ 12 * 12 := Nat.mul_le_mul (by omega) (by omega)
  have la := allPairs_len (l := ws)
  have lp := allPairs_pos (l := ws) (by omega)
  obtain ⟨x', c1⟩ := net1 (lo := lo) (hi := hi) (mx := mx) (ws := ws) (by omega) (y := .un) (z := .un) (t := .un) (d := d2)
  obtain ⟨mv, d3, e1, e2, e3⟩ := pick_ok (l := [.int 2, .int 3, .int (allPairs ws).length]) (by simp) (by simp) b2
  obtain ⟨m, hm, hm2, rfl⟩ : ∃ m : Nat, 0 < m ∧ (m : Int) < 1073741824 ∧ mv = .int m := by
    rcases List.mem_cons.mp e3 with rfl | e3
    · exact ⟨2, by omega, by omega, rfl⟩
    rcases List.mem_cons.mp e3 with rfl | e3
    · exact ⟨3, by omega, by omega, rfl⟩
    · rw [List.mem_singleton.mp e3]; exact ⟨_, lp, by omega, rfl⟩
  obtain ⟨u, d4, f1, f2, f3, f4⟩ := dip_ok (m := m) (by omega) hm2 e2
  obtain ⟨many, hmany⟩ : ∃ n : Int, n = if (allPairs ws).length + 1 - u < (mx : Int) then (allPairs ws).length + 1 - u else (mx : Int) := ⟨_, rfl⟩
  obtain ⟨tt, htt⟩ : ∃ n : Int, n = if ((allPairs ws).length : Int) < many then ((allPairs ws).length : Int) else many := ⟨_, rfl⟩
  have hm1 : many ≤ mx := by rw [hmany]; split <;> omega
  have hm3 : -1073741824 ≤ many := by rw [hmany]; split <;> omega
  have ht1 : tt ≤ (allPairs ws).length := by rw [htt]; split <;> omega
  have ht2 : tt ≤ mx := by rw [htt]; split <;> omega
  have ht3 : -1073741824 ≤ tt := by rw [htt]; split <;> omega
  obtain ⟨fd, rest, z', t', d5, g1, g2, g3, g4⟩ := net2 (lo := lo) (hi := hi) (mx := mx) (allPairs_lk b4) (by omega) (T := tt.toNat) (by omega) (x := x') (y := .dat (.int many)) (z := .un) (t := .un) f2
  refine ⟨ws, fd, d5, ?_, g2, b4, b5, by omega, by omega, g3, by omega⟩
  have r1 : rngI1 [.val (.int ws.length)] = some (rng 0 ws.length) := v_rng (by omega) (by omega)
  have r2 : rngI1 [.val (.int tt)] = some (rng 0 tt.toNat) := v_rng (by omega) (by omega)
  exact net_run a1 b1' c1 e1 f1 hmany htt g1 r1 r2
end K03

namespace K03
open PySem L2 DL PySem.Spec PyProof.Rows
/-! values of any kind; which are names -/
def Tx : List Str := pool ++ (["A", "abcdefghi", "", "a1", "a b", "ok", "a\nb", "nobody", "c", "d", "e", "f", "g", "h", "i", "j"] : List Str)
def vl : D → Bool
  | .str w => decide (w ∈ Tx)
  | .non | .bl _ | .int _ | .tup _ | .lst _ | .dct _ _ => true
  | _ => false
def nmD : D → Bool
  | .str w => nmB w
  | _ => false
def txt : D → Str
  | .str w => w
  | _ => ""
theorem name_s : ∀ w ∈ Tx, F_is_name [.dat (.str w)] [] = .ok (.bl (nmB w)) [] ∧ F__law_is_name [.dat (.str w)] [] = .ok (.bl (nmB w)) [] := by
  unfold Tx pool pool0
  simp only [List.cons_append, List.nil_append]
  repeat' (first | (refine List.forall_mem_cons.mpr ⟨⟨by kernel_rfl, by kernel_rfl⟩, ?_⟩) | exact fun _ h => nomatch h)
theorem ty_no {d : D} (h : vl d = true) (hn : ∀ w, d ≠ .str w) : isiTy CS "str" d = some false := by
  cases d <;> first | rfl | exact absurd rfl (hn _) | cases h
theorem name_v {d : D} (h : vl d = true) : F_is_name [.dat d] [] = .ok (.bl (nmD d)) [] ∧ F__law_is_name [.dat d] [] = .ok (.bl (nmD d)) [] := by
  by_cases hs : ∃ w, d = .str w
  · obtain ⟨w, rfl⟩ := hs
    exact name_s w (of_decide_eq_true h)
  · have hn : ∀ w, d ≠ .str w := fun w z => hs ⟨w, z⟩
    have t := ty_no h hn
    have e : nmD d = false := by cases d <;> first | rfl | exact absurd rfl (hn _)
    rw [e]
    exact ⟨by simp -implicitDefEqProofs [F_is_name, g_is_name, t], by simp -implicitDefEqProofs [F__law_is_name, g__law_is_name, t]⟩
theorem nm_of {d : D} (h : nmD d = true) : d = .str (txt d) ∧ nmOk (txt d) := by
  cases d <;> first | (cases h; done) | skip
  exact ⟨rfl, nmB_iff.mp h⟩
theorem nms_of : ∀ {l : List D}, (∀ d ∈ l, nmD d = true) → l = (l.map txt).map D.str ∧ ∀ w ∈ l.map txt, nmOk w
  | [], _ => ⟨rfl, fun _ h => nomatch h⟩
  | d :: l, h => by
    obtain ⟨h1, h2⟩ := nm_of (h d List.mem_cons_self)
    obtain ⟨h3, h4⟩ := nms_of (l := l) fun x hx => h x (List.mem_cons_of_mem _ hx)
    refine ⟨?_, fun w hw => ?_⟩
    · rw [List.map_cons, List.map_cons, ← h3, ← h1]
    · rcases List.mem_cons.mp hw with rfl | hw
      · exact h2
      · exact h4 w hw
theorem sh_ns {ws : List Str} (h : ∀ w ∈ ws, nmOk w) {k : Nat} : Sh (k + 1) (.tup (ws.map D.str)) := sh_row fun s hs => nm_str (h s hs)
/-- a number written out -/
def strO : Option D → Str
  | some (.str s) => s
  | _ => ""
def rp (k : Nat) : Str := strO (repr2D [.int (k : Int)])
theorem rp_ok {k : Nat} (h : k ≤ 100) : repr2D [.int (k : Int)] = some (.str (rp k)) := by
  have e : repr2D [.int (k : Int)] = if (k : Int).natAbs.log2 < 1920 then some (.str (toString (k : Int))) else none := rfl
  have l : (k : Int).natAbs.log2 < 1920 := Nat.lt_of_le_of_lt (Nat.log2_le_self _) (by omega)
  unfold rp
  rw [e, if_pos l]
  rfl
end K03

namespace K03
open PySem L2 DL PySem.Spec PyProof.Rows
/-! places are looked at -/
def nth (l : List D) (k : Nat) : D := l.getD k .non
def eqNm : D → D → Bool
  | .str x, .str y => decide (x = y)
  | _, _ => false
def badP (l : List D) (k : Nat) : Bool := decide (k = 9) || (!nmD (nth l k) || (l.take k).any fun d => eqNm d (nth l k))
def xP (d : D) : Exc := ⟨"InvalidPlaces", ["index"], [d]⟩
def xT (d : D) : Exc := ⟨"InvalidTies", ["index"], [d]⟩
def outP (l : List D) : OutF := if l.length < 2 then .exn (xP .non) [] else match firstB (badP l) l.length with
  | none => .ok .non []
  | some k => .exn (xP (.int k)) []
def slipP (l : List D) : D := if l.length < 2 then .lst [.str "spots", .str "None"] else match firstB (badP l) l.length with
  | none => .lst []
  | some k => .lst [.str "spots", .str (rp k)]
variable {l : List D} {k : Nat}
theorem at_get (h : k < l.length) : atI l (k : Int) = some (nth l k) := at_nat (by unfold nth; rw [List.getD_eq_getElem?_getD, List.getElem?_eq_getElem h]; rfl)
/-- what is true at a number when none ahead is bad -/
theorem ahead (hk : k < l.length) (h : ∀ m < k, badP l m = false) : ∃ ws : List Str, l.take k = ws.map D.str ∧ ∀ w ∈ ws, nmOk w := by
  obtain ⟨h1, h2⟩ := nms_of (l := l.take k) fun d hd => by
    obtain ⟨m, hm, rfl⟩ := List.mem_take_iff_getElem.mp hd
    have hmk : m < k := by omega
    have z := h m hmk
    unfold badP at z
    rw [Bool.or_eq_false_iff, Bool.or_eq_false_iff] at z
    have z2 := z.2.1
    unfold nth at z2
    rw [List.getD_eq_getElem?_getD, List.getElem?_eq_getElem (by omega)] at z2
    simpa using z2
  exact ⟨_, h1, h2⟩
theorem any_nm (ws : List Str) (w : Str) : ((ws.map D.str).any fun d => eqNm d (.str w)) = decide (w ∈ ws) := by
  induction ws with
  | nil => rfl
  | cons v ws ih =>
    rw [List.map_cons, List.any_cons, ih]
    have e : eqNm (.str v) (.str w) = decide (v = w) := rfl
    rw [e]
    by_cases h : v = w
    · subst h; simp
    · have h' : ¬ w = v := fun z => h z.symm
      simp [h, h']
theorem in_take (ws : List Str) (hw : ∀ w ∈ ws, nmOk w) {w : Str} (hn : nmOk w) : inD (.str w) (.tup (ws.map D.str)) = some (.bl (decide (w ∈ ws))) := by
  rw [inD_tup (k := 1) (sh_nm hn) (sh_ns hw) (by omega), memB_str]
theorem places_v (hl : l.length ≤ 100) (hv : ∀ d ∈ l, vl d = true) : F_check_places [.dat (.tup l)] [] = outP l := by
  unfold outP
  by_cases h2 : l.length < 2
  · have l2 : (l.length : Int) < 2 := by omega
    rw [if_pos h2]
    simp -implicitDefEqProofs [F_check_places, g_check_places, l2, xP]
  · rw [if_neg h2]
    have l2 : ¬ (l.length : Int) < 2 := by omega
    have r1 : rngI1 [.val (.int l.length)] = some (rng 0 l.length) := v_rng (by omega) (by omega)
    have step : ∀ k < l.length, (∀ m < k, badP l m = false) → b1_check_places ⟨[.dat (.tup l), .dat (.int k)], []⟩ = if badP l k then .exn (xP (.int k)) ⟨[.dat (.tup l), .dat (.int k)], []⟩ else .ok .nx ⟨[.dat (.tup l), .dat (.int k)], []⟩ := by
      intro k hk hb
      obtain ⟨ws, e1, hw⟩ := ahead hk hb
      have hat := at_get hk
      have vk : vl (nth l k) = true := hv _ (by unfold nth; rw [List.getD_eq_getElem?_getD, List.getElem?_eq_getElem hk]; exact List.getElem_mem hk)
      have hn := (name_v vk).1
      by_cases k9 : k = 9
      · subst k9
        have e : badP l 9 = true := by simp [badP]
        rw [e]
        simp -implicitDefEqProofs [b1_check_places, xP, v_eqI]
      · have k9' : ¬ (k : Int) = 9 := by omega
        cases nb : nmD (nth l k) with
        | false =>
          have e : badP l k = true := by simp [badP, nb]
          rw [nb] at hn
          rw [e]
          simp -implicitDefEqProofs [b1_check_places, hat, hn, k9', xP, v_eqI]
        | true =>
          obtain ⟨e2, h3⟩ := nm_of nb
          have e : badP l k = decide (txt (nth l k) ∈ ws) := by
            have z := any_nm ws (txt (nth l k))
            rw [← e2] at z
            unfold badP
            rw [nb, e1, z]
            simp [k9]
          have hin : inD (nth l k) (.tup (l.take k)) = some (.bl (decide (txt (nth l k) ∈ ws))) := by
            rw [e1, e2]
            exact in_take ws hw h3
          rw [nb] at hn
          rw [e]
          by_cases hm : txt (nth l k) ∈ ws
          · simp -implicitDefEqProofs [b1_check_places, hat, hn, k9', xP, v_eqI]
            rw [cut_to, hin]
            simp -implicitDefEqProofs [hm]
          · simp -implicitDefEqProofs [b1_check_places, hat, hn, k9', xP, v_eqI]
            rw [cut_to, hin]
            simp -implicitDefEqProofs [hm]
    have F := first_ok (i := 1) (body := b1_check_places) (n := l.length) (bad := badP l) (o := fun k => .exn (xP (.int k)) ⟨[.dat (.tup l), .dat (.int k)], []⟩) (C := fun x => ⟨[.dat (.tup l), x], []⟩) (fun _ _ => rfl)
      (fun k hk hb hn => ⟨.dat (.int k), by rw [step k hk hb, hn]; rfl⟩) (fun k hk hb hn => by rw [step k hk hb, hn]; rfl) (fun _ => trivial) .un
    rcases F with ⟨f1, y, f2⟩ | ⟨k, f1, f2⟩
    · rw [f1]
      simp -implicitDefEqProofs [F_check_places, g_check_places, l2, r1, f2]
    · rw [f1]
      simp -implicitDefEqProofs [F_check_places, g_check_places, l2, r1, f2]
theorem spots_v (hl : l.length ≤ 100) (hv : ∀ d ∈ l, vl d = true) : F__law_spots_slip [.dat (.tup l)] [] = .ok (slipP l) [] := by
  unfold slipP
  by_cases h2 : l.length < 2
  · have l2 : (l.length : Int) < 2 := by omega
    rw [if_pos h2]
    simp -implicitDefEqProofs [F__law_spots_slip, g__law_spots_slip, l2]
  · rw [if_neg h2]
    have l2 : ¬ (l.length : Int) < 2 := by omega
    have r1 : rngI1 [.val (.int l.length)] = some (rng 0 l.length) := v_rng (by omega) (by omega)
    have step : ∀ k < l.length, (∀ m < k, badP l m = false) → b1__law_spots_slip ⟨[.dat (.tup l), .dat (.int k)], []⟩ = if badP l k then .ok (.rt (.lst [.str "spots", .str (rp k)])) ⟨[.dat (.tup l), .dat (.int k)], []⟩ else .ok .nx ⟨[.dat (.tup l), .dat (.int k)], []⟩ := by
      intro k hk hb
      obtain ⟨ws, e1, hw⟩ := ahead hk hb
      have hat := at_get hk
      have rk := rp_ok (k := k) (by omega)
      have vk : vl (nth l k) = true := hv _ (by unfold nth; rw [List.getD_eq_getElem?_getD, List.getElem?_eq_getElem hk]; exact List.getElem_mem hk)
      have hn := (name_v vk).2
      by_cases k9 : k = 9
      · subst k9
        have e : badP l 9 = true := by simp [badP]
        have rk : repr2D [.int 9] = some (.str (rp 9)) := rk
        rw [e]
        simp -implicitDefEqProofs [b1__law_spots_slip, rk, v_eqI]
      · have k9' : ¬ (k : Int) = 9 := by omega
        cases nb : nmD (nth l k) with
        | false =>
          have e : badP l k = true := by simp [badP, nb]
          rw [nb] at hn
          rw [e]
          simp -implicitDefEqProofs [b1__law_spots_slip, hat, hn, k9', rk, v_eqI]
        | true =>
          obtain ⟨e2, h3⟩ := nm_of nb
          have e : badP l k = decide (txt (nth l k) ∈ ws) := by
            have z := any_nm ws (txt (nth l k))
            rw [← e2] at z
            unfold badP
            rw [nb, e1, z]
            simp [k9]
          have hin : inD (nth l k) (.tup (l.take k)) = some (.bl (decide (txt (nth l k) ∈ ws))) := by
            rw [e1, e2]
            exact in_take ws hw h3
          rw [nb] at hn
          rw [e]
          by_cases hm : txt (nth l k) ∈ ws
          · simp -implicitDefEqProofs [b1__law_spots_slip, hat, hn, k9', rk, v_eqI]
            rw [cut_to, hin]
            simp -implicitDefEqProofs [hm, rk]
          · simp -implicitDefEqProofs [b1__law_spots_slip, hat, hn, k9', rk, v_eqI]
            rw [cut_to, hin]
            simp -implicitDefEqProofs [hm, rk]
    have F := first_ok (i := 1) (body := b1__law_spots_slip) (n := l.length) (bad := badP l) (o := fun k => .ok (.rt (.lst [.str "spots", .str (rp k)])) ⟨[.dat (.tup l), .dat (.int k)], []⟩) (C := fun x => ⟨[.dat (.tup l), x], []⟩) (fun _ _ => rfl)
      (fun k hk hb hn => ⟨.dat (.int k), by rw [step k hk hb, hn]; rfl⟩) (fun k hk hb hn => by rw [step k hk hb, hn]; rfl) (fun _ => trivial) .un
    rcases F with ⟨f1, y, f2⟩ | ⟨k, f1, f2⟩
    · rw [f1]
      simp -implicitDefEqProofs [F__law_spots_slip, g__law_spots_slip, l2, r1, f2]
    · rw [f1]
      simp -implicitDefEqProofs [F__law_spots_slip, g__law_spots_slip, l2, r1, f2]
/-- what is no tuple -/
theorem places_n {d : D} (h : isiTy CS "tuple" d = some false) : F_check_places [.dat d] [] = .exn (xP .non) [] ∧ F__law_spots_slip [.dat d] [] = .ok (.lst [.str "spots", .str "None"]) [] := by
  exact ⟨by simp -implicitDefEqProofs [F_check_places, g_check_places, h, xP], by simp -implicitDefEqProofs [F__law_spots_slip, g__law_spots_slip, h]⟩
end K03

namespace K03
open PySem L2 DL PySem.Spec PyProof.Rows
/-! ties are looked at -/
theorem tx_ok : ∀ w ∈ Tx, PyData.strOk w = true := by decide +kernel
def vt : D → Bool
  | .tup [x, y] => vl x && vl y
  | .tup _ | .non | .bl _ | .int _ | .str _ | .lst _ | .dct _ _ => true
  | _ => false
def pairD : D → Bool
  | .tup [_, _] => true
  | _ => false
def tieB (ws : List Str) : D → Bool
  | .tup [.str a, .str b] => !decide (a = b) && (decide (a ∈ ws) && decide (b ∈ ws))
  | _ => false
def eqTie : D → D → Bool
  | .tup [.str a, .str b], .tup [.str c, .str d] => decide ((a, b) = (c, d) ∨ (b, a) = (c, d))
  | _, _ => false
def badT (ws : List Str) (l : List D) (k : Nat) : Bool := decide (k = 16) || (!tieB ws (nth l k) || (l.take k).any fun d => eqTie d (nth l k))
def outT (ws : List Str) (l : List D) : OutF := match firstB (badT ws l) l.length with
  | none => .ok .non []
  | some k => .exn (xT (.int k)) []
def slipT (ws : List Str) (l : List D) : D := match firstB (badT ws l) l.length with
  | none => .lst []
  | some k => .lst [.str "links", .str (rp k)]
variable {ws : List Str} {d x y : D}
theorem tup_no {d : D} (h : vt d = true) (hn : ∀ l, d ≠ .tup l) : isiTy CS "tuple" d = some false := by
  cases d <;> first | rfl | exact absurd rfl (hn _) | cases h
theorem two (l : List D) : (∃ x y, l = [x, y]) ∨ (pairD (.tup l) = false ∧ ¬ (l.length : Int) = 2) := by
  match l with
  | [] => exact .inr ⟨rfl, by decide⟩
  | [_] => exact .inr ⟨rfl, by simp⟩
  | [x, y] => exact .inl ⟨x, y, rfl⟩
  | _ :: _ :: _ :: m => exact .inr ⟨rfl, by simp only [List.length_cons]; omega⟩
theorem pair_cases (h : vt d = true) : (∃ x y, d = .tup [x, y] ∧ vl x = true ∧ vl y = true) ∨ (pairD d = false ∧ tieB ws d = false ∧ F_is_pair [.dat d] [] = .ok (.bl false) [] ∧ ((isiTy CS "tuple" d = some false) ∨ ∃ l, d = .tup l ∧ ¬ (l.length : Int) = 2)) := by
  by_cases ht : ∃ l, d = .tup l
  · obtain ⟨l, rfl⟩ := ht
    rcases two l with ⟨x, y, rfl⟩ | ⟨p1, p2⟩
    · have z : (vl x && vl y) = true := h
      rw [Bool.and_eq_true] at z
      exact .inl ⟨x, y, rfl, z.1, z.2⟩
    · refine .inr ⟨p1, ?_, ?_, .inr ⟨l, rfl, p2⟩⟩
      · match l, p1 with
        | [], _ => rfl
        | [_], _ => simp [tieB]
        | _ :: _ :: _ :: _, _ => simp [tieB]
      · simp -implicitDefEqProofs [F_is_pair, g_is_pair, p2]
  · have hn : ∀ l, d ≠ .tup l := fun l z => ht ⟨l, z⟩
    have t := tup_no h hn
    refine .inr ⟨?_, ?_, ?_, .inl t⟩
    · cases d <;> first | rfl | exact absurd rfl (hn _)
    · cases d <;> first | rfl | exact absurd rfl (hn _)
    · simp -implicitDefEqProofs [F_is_pair, g_is_pair, t]
theorem pair_two : F_is_pair [.dat (.tup [x, y])] [] = .ok (.bl true) [] := by simp -implicitDefEqProofs [F_is_pair, g_is_pair]
theorem tieB_no (hw : ∀ w ∈ ws, nmOk w) (h : nmD x = false ∨ nmD y = false) : tieB ws (.tup [x, y]) = false := by
  cases hx : tieB ws (.tup [x, y]) with
  | false => rfl
  | true =>
    cases x <;> first | (cases hx; done) | skip
    cases y <;> first | (cases hx; done) | skip
    rename_i a b
    have e : tieB ws (.tup [.str a, .str b]) = (!decide (a = b) && (decide (a ∈ ws) && decide (b ∈ ws))) := rfl
    rw [e, Bool.and_eq_true, Bool.and_eq_true, decide_eq_true_eq, decide_eq_true_eq] at hx
    have ea : nmD (.str a) = nmB a := rfl
    have eb : nmD (.str b) = nmB b := rfl
    rw [ea, eb, nmB_iff.mpr (hw _ hx.2.1), nmB_iff.mpr (hw _ hx.2.2)] at h
    rcases h with h | h <;> cases h
theorem in_ws (hw : ∀ w ∈ ws, nmOk w) {a : Str} (ha : nmOk a) : inD (.str a) (.tup (ws.map D.str)) = some (.bl (decide (a ∈ ws))) := by
  rw [inD_tup (k := 1) (sh_nm ha) (sh_ns hw) (by omega), memB_str]
theorem in_wsT (hw : ∀ w ∈ ws, nmOk w) {a : Str} (ha : a ∈ Tx) : inD (.str a) (.tup (ws.map D.str)) = some (.bl (decide (a ∈ ws))) := by
  rw [inD_tup (k := 1) (.str (tx_ok a ha)) (sh_ns hw) (by omega), memB_str]
theorem tie_v (hw : ∀ w ∈ ws, nmOk w) (h : vt d = true) : F_is_tie [.dat d, .dat (.tup (ws.map D.str))] [] = .ok (.bl (tieB ws d)) [] := by
  rcases pair_cases (ws := ws) h with ⟨x, y, rfl, vx, vy⟩ | ⟨_, t1, t2, _⟩
  · have nx := (name_v vx).1
    have ny := (name_v vy).1
    have p2 := pair_two (x := x) (y := y)
    cases hx : nmD x with
    | false =>
      rw [hx] at nx
      rw [tieB_no hw (.inl hx)]
      simp -implicitDefEqProofs [F_is_tie, g_is_tie, p2, nx]
    | true =>
      rw [hx] at nx
      cases hy : nmD y with
      | false =>
        rw [hy] at ny
        rw [tieB_no hw (.inr hy)]
        simp -implicitDefEqProofs [F_is_tie, g_is_tie, p2, nx, ny]
      | true =>
        rw [hy] at ny
        obtain ⟨ex, hx2⟩ := nm_of hx
        obtain ⟨ey, hy2⟩ := nm_of hy
        rw [ex] at nx p2 ⊢
        rw [ey] at ny p2 ⊢
        have n1 := v_neS (nm_str hx2) (nm_str hy2)
        have i1 := in_ws hw hx2
        have i2 := in_ws hw hy2
        have e : tieB ws (.tup [.str (txt x), .str (txt y)]) = (!decide (txt x = txt y) && (decide (txt x ∈ ws) && decide (txt y ∈ ws))) := rfl
        rw [e]
        by_cases b1 : txt x = txt y
        · rw [← b1] at n1 p2 ny ⊢
          simp -implicitDefEqProofs [F_is_tie, g_is_tie, p2, nx, ny, n1]
        · by_cases b2 : txt x ∈ ws
          · simp -implicitDefEqProofs [F_is_tie, g_is_tie, p2, nx, ny, n1, i1, i2, b1, b2]
          · simp -implicitDefEqProofs [F_is_tie, g_is_tie, p2, nx, ny, n1, i1, i2, b1, b2]
  · rw [t1]
    simp -implicitDefEqProofs [F_is_tie, g_is_tie, t2]
theorem tie_of (h : tieB ws d = true) : ∃ p : Str × Str, d = tieD p ∧ p.1 ≠ p.2 ∧ p.1 ∈ ws ∧ p.2 ∈ ws := by
  unfold tieB at h
  split at h
  · rename_i a b
    rw [Bool.and_eq_true, Bool.and_eq_true, decide_eq_true_eq, decide_eq_true_eq, Bool.not_eq_true', decide_eq_false_iff_not] at h
    exact ⟨(a, b), rfl, h.1, h.2.1, h.2.2⟩
  · cases h
theorem eqB_tie {p q : Str × Str} : eqB (tieD p) (tieD q) = decide (p = q) := by
  have := eqB_row [p.1, p.2] [q.1, q.2]
  have e : eqB (tieD p) (tieD q) = decide ([p.1, p.2] = [q.1, q.2]) := this
  rw [e]
  by_cases h : p = q
  · subst h; simp
  · have : ¬ (p.1 = q.1 ∧ p.2 = q.2) := fun z => h (Prod.ext z.1 z.2)
    simp [h, this]
theorem memB_tie {q : Str × Str} : ∀ {ps : List (Str × Str)}, memB (tieD q) (ps.map tieD) = decide (q ∈ ps)
  | [] => by simp [memB_nil]
  | p :: ps => by
    rw [List.map_cons, memB_cons, memB_tie, eqB_tie]
    by_cases h : p = q
    · simp [h]
    · have h2 : ¬ q = p := fun z => h z.symm
      simp [h, h2]
theorem sh_tieN {p : Str × Str} (h1 : nmOk p.1) (h2 : nmOk p.2) {k : Nat} : Sh (k + 1) (tieD p) := .tup fun d hd => by
  rcases List.mem_cons.mp
                                                                                                              hd with rfl | hd
  · exact sh_nm h1
  · rw [List.mem_singleton.mp hd]; exact sh_nm h2
theorem ahT {l : List D} {k : Nat} (hk : k < l.length) (h : ∀ m < k, badT ws l m = false) : ∃ ps : List (Str × Str), l.take k = ps.map tieD ∧ ∀ p ∈ ps, p.1 ∈ ws ∧ p.2 ∈ ws := by
  have key : ∀ d ∈ l.take k, tieB ws d = true := fun d hd => by
    obtain ⟨m, hm, rfl⟩ := List.mem_take_iff_getElem.mp hd
    have hmk : m < k := by omega
    have z := h m hmk
    unfold badT at z
    rw [Bool.or_eq_false_iff, Bool.or_eq_false_iff] at z
    have z2 := z.2.1
    unfold nth at z2
    rw [List.getD_eq_getElem?_getD, List.getElem?_eq_getElem (by omega)] at z2
    simpa using z2
  generalize l.take k = m at key
  clear h hk
  induction m with
  | nil => exact ⟨[], rfl, fun _ h => nomatch h⟩
  | cons x m ih =>
    obtain ⟨p, rfl, _, p2, p3⟩ := tie_of (key x List.mem_cons_self)
    obtain ⟨ps, h1, h2⟩ := ih fun d hd => key d (List.mem_cons_of_mem _ hd)
    refine ⟨p :: ps, by rw [h1]; rfl, fun q hq => ?_⟩
    rcases List.mem_cons.mp
                                                                                                              hq with rfl | hq
    · exact ⟨p2, p3⟩
    · exact h2 q hq
theorem any_tie (ps : List (Str × Str)) (q : Str × Str) : ((ps.map tieD).any fun d => eqTie d (tieD q)) = decide (q ∈ ps ∨ q.swap ∈ ps) := by
  induction ps with
  | nil => rfl
  | cons p ps ih =>
    rw [List.map_cons, List.any_cons, ih]
    have e : eqTie (tieD p) (tieD q) = decide (p = q ∨ p.swap = q) := rfl
    rw [e]
    by_cases h : p = q
    · subst h; simp
    · have h' : ¬ q = p := fun z => h z.symm
      by_cases h2 : p.swap = q
      · subst h2; simp
      · have h3 : ¬ q.swap = p := fun z => h2 (by rw [← z, Prod.swap_swap])
        simp [h, h2, h', h3]
end K03

namespace K03
open PySem L2 DL PySem.Spec PyProof.Rows
/-! the first bad tie -/
variable {ws : List Str}
def idxD (ps : List (Str × Str)) (q : Str × Str) : D := match firstB (fun j => decide (ps.getD j ("", "") = q ∨ ps.getD j ("", "") = q.swap)) ps.length with
  | none => .non
  | some j => .int j
theorem idx_non {ps : List (Str × Str)} {q : Str × Str} : (idxD ps q).isNon = !decide (q ∈ ps ∨ q.swap ∈ ps) := by
  unfold idxD
  cases h : firstB (fun j => decide (ps.getD j ("", "") = q ∨ ps.getD j ("", "") = q.swap)) ps.length with
  | none =>
    have z := firstB_none h
    have : ¬ (q ∈ ps ∨ q.swap ∈ ps) := fun hh => by
      rcases hh with hh | hh
      · obtain ⟨j, hj, e⟩ := List.mem_iff_getElem.mp hh
        have := z j hj
        rw [List.getD_eq_getElem?_getD, List.getElem?_eq_getElem hj] at this
        simp [e] at this
      · obtain ⟨j, hj, e⟩ := List.mem_iff_getElem.mp hh
        have := z j hj
        rw [List.getD_eq_getElem?_getD, List.getElem?_eq_getElem hj] at this
        simp [e] at this
    rw [decide_eq_false this]
    rfl
  | some j =>
    obtain ⟨h1, h2, _⟩ := firstB_some h
    have h2 := of_decide_eq_true h2
    rw [List.getD_eq_getElem?_getD, List.getElem?_eq_getElem h1] at h2
    have : q ∈ ps ∨ q.swap ∈ ps := by
      rcases h2 with h2 | h2
      · exact .inl (by rw [← h2]; exact List.getElem_mem h1)
      · exact .inr (by rw [← h2]; exact List.getElem_mem h1)
    rw [decide_eq_true this]
    rfl
theorem index_v {ps : List (Str × Str)} {q : Str × Str} (hl : ps.length ≤ 200) (hp : ∀ p ∈ ps, nmOk p.1 ∧ nmOk p.2) (h1 : nmOk q.1) (h2 : nmOk q.2) :
    F_index_in [.dat (.tup (ps.map tieD)), .dat (.str q.1), .dat (.str q.2)] [] = .ok (idxD ps q) [] := by
  have r1 : rngI1 [.val (.int ps.length)] = some (rng 0 ps.length) := v_rng (by omega) (by omega)
  have step : ∀ k < ps.length, b1_index_in ⟨[.dat (.tup (ps.map tieD)), .dat (.str q.1), .dat (.str q.2), .dat (.int k)], []⟩ = if decide (ps.getD k ("", "") = q ∨ ps.getD k ("", "") = q.swap) then .ok (.rt (.int k)) ⟨[.dat (.tup (ps.map tieD)), .dat (.str q.1), .dat (.str q.2), .dat (.int k)], []⟩ else .ok .nx ⟨[.dat (.tup (ps.map tieD)), .dat (.str q.1), .dat (.str q.2), .dat (.int k)], []⟩ := by
    intro k hk
    have hat : atI (ps.map tieD) (k : Int) = some (tieD ps[k]) := at_nat (by rw [List.getElem?_map, List.getElem?_eq_getElem hk]; rfl)
    obtain ⟨b1, b2⟩ := hp _ (List.getElem_mem hk)
    have e0 : ps.getD k ("", "") = ps[k] := by rw [List.getD_eq_getElem?_getD, List.getElem?_eq_getElem hk]; rfl
    rw [e0]
    have hin : inD (tieD ps[k]) (.tup [.tup [.str q.1, .str q.2], .tup [.str q.2, .str q.1]]) = some (.bl (decide (ps[k] = q ∨ ps[k] = q.swap))) := by
      have e : D.tup [.tup [.str q.1, .str q.2], .tup [.str q.2, .str q.1]] = .tup ([q, q.swap].map tieD) := rfl
      have s2 : Sh 2 (.tup ([q, q.swap].map tieD)) := .tup fun d hd => by
        rcases List.mem_cons.mp
                                                                                                              hd with rfl | hd
        · exact sh_tieN h1 h2
        · rw [List.mem_singleton.mp hd]; exact sh_tieN h2 h1
      rw [e, inD_tup (k := 2) (sh_tieN b1 b2) s2 (by omega), memB_tie]
      simp only [List.mem_cons, List.not_mem_nil, or_false]
    by_cases hq : ps[k] = q ∨ ps[k] = q.swap
    · rw [decide_eq_true hq] at hin
      rw [decide_eq_true hq]
      simp -implicitDefEqProofs [b1_index_in, hat, hin]
    · rw [decide_eq_false hq] at hin
      rw [decide_eq_false hq]
      simp -implicitDefEqProofs [b1_index_in, hat, hin]
  have F := first_ok (i := 3) (body := b1_index_in) (n := ps.length) (bad := fun j => decide (ps.getD j ("", "") = q ∨ ps.getD j ("", "") = q.swap)) (o := fun k => .ok (.rt (.int k)) ⟨[.dat (.tup (ps.map tieD)), .dat (.str q.1), .dat (.str q.2), .dat (.int k)], []⟩) (C := fun x => ⟨[.dat (.tup (ps.map tieD)), .dat (.str q.1), .dat (.str q.2), x], []⟩) (fun _ _ => rfl)
    (fun k hk hb hn => ⟨.dat (.int k), by rw [step k hk, hn]; rfl⟩) (fun k hk hb hn => by rw [step k hk, hn]; rfl) (fun _ => trivial) .un
  unfold idxD
  rcases F with ⟨f1, y, f2⟩ | ⟨k, f1, f2⟩
  · rw [f1]
    simp -implicitDefEqProofs [F_index_in, g_index_in, r1, f2]
  · rw [f1]
    simp -implicitDefEqProofs [F_index_in, g_index_in, r1, f2]
theorem bad_case {l : List D} {k : Nat} (hk : k < l.length) (hb : ∀ m < k, badT ws l m = false) (k16 : k ≠ 16) (ht : tieB ws (nth l k) = true) : ∃ (ps : List (Str × Str)) (q : Str × Str), l.take k = ps.map tieD ∧ (∀ p ∈ ps, p.1 ∈ ws ∧ p.2 ∈ ws) ∧ nth l k = tieD q ∧ q.1 ∈ ws ∧ q.2 ∈ ws ∧ q.1 ≠ q.2 ∧ badT ws l k = decide (q ∈ ps ∨ q.swap ∈ ps) := by
  obtain ⟨ps, e1, hp⟩ := ahT hk hb
  obtain ⟨q, e2, q0, q1, q2⟩ := tie_of ht
  refine ⟨ps, q, e1, hp, e2, q1, q2, q0, ?_⟩
  have z := any_tie ps q
  rw [← e2] at z
  unfold badT
  rw [ht, e1, z]
  simp [k16]
theorem ties_v {l : List D} (hw : ∀ w ∈ ws, nmOk w) (hl : l.length ≤ 200) (hv : ∀ d ∈ l, vt d = true) : F_check_ties [.dat (.tup l), .dat (.tup (ws.map D.str))] [] = outT ws l := by
  have r1 : rngI1 [.val (.int l.length)] = some (rng 0 l.length) := v_rng (by omega) (by omega)
  have step : ∀ k < l.length, (∀ m < k, badT ws l m = false) → b1_check_ties ⟨[.dat (.tup l), .dat (.tup (ws.map D.str)), .dat (.int k)], []⟩ = if badT ws l k then .exn (xT (.int k)) ⟨[.dat (.tup l), .dat (.tup (ws.map D.str)), .dat (.int k)], []⟩ else .ok .nx ⟨[.dat (.tup l), .dat (.tup (ws.map D.str)), .dat (.int k)], []⟩ := by
    intro k hk hb
    have hat := at_get hk
    have vk : vt (nth l k) = true := hv _ (by unfold nth; rw [List.getD_eq_getElem?_getD, List.getElem?_eq_getElem hk]; exact List.getElem_mem hk)
    have t1 := tie_v hw vk
    by_cases k16 : k = 16
    · subst k16
      have e : badT ws l 16 = true := by simp [badT]
      rw [e]
      simp -implicitDefEqProofs [b1_check_ties, xT, v_eqI]
    · have k16' : ¬ (k : Int) = 16 := by omega
      cases ht : tieB ws (nth l k) with
      | false =>
        have e : badT ws l k = true := by simp [badT, ht]
        rw [ht] at t1
        rw [e]
        simp -implicitDefEqProofs [b1_check_ties, hat, t1, k16', xT, v_eqI]
      | true =>
        obtain ⟨ps, q, e1, hp, e2, q1, q2, q0, e⟩ := bad_case hk hb k16 ht
        rw [ht] at t1
        have ix := index_v (ps := ps) (q := q) (by have := congrArg List.length e1; rw [List.length_take, List.length_map] at this; omega) (fun p h => ⟨hw _ (hp p h).1, hw _ (hp p h).2⟩) (hw _ q1) (hw _ q2)
        have nn := idx_non (ps := ps) (q := q)
        rw [← e1] at ix
        rw [e]
        rw [e2] at hat t1
        have ta : tieD q = .tup [.str q.1, .str q.2] := rfl
        have c1 : cutL l none (some (k : Int)) = l.take k := cut_to
        cases hd : decide (q ∈ ps ∨ q.swap ∈ ps) with
        | false =>
          rw [hd] at nn
          simp -implicitDefEqProofs [b1_check_ties, hat, t1, k16', xT, v_eqI]
          rw [ta]
          simp -implicitDefEqProofs [hat, ta, c1, ix, nn]
        | true =>
          rw [hd] at nn
          simp -implicitDefEqProofs [b1_check_ties, hat, t1, k16', xT, v_eqI]
          rw [ta]
          simp -implicitDefEqProofs [hat, ta, c1, ix, nn]
  have F := first_ok (i := 2) (body := b1_check_ties) (n := l.length) (bad := badT ws l) (o := fun k => .exn (xT (.int k)) ⟨[.dat (.tup l), .dat (.tup (ws.map D.str)), .dat (.int k)], []⟩) (C := fun x => ⟨[.dat (.tup l), .dat (.tup (ws.map D.str)), x], []⟩) (fun _ _ => rfl)
    (fun k hk hb hn => ⟨.dat (.int k), by rw [step k hk hb, hn]; rfl⟩) (fun k hk hb hn => by rw [step k hk hb, hn]; rfl) (fun _ => trivial) .un
  unfold outT
  rcases F with ⟨f1, y, f2⟩ | ⟨k, f1, f2⟩
  · rw [f1]
    simp -implicitDefEqProofs [F_check_ties, g_check_ties, r1, f2]
  · rw [f1]
    simp -implicitDefEqProofs [F_check_ties, g_check_ties, r1, f2]
/-- all of a link's spots are known -/
def inW (ws : List Str) : D → Bool
  | .str a => decide (a ∈ ws)
  | _ => false
theorem spot_v (hw : ∀ w ∈ ws, nmOk w) {d : D} (h : vl d = true) {a b c : D} {j : List D} : cAndV (cIsT CS "str" (cVar 4)) (cOp inD (cVar 4) (cVar 0)) ⟨[.dat (.tup (ws.map D.str)), .dat a, .dat b, .dat c, .dat d], j⟩ = .ok (.val (.bl (inW ws d))) ⟨[.dat (.tup (ws.map D.str)), .dat a, .dat b, .dat c, .dat d], j⟩ := by
  by_cases hs : ∃ w, d = .str w
  · obtain ⟨w, rfl⟩ := hs
    have i1 := in_wsT hw (of_decide_eq_true h : w ∈ Tx)
    have e : inW ws (.str w) = decide (w ∈ ws) := rfl
    rw [e]
    simp -implicitDefEqProofs [i1]
  · have hn : ∀ w, d ≠ .str w := fun w z => hs ⟨w, z⟩
    have t := ty_no h hn
    have e : inW ws d = false := by cases d <;> first | rfl | exact absurd rfl (hn _)
    rw [e]
    simp -implicitDefEqProofs [t]
theorem two_v {x y : D} (hw : ∀ w ∈ ws, nmOk w) (vx : vl x = true) (vy : vl y = true) : (tieB ws (.tup [x, y]) = true ∧ inW ws x = true ∧ inW ws y = true ∧ eqD x y = some (.bl false)) ∨ (tieB ws (.tup [x, y]) = false ∧ ((inW ws x && inW ws y) = false ∨ (inW ws x = true ∧ inW ws y = true ∧ eqD x y = some (.bl true)))) := by
  cases hx : inW ws x with
  | false =>
    refine .inr ⟨?_, .inl rfl⟩
    cases ht : tieB ws (.tup [x, y]) with
    | false => rfl
    | true =>
      obtain ⟨p, e, _, p1, p2⟩ := tie_of ht
      cases e
      rw [show inW ws (.str p.1) = decide (p.1 ∈ ws) from rfl, decide_eq_true p1] at hx
      cases hx
  | true =>
    cases hy : inW ws y with
    | false =>
      refine .inr ⟨?_, .inl rfl⟩
      cases ht : tieB ws (.tup [x, y]) with
      | false => rfl
      | true =>
        obtain ⟨p, e, _, p1, p2⟩ := tie_of ht
        cases e
        rw [show inW ws (.str p.2) = decide (p.2 ∈ ws) from rfl, decide_eq_true p2] at hy
        cases hy
    | true =>
      cases x <;> first | (cases hx; done) | skip
      cases y <;> first | (cases hy; done) | skip
      rename_i a b
      have ha : a ∈ ws := of_decide_eq_true hx
      have hb : b ∈ ws := of_decide_eq_true hy
      have q := v_eqS (nm_str (hw _ ha)) (nm_str (hw _ hb))
      have e : tieB ws (.tup [.str a, .str b]) = (!decide (a = b) && (decide (a ∈ ws) && decide (b ∈ ws))) := rfl
      rw [e, q, decide_eq_true ha, decide_eq_true hb]
      by_cases h : a = b
      · rw [decide_eq_true h]
        exact .inr ⟨rfl, .inr ⟨rfl, rfl, rfl⟩⟩
      · rw [decide_eq_false h]
        exact .inl ⟨rfl, rfl, rfl, rfl⟩
end K03

namespace K03
open PySem L2 DL PySem.Spec PyProof.Rows
/-! the slips of links -/
theorem first_okI {i : Nat} {body : M Fl} {n : Nat} {bad : Nat → Bool} {o : Nat → S → Out Fl} {C : S → S → DL.Env} (hset : ∀ x y d, (C x y).setS i (.dat d) = C (.dat d) y)
    (good : ∀ k < n, ∀ y, (∀ m < k, bad m = false) → bad k = false → ∃ e2 y2, body (C (.dat (.int k)) y) = .ok .nx (C e2 y2)) (isbad : ∀ k < n, ∀ y, (∀ m < k, bad m = false) → bad k = true → ∃ y2, body (C (.dat (.int k)) y) = o k y2) (ho : ∀ k y, Stops (o k y)) :
    ∀ (x y : S), (firstB bad n = none ∧ ∃ x2 y2, forL (gN i) body (rng 0 n) (C x y) = .ok .nx (C x2 y2)) ∨ ∃ k y2, firstB bad n = some k ∧ forL (gN i) body (rng 0 n) (C x y) = o k y2 := by
  have key : ∀ (m k : Nat) (x y : S), k + m = n → (∀ j < k, bad j = false) → ((∀ j < n, bad j = false) ∧ ∃ x2 y2, forL (gN i) body (rng k m) (C x y) = .ok .nx (C x2 y2)) ∨ ∃ j y2, j < n ∧ bad j = true ∧ (∀ l < j, bad l = false) ∧ forL (gN i) body (rng k m) (C x y) = o j y2 := by
    intro m
    induction m with
    | zero => intro k x y hk hb; exact .inl ⟨fun j hj => hb j (by omega), x, y, rfl⟩
    | succ m ih =>
      intro k x y hk hb
      rw [rng_cons]
      cases hbk : bad k with
      | true =>
        obtain ⟨y2, hy⟩ := isbad k (by omega) y hb hbk
        exact .inr ⟨k, y2, by omega, hbk, hb, forL_stop (e1 := C (.dat (.int k)) y) (by rw [v_gN, hset]) hy (ho k y2)⟩
      | false =>
        obtain ⟨x2, y2, hy⟩ := good k (by omega) y hb hbk
        have e1 : forL (gN i) body (.int (k : Int) :: rng ((k : Int) + 1) m) (C x y) = forL (gN i) body (rng ((k : Int) + 1) m) (C x2 y2) := by
          rw [forL, v_gN, hset]
          simp only [hy, v_bnd]
        rw [e1]
        have := ih (k + 1) x2 y2 (by omega) (fun j hj => by
          rcases Nat.lt_or_ge j k with h | h
          · exact hb j h
          · rw [show j = k by omega]; exact hbk)
        rw [show ((k + 1 : Nat) : Int) = (k : Int) + 1 by omega] at this
        exact this
  intro x y
  have r := key n 0 x y (by omega) (fun j hj => by omega)
  cases hf : firstB bad n with
  | none =>
    refine .inl ⟨rfl, ?_⟩
    rcases r with ⟨_, q⟩ | ⟨j, y2, h1, h2, _, _⟩
    · exact q
    · rw [firstB_none hf j h1] at h2; cases h2
  | some k =>
    obtain ⟨h1, h2, h3⟩ := firstB_some hf
    rcases r with ⟨h, _⟩ | ⟨j, y2, j1, j2, j3, j4⟩
    · rw [h k h1] at h2; cases h2
    · have : j = k := by
        rcases Nat.lt_trichotomy j k with h | h | h
        · rw [h3 j h] at j2; cases j2
        · exact h
        · rw [j3 k h] at h2; cases h2
      subst this
      exact .inr ⟨j, y2, rfl, j4⟩
theorem v_neI {a b : Int} : neD (.int a) (.int b) = some (.bl (!decide (a = b))) := by
  rw [neD_of (k := 0) .int .int (by omega)]
  have : eqB (.int a) (.int b) = decide (a = b) := by
    show (a == b) = _
    by_cases h : a = b <;> simp [h]
  rw [this]
variable {ws : List Str}
def lkE (ws : List Str) (l : List D) (x y : S) : DL.Env := ⟨[.dat (.tup (ws.map D.str)), .dat (.tup l), x, y, .un], []⟩
theorem all_v (hw : ∀ w ∈ ws, nmOk w) {l : List D} {x y : D} (vx : vl x = true) (vy : vl y = true) {z : D} : cLc [4] (cIter (cVar 3)) (gN 4) tYs (cAndV (cIsT CS "str" (cVar 4)) (cOp inD (cVar 4) (cVar 0))) ⟨[.dat (.tup (ws.map D.str)), .dat (.tup l), .dat z, .dat (.tup [x, y]), .un], []⟩ =
    .ok (.val (.lst [.bl (inW ws x), .bl (inW ws y)])) ⟨[.dat (.tup (ws.map D.str)), .dat (.tup l), .dat z, .dat (.tup [x, y]), .un], []⟩ := by
  have := v_lc1 (i := 4) (fi := cIter (cVar 3)) (t := tYs) (f := cAndV (cIsT CS "str" (cVar 4)) (cOp inD (cVar 4) (cVar 0))) (e := ⟨[.dat (.tup (ws.map D.str)), .dat (.tup l), .dat z, .dat (.tup [x, y]), .un], []⟩) (e1 := ⟨[.dat (.tup (ws.map D.str)), .dat (.tup l), .dat z, .dat (.tup [x, y]), .un], []⟩) (ds := [x, y])
    (fun _ => true) (fun d => .bl (inW ws d)) rfl rfl (by rw [sizeLine_eq]; simp) fun d hd => ⟨rfl, fun _ => by
      have vd : vl d = true := by
        rcases List.mem_cons.mp
                                                                                                              hd with rfl | hd
        · exact vx
        · rw [List.mem_singleton.mp hd]; exact vy
      exact spot_v hw vd⟩
  simpa using this
theorem links_v {l : List D} (hw : ∀ w ∈ ws, nmOk w) (hl : l.length ≤ 100) (hv : ∀ d ∈ l, vt d = true) : F__law_links_slip [.dat (.tup (ws.map D.str)), .dat (.tup l)] [] = .ok (slipT ws l) [] := by
  have r1 : rngI1 [.val (.int l.length)] = some (rng 0 l.length) := v_rng (by omega) (by omega)
  have step : ∀ k < l.length, ∀ y, (∀ m < k, badT ws l m = false) → ∃ y2, b1__law_links_slip (lkE ws l (.dat (.int k)) y) = if badT ws l k then .ok (.rt (.lst [.str "links", .str (rp k)])) (lkE ws l (.dat (.int k)) y2) else .ok .nx (lkE ws l (.dat (.int k)) y2) := by
    intro k hk y hb
    have hat := at_get hk
    have vk : vt (nth l k) = true := hv _ (by unfold nth; rw [List.getD_eq_getElem?_getD, List.getElem?_eq_getElem hk]; exact List.getElem_mem hk)
    have rk := rp_ok (k := k) (by omega)
    refine ⟨.dat (nth l k), ?_⟩
    by_cases k16 : k = 16
    · subst k16
      have e : badT ws l 16 = true := by simp [badT]
      have hat : atI l 16 = some (nth l 16) := hat
      have rk : repr2D [.int 16] = some (.str (rp 16)) := rk
      rw [e]
      simp -implicitDefEqProofs [b1__law_links_slip, lkE, hat, rk, v_eqI]
    · have k16' : ¬ (k : Int) = 16 := by omega
      rcases pair_cases (ws := ws) vk with ⟨x, y, e0, vx, vy⟩ | ⟨_, t1, _, t3⟩
      · have al := fun z => all_v hw (l := l) vx vy (z := z)
        rcases two_v hw vx vy with ⟨t, ix, iy, q⟩ | ⟨t, h⟩
        · obtain ⟨ps, q2, e1, hp, e2, q1, q3, q4, e⟩ := bad_case hk hb k16 (by rw [e0]; exact t)
          rw [e]
          have i0 := hw _ q1
          have i1 := hw _ q3
          have shp : Sh 2 (.tup (ps.map tieD)) := .tup fun d hd => by
            obtain ⟨p, hp2, rfl⟩ := List.mem_map.mp hd
            exact sh_tieN (hw _ (hp p hp2).1) (hw _ (hp p hp2).2)
          have in1 : inD (tieD q2) (.tup (ps.map tieD)) = some (.bl (decide (q2 ∈ ps))) := by rw [inD_tup (k := 2) (sh_tieN i0 i1) shp (by omega), memB_tie]
          have in2 : inD (tieD q2.swap) (.tup (ps.map tieD)) = some (.bl (decide (q2.swap ∈ ps))) := by rw [inD_tup (k := 2) (sh_tieN i1 i0) shp (by omega), memB_tie]
          have eq0 : D.tup [x, y] = .tup [.str q2.1, .str q2.2] := e0.symm.trans e2
          have ez := D.tup.inj eq0
          have ex : x = .str q2.1 := (List.cons.inj ez).1
          have ey : y = .str q2.2 := (List.cons.inj (List.cons.inj ez).2).1
          subst ex ey
          rw [e0] at hat ⊢
          have in1 : inD (.tup [.str q2.1, .str q2.2]) (.tup (ps.map tieD)) = some (.bl (decide (q2 ∈ ps))) := in1
          have in2 : inD (.tup [.str q2.2, .str q2.1]) (.tup (ps.map tieD)) = some (.bl (decide (q2.swap ∈ ps))) := in2
          rw [ix, iy] at al
          have c1 : cutL l none (some (k : Int)) = l.take k := cut_to
          rw [← e1] at in1 in2
          by_cases m1 : q2 ∈ ps
          · rw [decide_eq_true m1] at in1
            simp -implicitDefEqProofs [b1__law_links_slip, lkE, hat, rk, v_eqI, v_neI, k16', al, q, c1, in1, allD, blsOf, m1]
          · rw [decide_eq_false m1] at in1
            by_cases m2 : q2.swap ∈ ps
            · rw [decide_eq_true m2] at in2
              simp -implicitDefEqProofs [b1__law_links_slip, lkE, hat, rk, v_eqI, v_neI, k16', al, q, c1, in1, in2, allD, blsOf, m1, m2]
            · rw [decide_eq_false m2] at in2
              simp -implicitDefEqProofs [b1__law_links_slip, lkE, hat, rk, v_eqI, v_neI, k16', al, q, c1, in1, in2, allD, blsOf, m1, m2]
        · have e : badT ws l k = true := by simp [badT, e0, t]
          rw [e]
          rw [e0] at hat ⊢
          rcases h with h | ⟨ix, iy, q⟩
          · simp -implicitDefEqProofs [b1__law_links_slip, lkE, hat, rk, v_eqI, v_neI, k16', al, allD, blsOf, h]
          · rw [ix, iy] at al
            simp -implicitDefEqProofs [b1__law_links_slip, lkE, hat, rk, v_eqI, v_neI, k16', al, allD, blsOf, q]
      · have e : badT ws l k = true := by simp [badT, t1]
        rw [e]
        rcases t3 with t3 | ⟨m, e3, t3⟩
        · simp -implicitDefEqProofs [b1__law_links_slip, lkE, hat, rk, v_eqI, v_neI, k16', t3]
        · rw [e3] at hat ⊢
          simp -implicitDefEqProofs [b1__law_links_slip, lkE, hat, rk, v_eqI, v_neI, k16', t3]
  have F := first_okI (i := 2) (body := b1__law_links_slip) (n := l.length) (bad := badT ws l) (o := fun k y => .ok (.rt (.lst [.str "links", .str (rp k)])) (lkE ws l (.dat (.int k)) y)) (C := fun x y => lkE ws l x y) (fun _ _ _ => rfl)
    (fun k hk y hb hn => by obtain ⟨y2, h⟩ := step k hk y hb; exact ⟨_, y2, by rw [h, hn]; rfl⟩) (fun k hk y hb hn => by obtain ⟨y2, h⟩ := step k hk y hb; exact ⟨y2, by rw [h, hn]; rfl⟩) (fun _ _ => trivial) .un .un
  unfold slipT
  have e0 : ∀ k : DL.Env → Out Fl, (forL (gN 2) b1__law_links_slip (rng 0 l.length) ⟨[.dat (.tup (ws.map D.str)), .dat (.tup l), .un, .un, .un], []⟩).bndF k = (forL (gN 2) b1__law_links_slip (rng 0 l.length) (lkE ws l .un .un)).bndF k := fun _ => rfl
  rcases F with ⟨f1, x2, y2, f2⟩ | ⟨k, y2, f1, f2⟩
  · rw [f1]
    simp -implicitDefEqProofs [F__law_links_slip, g__law_links_slip, r1, e0, f2]
    rfl
  · rw [f1]
    simp -implicitDefEqProofs [F__law_links_slip, g__law_links_slip, r1, e0, f2]
    rfl
/-- what is no tuple -/
theorem links_n {s d : D} (h : isiTy CS "tuple" d = some false) : F_check_ties [.dat d, .dat s] [] = .exn (xT .non) [] ∧ F__law_links_slip [.dat s, .dat d] [] = .ok (.lst [.str "links", .str "None"]) [] := by
  exact ⟨by simp -implicitDefEqProofs [F_check_ties, g_check_ties, h, xT], by simp -implicitDefEqProofs [F__law_links_slip, g__law_links_slip, h]⟩
end K03

namespace K03
open PySem L2 DL PySem.Spec PyProof.Rows
/-! what a making tells -/
theorem rp_str {k : Nat} (h : k ≤ 100) : PyData.strOk (rp k) = true := by
  have z : ∀ j : Fin 101, PyData.strOk (rp j.1) = true := by decide +kernel
  exact z ⟨k, by omega⟩
theorem non_shown : repr2D [.non] = some (.str "None") := rfl
theorem bases_P {d : D} : F__law_bases (xP d) = .ok (.lst [.bl true, .bl false, .bl false]) [] := by kernel_rfl
theorem bases_T {d : D} : F__law_bases (xT d) = .ok (.lst [.bl true, .bl false, .bl false]) [] := by kernel_rfl
theorem flags_ne : neD (.lst [.bl true, .bl false, .bl false]) (.lst [.bl true, .bl false, .bl false]) = some (.bl false) := by kernel_rfl
theorem shown_P {d : D} {s : Str} (h : repr2D [d] = some (.str s)) : F__law_shown (xP d) = .ok (.lst [.str "spots", .str s]) [] := by
  have b := bases_P (d := d)
  have c : cntBD [true, false] true = some (.int 1) := by kernel_rfl
  have i : idxBD [true, false] true = some (.int 0) := by kernel_rfl
  have h1 : hitE "InvalidPlaces" "InvalidPlaces" = true := by kernel_rfl
  have h2 : hitE "InvalidPlaces" "InvalidTies" = false := by kernel_rfl
  unfold xP at b ⊢
  simp -implicitDefEqProofs [F__law_shown, g__law_shown, b, c, i, h1, h2, boolsOf, flags_ne, v_neI, h]
theorem shown_T {d : D} {s : Str} (h : repr2D [d] = some (.str s)) : F__law_shown (xT d) = .ok (.lst [.str "links", .str s]) [] := by
  have b := bases_T (d := d)
  have c : cntBD [false, true] true = some (.int 1) := by kernel_rfl
  have i : idxBD [false, true] true = some (.int 1) := by kernel_rfl
  have h1 : hitE "InvalidTies" "InvalidPlaces" = false := by kernel_rfl
  have h2 : hitE "InvalidTies" "InvalidTies" = true := by kernel_rfl
  unfold xT at b ⊢
  simp -implicitDefEqProofs [F__law_shown, g__law_shown, b, c, i, h1, h2, boolsOf, flags_ne, v_neI, h]
theorem caught_P {d : D} {s : Str} (h : repr2D [d] = some (.str s)) : F__law_caught (.exn (xP d) []) = .ok (.lst [.str "spots", .str s]) [] := by
  have b := shown_P h
  unfold xP at b ⊢
  simp -implicitDefEqProofs [F__law_caught, g__law_caught, b, EX]
theorem caught_T {d : D} {s : Str} (h : repr2D [d] = some (.str s)) : F__law_caught (.exn (xT d) []) = .ok (.lst [.str "links", .str s]) [] := by
  have b := shown_T h
  unfold xT at b ⊢
  simp -implicitDefEqProofs [F__law_caught, g__law_caught, b, EX]
theorem caught_D {d : D} : F__law_caught (.ok d []) = .ok (.lst [.str "told", d]) [] := by
  simp -implicitDefEqProofs [F__law_caught, g__law_caught, EX]
/-- the spots, the links of a making -/
def SpotsV (P : D) : Prop := isiTy CS "tuple" P = some false ∨ ∃ l, P = .tup l ∧ l.length ≤ 100 ∧ ∀ d ∈ l, vl d = true
def LinksV (T : D) : Prop := isiTy CS "tuple" T = some false ∨ ∃ l, T = .tup l ∧ l.length ≤ 100 ∧ ∀ d ∈ l, vt d = true
def W (P T : D) : OutF := F_Web___init__ [.jar 0, .dat P, .dat T] [.obj "Web" [] []]
def told (e : DL.Env) (P T : D) : OutF := F__law_caught (lamR (makeO "Web" e (W P T)))
def ToldS (P T d : D) : Prop := ∀ e : DL.Env, e.j = [] → told e P T = .ok d []
theorem w_P {P T d : D} (h : F_check_places [.dat P] [] = .exn (xP d) []) : W P T = .exn (xP d) [.obj "Web" [] []] := by
  simp -implicitDefEqProofs [W, F_Web___init__, g_Web___init__, h]
theorem w_T {P T d : D} (h : F_check_places [.dat P] [] = .ok .non []) (h2 : F_check_ties [.dat T, .dat P] [] = .exn (xT d) []) : W P T = .exn (xT d) [.obj "Web" [] []] := by
  simp -implicitDefEqProofs [W, F_Web___init__, g_Web___init__, h, h2]
theorem w_D {P T : D} (h : F_check_places [.dat P] [] = .ok .non []) (h2 : F_check_ties [.dat T, .dat P] [] = .ok .non []) : W P T = .ok .non [.obj "Web" ["both"] [.tup [P, T]]] := by
  simp -implicitDefEqProofs [W, F_Web___init__, g_Web___init__, h, h2, putN]
theorem firstB_le {bad : Nat → Bool} {n k : Nat} (hn : n ≤ 100) (h : firstB bad n = some k) : k ≤ 100 := by have := (firstB_some h).1; omega
theorem fate {P T : D} (hP : SpotsV P) (hT : LinksV T) :
    (∃ s : Str, PyData.strOk s = true ∧ F__law_spots_slip [.dat P] [] = .ok (.lst [.str "spots", .str s]) [] ∧ ToldS P T (.lst [.str "spots", .str s])) ∨
    (F__law_spots_slip [.dat P] [] = .ok (.lst []) [] ∧ ((∃ s : Str, PyData.strOk s = true ∧ F__law_links_slip [.dat P, .dat T] [] = .ok (.lst [.str "links", .str s]) [] ∧ ToldS P T (.lst [.str "links", .str s])) ∨
      (F__law_links_slip [.dat P, .dat T] [] = .ok (.lst []) [] ∧ ∃ d, ToldS P T (.lst [.str "told", d])))) := by
  have sN : PyData.strOk "None" = true := by decide +kernel
  have exP : ∀ {d : D} {s : Str}, F_check_places [.dat P] [] = .exn (xP d) [] → repr2D [d] = some (.str s) → ToldS P T (.lst [.str "spots", .str s]) := fun {d s} h1 h2 e he => by
    unfold told
    rw [w_P h1, v_makeOe, v_lamRx, he, caught_P h2]
  have exT : ∀ {d : D} {s : Str}, F_check_places [.dat P] [] = .ok .non [] → F_check_ties [.dat T, .dat P] [] = .exn (xT d) [] → repr2D [d] = some (.str s) → ToldS P T (.lst [.str "links", .str s]) := fun {d s} h0 h1 h2 e he => by
    unfold told
    rw [w_T h0 h1, v_makeOe, v_lamRx, he, caught_T h2]
  have exD : F_check_places [.dat P] [] = .ok .non [] → F_check_ties [.dat T, .dat P] [] = .ok .non [] → ∃ d, ToldS P T (.lst [.str "told", d]) := fun h0 h1 => by
    refine ⟨.obj "Web" ["both"] [.tup [P, T]], fun e he => ?_⟩
    unfold told
    rw [w_D h0 h1, v_makeO, v_lamRv, he, caught_D]
  rcases hP with hP | ⟨l, rfl, hl, hv⟩
  · obtain ⟨h1, h2⟩ := places_n hP
    exact .inl ⟨"None", sN, h2, exP h1 non_shown⟩
  · have h1 := places_v hl hv
    have h2 := spots_v hl hv
    by_cases l2 : l.length < 2
    · have o : outP l = .exn (xP .non) [] := if_pos l2
      have s : slipP l = .lst [.str "spots", .str "None"] := if_pos l2
      rw [o] at h1
      rw [s] at h2
      exact .inl ⟨"None", sN, h2, exP h1 non_shown⟩
    · have o : outP l = match firstB (badP l) l.length with
        | none => .ok .non []
        | some k => .exn (xP (.int k)) [] := if_neg l2
      have s : slipP l = match firstB (badP l) l.length with
        | none => .lst []
        | some k => .lst [.str "spots", .str (rp k)] := if_neg l2
      cases hb : firstB (badP l) l.length with
      | some k =>
        have hk := firstB_le hl hb
        rw [hb] at o s
        rw [o] at h1
        rw [s] at h2
        exact .inl ⟨rp k, rp_str hk, h2, exP h1 (rp_ok hk)⟩
      | none =>
        rw [hb] at o s
        rw [o] at h1
        rw [s] at h2
        refine .inr ⟨h2, ?_⟩
        have ah := firstB_none hb
        obtain ⟨ws, rfl, hw⟩ : ∃ ws : List Str, l = ws.map D.str ∧ ∀ w ∈ ws, nmOk w := ⟨_, nms_of (l := l) fun d hd => by
          obtain ⟨m, hm, rfl⟩ := List.mem_iff_getElem.mp hd
          have z := ah m hm
          unfold badP at z
          rw [Bool.or_eq_false_iff, Bool.or_eq_false_iff] at z
          have z2 := z.2.1
          unfold nth at z2
          rw [List.getD_eq_getElem?_getD, List.getElem?_eq_getElem hm] at z2
          simpa using z2⟩
        rcases hT with hT | ⟨m, rfl, hm, hvm⟩
        · obtain ⟨h3, h4⟩ := links_n (s := .tup (ws.map D.str)) hT
          exact .inl ⟨"None", sN, h4, exT h1 h3 non_shown⟩
        · have h3 := ties_v hw (by omega : m.length ≤ 200) hvm
          have h4 := links_v hw hm hvm
          unfold outT at h3
          unfold slipT at h4
          cases ht : firstB (badT ws m) m.length with
          | some k =>
            have hk := firstB_le hm ht
            rw [ht] at h3 h4
            exact .inl ⟨rp k, rp_str hk, h4, exT h1 h3 (rp_ok hk)⟩
          | none =>
            rw [ht] at h3 h4
            exact .inr ⟨h4, exD h1 h3⟩
end K03

namespace K03
open PySem L2 DL PySem.Spec PyProof.Rows
/-! the draws of things that fit and do not fit -/
theorem vt_tup {l : List D} (h : ∀ d ∈ l, vl d = true) : vt (.tup l) = true := by
  match l with
  | [] => rfl
  | [_] => rfl
  | [x, y] =>
    have : vt (.tup [x, y]) = (vl x && vl y) := rfl
    rw [this, h x (by simp), h y (by simp)]
    rfl
  | _ :: _ :: _ :: _ => rfl
theorem vl_pool {w : Str} (h : w ∈ pool) : vl (.str w) = true := decide_eq_true (List.mem_append_left _ h)
def oddM : List D := [.non, .bl true, .bl false, .int 0, .int 1, .int (-1), .int 7, .int 1000000000000000000000000000000, .str "", .str "a", .str "A", .str "a b", .tup [], .tup [.int 1], .tup [.str "a"], .tup [.str "a", .str "b"], .lst [.str "a", .str "b"], .lst [], .dct [] [],
  .dct [.inr "a"] [.int 1], .tup [.non, .int 0], .str "a\nb", .tup [.tup [.str "a", .str "b"]], .tup [.str "a", .str "a"], .lst [.lst []], .str "abcdefghi", .tup [.tup []]]
theorem oddM_v : ∀ x ∈ oddM, vl x = true ∧ vt x = true := by
  unfold oddM
  repeat' (first | (refine List.forall_mem_cons.mpr ⟨⟨by kernel_rfl, by kernel_rfl⟩, ?_⟩) | exact fun _ h => nomatch h)
def dct1P (k : Key) : Option (D × DL.Env) → Out D
  | some (y, e3) => .ok (.dct [k] [y]) e3
  | none => .bad
theorem dct_one {fv : M DL.R} {e : DL.Env} {k : Key} : dct1O fv e (some k) = (fv e).bnd fun s e2 => dct1P k (e2.frz s) := rfl
theorem dct_two {y : D} {e : DL.Env} {k : Key} : dct1P k (some (y, e)) = .ok (.dct [k] [y]) e := rfl
theorem odd_ok {d : D} (hd : JarD d) : ∃ x d', F__law_odd [.jar 0] [d] = .ok x [d'] ∧ JarD d' ∧ vl x = true ∧ vt x = true := by
  obtain ⟨x, d', h1, h2, h3⟩ := pick_ok (l := oddM) (by simp [oddM]) (by simp [oddM]) hd
  refine ⟨x, d', ?_, h2, oddM_v x h3⟩
  unfold oddM at h1
  have p : powD (.int 10) (.int 30) = some (.int 1000000000000000000000000000000) := by kernel_rfl
  simp [F__law_odd, g__law_odd, v_lstO, v_addL, fDct, fDct1, p, kD, dct_one, dct_two, h1]
theorem put_ok {l : List D} {x d : D} (hl : l.length ≤ 200) (hd : JarD d) : ∃ l' d', F__law_put_in [.jar 0, .dat (.tup l), .dat x] [d] = .ok (.tup l') [d'] ∧ JarD d' ∧ l'.length ≤ l.length + 1 ∧ ∀ y ∈ l', y ∈ l ∨ y = x := by
  obtain ⟨v, d1, h1, h2, h3, h4⟩ := dip_ok (m := (l.length : Int) + 1) (by omega) (by omega) hd
  obtain ⟨k, rfl⟩ : ∃ k : Nat, v = k := ⟨v.toNat, by omega⟩
  obtain ⟨u, d2, g1, g2, g3, g4⟩ := dip_ok (m := 4) (by decide) (by decide) h2
  have a1 : addD (.tup (l.take k)) (.tup [x]) = some (.tup (l.take k ++ [x])) := v_addT (by rw [List.length_take]; simp only [List.length_cons, List.length_nil]; omega)
  have a2 : addD (.tup (l.take k ++ [x])) (.tup (l.drop k)) = some (.tup (l.take k ++ [x] ++ l.drop k)) := v_addT (by rw [List.length_append, List.length_take, List.length_drop]; simp only [List.length_cons, List.length_nil]; omega)
  have a3 : addD (.tup (l.take k ++ [x])) (.tup (l.drop (k + 1))) = some (.tup (l.take k ++ [x] ++ l.drop (k + 1))) := v_addT (by rw [List.length_append, List.length_take, List.length_drop]; simp only [List.length_cons, List.length_nil]; omega)
  have c1 : cutL l none (some (k : Int)) = l.take k := cut_to
  have c2 : cutL l (some (k : Int)) none = l.drop k := cut_from
  have c3 : cutL l (some ((k : Int) + 1)) none = l.drop (k + 1) := by rw [show (k : Int) + 1 = ((k + 1 : Nat) : Int) by omega, cut_from]
  by_cases u0 : u = 0
  · refine ⟨l.take k ++ [x] ++ l.drop k, d2, ?_, g2, ?_, fun y hy => ?_⟩
    · simp -implicitDefEqProofs [F__law_put_in, g__law_put_in, h1, g1, u0, c1, c2, a1, a2]
    · simp only [List.length_append, List.length_take, List.length_drop, List.length_cons, List.length_nil]; omega
    · rcases List.mem_append.mp hy with hy | hy
      · rcases List.mem_append.mp hy with hy | hy
        · exact .inl (List.mem_of_mem_take hy)
        · exact .inr (List.mem_singleton.mp hy)
      · exact .inl (List.mem_of_mem_drop hy)
  · by_cases u1 : u = 1
    · refine ⟨l.take k ++ [x] ++ l.drop (k + 1), d2, ?_, g2, ?_, fun y hy => ?_⟩
      · simp -implicitDefEqProofs [F__law_put_in, g__law_put_in, h1, g1, u0, u1, c1, c3, a1, a3]
      · simp only [List.length_append, List.length_take, List.length_drop, List.length_cons, List.length_nil]; omega
      · rcases List.mem_append.mp hy with hy | hy
        · rcases List.mem_append.mp hy with hy | hy
          · exact .inl (List.mem_of_mem_take hy)
          · exact .inr (List.mem_singleton.mp hy)
        · exact .inl (List.mem_of_mem_drop hy)
    · refine ⟨l, d2, ?_, g2, by omega, fun y hy => .inl hy⟩
      simp -implicitDefEqProofs [F__law_put_in, g__law_put_in, h1, g1, u0, u1]
end K03

namespace K03
open PySem L2 DL PySem.Spec PyProof.Rows
/-! a turn -/
abbrev TS : List D := [.tab (lamQ "_law_right"), .tab (lamQ "law")]
theorem due_v {a s : Str} (ha : PyData.strOk a = true) (hs : PyData.strOk s = true) : neD (.lst [.str a, .str s]) (.lst []) = some (.bl true) ∧ eqD (.lst [.str a, .str s]) (.lst []) = some (.bl false) ∧ neD (.lst [.str a, .str s]) (.lst [.str a, .str s]) = some (.bl false) := by
  have s1 : Sh 1 (.lst [.str a, .str s]) := .lst fun d hd => by
    rcases List.mem_cons.mp
                                                                                                              hd with rfl | hd
    · exact .str ha
    · rw [List.mem_singleton.mp hd]; exact .str hs
  have s2 : Sh 1 (.lst []) := .lst fun d hd => nomatch hd
  have e1 : eqB (.lst [.str a, .str s]) (.lst []) = false := by
    have := eqvAll_strs [a, s] []
    rw [eqB_lst]
    exact this
  refine ⟨?_, ?_, ?_⟩
  · rw [neD_of s1 s2 (by omega), e1]; rfl
  · rw [eqD_of s1 s2 (by omega), e1]
  · rw [neD_of s1 s1 (by omega), s1.refl]; rfl
theorem nil_v : neD (.lst []) (.lst []) = some (.bl false) ∧ eqD (.lst []) (.lst []) = some (.bl true) := ⟨by kernel_rfl, by kernel_rfl⟩
def tailF : M Fl := (sSeq (sAsg 7 (cCall F__law_spots_slip (cCons (cVar 4) cNil)))
  (sSeq (sAsg 7 (cIf (cTest (cOp neD (cVar 7) (cLst cNil))) (cVar 7) (cCall F__law_links_slip (cCons (cVar 4) (cCons (cVar 6) cNil)))))
  (sSeq (sAsg 8 (cLam 1 (lamQ "_law_right") F__law_caught (cMakeK "Web" F_Web___init__ 2 [1, 0] (cCons (cVar 6) (cCons (cVar 4) cNil)))))
  (sIf (cOr (cAnd (cTest (cOp neD (cVar 7) (cLst cNil))) (cTest (cOp neD (cVar 8) (cVar 7)))) (cAnd (cTest (cOp eqD (cVar 7) (cLst cNil))) (cTest (cOp neD (cOp ixD (cVar 8) (cC (.int 0))) (cC (.str "told")))))) (sRet (cC (.bl false))) sNx))))
theorem tail_v {P T : D} (hP : SpotsV P) (hT : LinksV T) {t n x3 x5 : D} {s7 s8 : S} {d : D} : ∃ y7 y8,
    tailF
      ⟨[.jar 0, .dat t, .dat n, .dat x3, .dat P, .dat x5, .dat T, s7, s8], d :: TS⟩ = .ok .nx ⟨[.jar 0, .dat t, .dat n, .dat x3, .dat P, .dat x5, .dat T, y7, y8], d :: TS⟩ := by
  have hp : prm [1, 0] [T, P] = [P, T] := rfl
  have s1 : PyData.strOk "spots" = true := by decide +kernel
  have s2 : PyData.strOk "links" = true := by decide +kernel
  obtain ⟨z1, z2⟩ := nil_v
  have td : neD (.str "told") (.str "told") = some (.bl false) := by kernel_rfl
  rcases fate hP hT with ⟨s, hs, h1, h2⟩ | ⟨h0, h | ⟨h1, w, h2⟩⟩
  · unfold ToldS told W at h2
    obtain ⟨n1, n2, n3⟩ := due_v s1 hs
    refine ⟨.dat (.lst [.str "spots", .str s]), .dat (.lst [.str "spots", .str s]), ?_⟩
    simp -implicitDefEqProofs [tailF, h1, h2, n1, n2, n3, hp]
  · obtain ⟨s, hs, h1, h2⟩ := h
    unfold ToldS told W at h2
    obtain ⟨n1, n2, n3⟩ := due_v s2 hs
    refine ⟨.dat (.lst [.str "links", .str s]), .dat (.lst [.str "links", .str s]), ?_⟩
    simp -implicitDefEqProofs [tailF, h0, h1, h2, n1, n2, n3, z1, z2, hp]
  · unfold ToldS told W at h2
    refine ⟨.dat (.lst []), .dat (.lst [.str "told", w]), ?_⟩
    simp -implicitDefEqProofs [tailF, h0, h1, h2, z1, z2, hp, td]
end K03

namespace K03
open PySem L2 DL PySem.Spec PyProof.Rows
/-! a turn whole -/
theorem two_of {l : List D} (h : 2 ≤ l.length) : ∃ a b m, l = a :: b :: m := by
  match l, h with
  | a :: b :: m, _ => exact ⟨a, b, m, rfl⟩
theorem spots_ten : tupleSD [.str "abcdefghij"] = some (.tup [.str "a", .str "b", .str "c", .str "d", .str "e", .str "f", .str "g", .str "h", .str "i", .str "j"]) := by kernel_rfl
theorem ten_vl : ∀ d ∈ [D.str "a", .str "b", .str "c", .str "d", .str "e", .str "f", .str "g", .str "h", .str "i", .str "j"], vl d = true := by
  repeat' (first | (refine List.forall_mem_cons.mpr ⟨by kernel_rfl, ?_⟩) | exact fun _ h => nomatch h)
theorem spots_tup {l : List D} (h1 : l.length ≤ 100) (h2 : ∀ d ∈ l, vl d = true) : SpotsV (.tup l) := .inr ⟨l, rfl, h1, h2⟩
theorem links_tup {l : List D} (h1 : l.length ≤ 100) (h2 : ∀ d ∈ l, vt d = true) : LinksV (.tup l) := .inr ⟨l, rfl, h1, h2⟩
theorem right_step {d : D} (hd : JarD d) {t : D} {s2 s3 s4 s5 s6 s7 s8 : S} : ∃ d' q2 q3 q4 q5 q6 q7 q8, JarD d' ∧ b1__law_right ⟨[.jar 0, .dat t, s2, s3, s4, s5, s6, s7, s8], d :: TS⟩ = .ok .nx ⟨[.jar 0, .dat t, q2, q3, q4, q5, q6, q7, q8], d' :: TS⟩ := by
  obtain ⟨hv, d1, a1, a2, a3⟩ := pick_ok (l := [.int 4, .int 9]) (by simp) (by simp) hd
  obtain ⟨h, hh, h9, rfl⟩ : ∃ h : Nat, 2 ≤ h ∧ h ≤ 9 ∧ hv = .int h := by
    rcases List.mem_cons.mp a3 with rfl | a3
    · exact ⟨4, by omega, by omega, rfl⟩
    · rw [List.mem_singleton.mp a3]; exact ⟨9, by omega, by omega, rfl⟩
  obtain ⟨ws, ls, d2, b1, b2, net⟩ := net_ok (lo := 2) (hi := h) (mx := 16) (by omega) hh (by omega) a2
  have b1 : F__law_net [.jar 0, .dat (.int 2), .dat (.int h), .dat (.int 16)] [d1] = .ok (.tup [.tup (ws.map D.str), .tup (ls.map tieD)]) [d2] := b1
  have vL : ∀ d ∈ ws.map D.str, vl d = true := fun d hd => by
    obtain ⟨w, hw, rfl⟩ := List.mem_map.mp hd
    exact vl_pool (net.pool w hw)
  have vM : ∀ d ∈ ls.map tieD, vt d = true := fun d hd => by
    obtain ⟨p, hp, rfl⟩ := List.mem_map.mp hd
    obtain ⟨c1, c2, _⟩ := net.lk.on p hp
    have e : vt (tieD p) = (vl (.str p.1) && vl (.str p.2)) := rfl
    rw [e, vl_pool (net.pool _ c1), vl_pool (net.pool _ c2)]
    rfl
  have lL : 2 ≤ (ws.map D.str).length ∧ (ws.map D.str).length ≤ 9 := by rw [List.length_map]; exact ⟨net.lo, Nat.le_trans net.hi h9⟩
  have lM : (ls.map tieD).length ≤ 16 := by rw [List.length_map]; exact net.mx
  generalize ws.map D.str = L at b1 vL lL
  generalize ls.map tieD = M at b1 vM lM
  clear net
  obtain ⟨w0, w1, L0, hL0⟩ := two_of lL.1
  have g0 : atI L 0 = some w0 := at_nat (k := 0) (by rw [hL0]; rfl)
  have g1 : atI L 1 = some w1 := at_nat (k := 1) (by rw [hL0]; rfl)
  have v0 : vl w0 = true := vL _ (by rw [hL0]; simp)
  have v1 : vl w1 = true := vL _ (by rw [hL0]; simp)
  obtain ⟨L1, c1, vL1, lL1⟩ : ∃ L1, cutL L none (some 1) = L1 ∧ (∀ d ∈ L1, vl d = true) ∧ L1.length ≤ 9 := ⟨L.take 1, cut_to (k := 1), fun d hd => vL d (List.mem_of_mem_take hd), by rw [List.length_take]; omega⟩
  obtain ⟨L2, c2, vL2, lL2⟩ : ∃ L2, cutL L none (some 2) = L2 ∧ (∀ d ∈ L2, vl d = true) ∧ L2.length ≤ 9 := ⟨L.take 2, cut_to (k := 2), fun d hd => vL d (List.mem_of_mem_take hd), by rw [List.length_take]; omega⟩
  obtain ⟨o1, d3, e1, e2, e3, e4⟩ := odd_ok b2
  obtain ⟨x3, d4, f1, f2, f3⟩ := pick_ok (l := [.str "A", .str "abcdefghi", .str "", .str "a1", .str "a b", w0, .str "ok", o1]) (by simp) (by simp) e2
  have vx : vl x3 = true := by
    have z : ∀ y ∈ [.str "A", .str "abcdefghi", .str "", .str "a1", .str "a b", w0, .str "ok", o1], vl y = true := by
      refine List.forall_mem_cons.mpr ⟨by kernel_rfl, List.forall_mem_cons.mpr ⟨by kernel_rfl, List.forall_mem_cons.mpr ⟨by kernel_rfl, List.forall_mem_cons.mpr ⟨by kernel_rfl, List.forall_mem_cons.mpr ⟨by kernel_rfl, List.forall_mem_cons.mpr ⟨v0, List.forall_mem_cons.mpr ⟨by kernel_rfl, List.forall_mem_cons.mpr ⟨e3, fun _ h => nomatch h⟩⟩⟩⟩⟩⟩⟩⟩
    exact z _ f3
  obtain ⟨l4, d5, p1, p2, p3, p4⟩ := put_ok (l := L) (x := x3) (by omega) f2
  have v4 : ∀ y ∈ l4, vl y = true := fun y hy => by
    rcases p4 y hy with h | rfl
    · exact vL y h
    · exact vx
  obtain ⟨l5, c3, v5, ll5⟩ : ∃ l5, cutL l4 none (some 1) = l5 ∧ (∀ d ∈ l5, vl d = true) ∧ l5.length ≤ 100 := ⟨l4.take 1, cut_to (k := 1), fun d hd => v4 d (List.mem_of_mem_take hd), by rw [List.length_take]; omega⟩
  obtain ⟨P, d6, i1, i2, i3⟩ := pick_ok (l := [.tup l4, .tup l4, .tup l4, .lst l4, .tup l5, .tup [], .tup [.str "a", .str "b", .str "c", .str "d", .str "e", .str "f", .str "g", .str "h", .str "i", .str "j"], .str "ab", .non]) (by simp) (by simp) p2
  have hP : SpotsV P := by
    have z : ∀ y ∈ [D.tup l4, .tup l4, .tup l4, .lst l4, .tup l5, .tup [], .tup [.str "a", .str "b", .str "c", .str "d", .str "e", .str "f", .str "g", .str "h", .str "i", .str "j"], .str "ab", .non], SpotsV y := by
      have q4 : SpotsV (.tup l4) := spots_tup (by omega) v4
      refine List.forall_mem_cons.mpr ⟨q4, List.forall_mem_cons.mpr ⟨q4, List.forall_mem_cons.mpr ⟨q4, List.forall_mem_cons.mpr ⟨.inl rfl, List.forall_mem_cons.mpr ⟨spots_tup ll5 v5, List.forall_mem_cons.mpr ⟨spots_tup (by simp) (fun _ h => nomatch h), List.forall_mem_cons.mpr ⟨spots_tup (by simp) ten_vl, List.forall_mem_cons.mpr ⟨.inl rfl, List.forall_mem_cons.mpr ⟨.inl rfl, fun _ h => nomatch h⟩⟩⟩⟩⟩⟩⟩⟩⟩
    exact z _ i3
  have m2 : mulD (.tup [w0]) (.int 2) = some (.tup [w0, w0]) := by simp [mulD]
  obtain ⟨o2, d7, j1, j2, j3, j4⟩ := odd_ok i2
  obtain ⟨x5, d8, k1, k2, k3⟩ := pick_ok (l := [.tup L, .tup [w0, w0], .tup [w0, .str "nobody"], .tup [.str "a", .str "b"], .tup [w1, w0], .tup L1, .lst L2, .tup [.non, w0], o2]) (by simp) (by simp) j2
  have tw : ∀ {a b : D}, vl a = true → vl b = true → vt (.tup [a, b]) = true := fun {a b} ha hb => by
    have e : vt (.tup [a, b]) = (vl a && vl b) := rfl
    rw [e, ha, hb]; rfl
  have vx5 : vt x5 = true := by
    have z : ∀ y ∈ [D.tup L, .tup [w0, w0], .tup [w0, .str "nobody"], .tup [.str "a", .str "b"], .tup [w1, w0], .tup L1, .lst L2, .tup [.non, w0], o2], vt y = true := by
      refine List.forall_mem_cons.mpr ⟨vt_tup vL, List.forall_mem_cons.mpr ⟨tw v0 v0, List.forall_mem_cons.mpr ⟨tw v0 (by kernel_rfl), List.forall_mem_cons.mpr ⟨by kernel_rfl, List.forall_mem_cons.mpr ⟨tw v1 v0, List.forall_mem_cons.mpr ⟨vt_tup vL1, List.forall_mem_cons.mpr ⟨rfl, List.forall_mem_cons.mpr ⟨tw rfl v0, List.forall_mem_cons.mpr ⟨j4, fun _ h => nomatch h⟩⟩⟩⟩⟩⟩⟩⟩⟩
    exact z _ k3
  obtain ⟨l6, d9, r1, r2, r3, r4⟩ := put_ok (l := M) (x := x5) (by omega) k2
  have v6 : ∀ y ∈ l6, vt y = true := fun y hy => by
    rcases r4 y hy with h | rfl
    · exact vM y h
    · exact vx5
  have a6 : addD (.lst l6) (.lst [.tup L2]) = some (.lst (l6 ++ [.tup L2])) := v_addL (by simp only [List.length_cons, List.length_nil]; omega)
  obtain ⟨x6, d10, u1, u2, u3⟩ := pick_ok (l := l6 ++ [.tup L2]) (by simp) (by rw [List.length_append]; simp only [List.length_cons, List.length_nil]; omega) r2
  have vx6 : vt x6 = true := by
    rcases List.mem_append.mp u3 with h | h
    · exact v6 _ h
    · rw [List.mem_singleton.mp h]; exact vt_tup vL2
  obtain ⟨l7, d11, y1, y2, y3, y4⟩ := put_ok (l := l6) (x := x6) (by omega) u2
  have v7 : ∀ y ∈ l7, vt y = true := fun y hy => by
    rcases y4 y hy with h | rfl
    · exact v6 y h
    · exact vx6
  obtain ⟨T, d12, z1, z2, z3⟩ := pick_ok (l := [.tup l7, .tup l7, .tup l7, .tup l7, .lst l7, .non, .str "", .dct [] []]) (by simp) (by simp) y2
  have hT : LinksV T := by
    have z : ∀ y ∈ [D.tup l7, .tup l7, .tup l7, .tup l7, .lst l7, .non, .str "", .dct [] []], LinksV y := by
      have q7 : LinksV (.tup l7) := links_tup (by omega) v7
      refine List.forall_mem_cons.mpr ⟨q7, List.forall_mem_cons.mpr ⟨q7, List.forall_mem_cons.mpr ⟨q7, List.forall_mem_cons.mpr ⟨q7, List.forall_mem_cons.mpr ⟨.inl rfl, List.forall_mem_cons.mpr ⟨.inl rfl, List.forall_mem_cons.mpr ⟨.inl rfl, List.forall_mem_cons.mpr ⟨.inl rfl, fun _ h => nomatch h⟩⟩⟩⟩⟩⟩⟩⟩
    exact z _ z3
  obtain ⟨y7, y8, tv⟩ := tail_v hP hT (t := t) (n := .tup [.tup L, .tup M]) (x3 := x3) (x5 := .lst [.tup L, .tup [w0, w0], .tup [w0, .str "nobody"], .tup [.str "a", .str "b"], .tup [w1, w0], .tup L1]) (s7 := s7) (s8 := s8) (d := d12)
  refine ⟨d12, .dat (.tup [.tup L, .tup M]), .dat x3, .dat P, .dat (.lst [.tup L, .tup [w0, w0], .tup [w0, .str "nobody"], .tup [.str "a", .str "b"], .tup [w1, w0], .tup L1]), .dat T, y7, y8, z2, ?_⟩
  rw [← tv]
  clear tv hP hT z3 vx6 v7 v6 vx5 k3 u3 v4 v5 vx f3 i3 y4 r4 p4
  unfold b1__law_right
  have ef : ((sSeq (sAsg 7 (cCall F__law_spots_slip (cCons (cVar 4) cNil)))
  (sSeq (sAsg 7 (cIf (cTest (cOp neD (cVar 7) (cLst cNil))) (cVar 7) (cCall F__law_links_slip (cCons (cVar 4) (cCons (cVar 6) cNil)))))
  (sSeq (sAsg 8 (cLam 1 (lamQ "_law_right") F__law_caught (cMakeK "Web" F_Web___init__ 2 [1, 0] (cCons (cVar 6) (cCons (cVar 4) cNil)))))
  (sIf (cOr (cAnd (cTest (cOp neD (cVar 7) (cLst cNil))) (cTest (cOp neD (cVar 8) (cVar 7)))) (cAnd (cTest (cOp eqD (cVar 7) (cLst cNil))) (cTest (cOp neD (cOp ixD (cVar 8) (cC (.int 0))) (cC (.str "told")))))) (sRet (cC (.bl false))) sNx)))) : DL.M Fl) = tailF := rfl
  rw [ef]
  simp -implicitDefEqProofs [a1, b1, g0, g1, c1, c2, c3, e1, f1, p1, i1, m2, j1, k1, r1, a6, u1, y1, z1, v_lstO, v_addL, spots_ten, listD, fDct]
end K03

namespace K03
open PySem L2 DL PySem.Spec PyProof.Rows
/-! jars -/
theorem jar_ok {ns : List Int} {k : Nat} (hk : k ≤ 63) (hl : ns.length ≤ 63) : ∃ d, F__law_jar [.dat (.scr ns), .dat (.int k)] [] = .ok d [] ∧ JarD d := by
  obtain ⟨mx, hmx⟩ : ∃ mx : Int, mx = 7369 * ((k : Int) + 5) * ((k : Int) + 2) + 29 * (ns.length : Int) := ⟨_, rfl⟩
  obtain ⟨e', q1, m, x3, he⟩ := forL_ok (g := gN 3) (body := b1__law_jar) (ds := (cutL ns none (some 4)).map D.int) (e := ⟨[.dat (.scr ns), .dat (.int k), .dat (.int mx), .un, .un, .un], []⟩)
    (fun ds e => ∃ (m : Int) (x3 : DL.S), (∀ d ∈ ds, ∃ i : Int, d = .int i) ∧ e = ⟨[.dat (.scr ns), .dat (.int k), .dat (.int m), x3, .un, .un], []⟩)
    (fun dd ds e ⟨m, x3, hds, he⟩ => by
      obtain ⟨i, rfl⟩ := hds dd List.mem_cons_self
      subst he
      refine ⟨_, _, rfl, .inl ?_, (m * 733 + i) % 1000000009, .dat (.int i), fun d hd => hds d (List.mem_cons_of_mem _ hd), rfl⟩
      have e1 : (0 : Int) < 1000000009 := by decide
      simp -implicitDefEqProofs [b1__law_jar, v_mulI, v_modI, e1])
    ⟨mx, .un, fun d hd => by obtain ⟨i, _, rfl⟩ := List.mem_map.mp hd; exact ⟨i, rfl⟩, rfl⟩
  obtain ⟨he, rfl⟩ := he
  have m1 : mulD (.int 7369) (.int ((k : Int) + 5)) = some (.int (7369 * ((k : Int) + 5))) := v_mulL (by decide) (by decide)
  have m2 : mulD (.int (7369 * ((k : Int) + 5))) (.int ((k : Int) + 2)) = some (.int (7369 * ((k : Int) + 5) * ((k : Int) + 2))) := v_mulI (by omega) (by omega)
  have m3 : mulD (.int 29) (.int (ns.length : Int)) = some (.int (29 * (ns.length : Int))) := v_mulL (by decide) (by decide)
  have m4 : mulD (.int 105019) (.int ((k : Int) + 1)) = some (.int (105019 * ((k : Int) + 1))) := v_mulL (by decide) (by decide)
  have p1 : powD (.int 10) (.int 18) = some (.int 1000000000000000000) := by rfl
  obtain ⟨own, ho⟩ : ∃ own : Int, cIf (cTest (cOp ltD (cVar 1) (cCB lenD (cCons (cVar 0) cNil)))) (cOp ixD (cVar 0) (cVar 1)) (cC (.int 0)) ⟨[.dat (.scr ns), .dat (.int k), .dat (.int m), x3, .un, .un], []⟩ = .ok (.val (.int own)) ⟨[.dat (.scr ns), .dat (.int k), .dat (.int m), x3, .un, .un], []⟩ := by
    by_cases h : k < ns.length
    · have hat : ixD (.scr ns) (.int k) = some (.int ns[k]) := by
        show (atI ns (k : Int)).map D.int = _
        have : atI ns (k : Int) = some ns[k] := by
          unfold L2.atI L2.ixN
          rw [if_pos (by omega),
                                                                                                              if_pos (by omega)]
          simp [h]
        rw [this]
        rfl
      exact ⟨ns[k], by simp [hat, h]⟩
    · exact ⟨0, by simp [h]⟩
  obtain ⟨dg, hd⟩ : ∃ dg : Int, cIf (cOr (cTest (cOp ltD (cVar 4) (cC (.int 0)))) (cTest (cOp geD (cVar 4) (cOp powD (cC (.int 10)) (cC (.int 18)))))) (cCB absD (cCons (cVar 4) cNil)) (cC (.int 0)) ⟨[.dat (.scr ns), .dat (.int k), .dat (.int m), x3, .dat (.int own), .un], []⟩ = .ok (.val (.int dg)) ⟨[.dat (.scr ns), .dat (.int k), .dat (.int m), x3, .dat (.int own), .un], []⟩ := by
    by_cases h1 : own < 0
    · exact ⟨-own, by simp [h1, absD]⟩
    · by_cases h2 : 1000000000000000000 ≤ own
      · exact ⟨own, by simp [h1, h2, p1, absD]⟩
      · exact ⟨0, by simp [h1, h2, p1]⟩
  refine ⟨.lst [.int dg, .int ((m * 8117 + own * 64013 + 105019 * ((k : Int) + 1)) % 2147483563), .int 0], ?_, ⟨_, _, _, rfl⟩⟩
  have e1 : (0 : Int) < 2147483563 := by decide
  have s3 : 3 ≤ sizeLine := by rw [sizeLine_eq]; omega
  unfold F__law_jar g__law_jar
  simp -implicitDefEqProofs only [v_new, v_nSeq, List.length_cons, List.length_nil, v_env0, List.map_cons, List.map_nil, v_dAt, List.cons_append, List.nil_append, List.replicate, Nat.reduceAdd, Nat.reduceSub, if_true, v_asg, v_op, v_c, v_bnd, v_rdV, v_opt2, DL.v_var, List.getElem?_cons_zero, List.getElem?_cons_succ, v_varD, v_addI, v_opt, m1, m2, m3, v_cb, v_cons, v_nil, v_rds, v_rds0, v_rds2, Option.bind_some, v_lenS, v_frzV, v_asgF, v_set, List.set_cons_succ, List.set_cons_zero]
  rw [← hmx]
  simp -implicitDefEqProofs only [v_for, v_iter, v_sl, DL.v_var, List.getElem?_cons_zero, List.getElem?_cons_succ, v_varD, v_bnd, v_noPart, v_part, v_c, v_partO, v_rdV, Option.bind_some, v_slS, v_opt, v_frzV, v_iterO, v_itL, v_optB, q1]
  simp -implicitDefEqProofs only [ho, hd, v_bnd, v_frzV, v_asgF, v_set, List.set_cons_succ, List.set_cons_zero]
  simp -implicitDefEqProofs [v_mulI, m4, v_modI, e1, s3]
end K03

namespace K03
open PySem L2 DL PySem.Spec PyProof.Rows
/-! the law whole -/
theorem right_ok {d : D} (hd : JarD d) : ∃ d', F__law_right [.jar 0] (d :: TS) = .ok (.bl true) (d' :: TS) ∧ JarD d' := by
  obtain ⟨e', h1, d', x, q2, q3, q4, q5, q6, q7, q8, hd', rfl⟩ := forL_ok (g := gN 1) (body := b1__law_right) (ds := rng 0 8) (e := ⟨[.jar 0, .un, .un, .un, .un, .un, .un, .un, .un], d :: TS⟩)
    (fun ds e => ∃ (d' : D) (x q2 q3 q4 q5 q6 q7 q8 : S), JarD d' ∧ e = ⟨[.jar 0, x, q2, q3, q4, q5, q6, q7, q8], d' :: TS⟩)
    (fun dd ds e ⟨d', x, q2, q3, q4, q5, q6, q7, q8, hd', he⟩ => by
      subst he
      obtain ⟨d2, p2, p3, p4, p5, p6, p7, p8, hd2, st⟩ := right_step hd' (t := dd) (s2 := q2) (s3 := q3) (s4 := q4) (s5 := q5) (s6 := q6) (s7 := q7) (s8 := q8)
      exact ⟨_, _, rfl, .inl st, d2, .dat dd, p2, p3, p4, p5, p6, p7, p8, hd2, rfl⟩)
    ⟨d, .un, .un, .un, .un, .un, .un, .un, .un, hd, rfl⟩
  refine ⟨d', ?_, hd'⟩
  have r1 : rngI1 [.val (.int 8)] = some (rng 0 8) := by rfl
  simp -implicitDefEqProofs [F__law_right, g__law_right, r1, h1]
abbrev spotsD : D := .tup [.str "a", .str "b", .str "c", .str "d", .str "e", .str "f", .str "g", .str "h", .str "i"]
abbrev linksL : List D := [.tup [.str "a", .str "b"], .tup [.str "a", .str "c"], .tup [.str "a", .str "d"], .tup [.str "a", .str "e"], .tup [.str "a", .str "f"], .tup [.str "a", .str "g"], .tup [.str "a", .str "h"], .tup [.str "a", .str "i"],
  .tup [.str "b", .str "c"], .tup [.str "b", .str "d"], .tup [.str "b", .str "e"], .tup [.str "b", .str "f"], .tup [.str "b", .str "g"], .tup [.str "b", .str "h"], .tup [.str "b", .str "i"], .tup [.str "c", .str "d"], .tup [.str "c", .str "e"]]
def h1F : M Fl := (sAsg 2 (cCB tupleD (cCons (cOp addD (cOp addD (cLc [3] (cIter (cSl (cVar 1) (cPart (cC (.int 1))) cNoPart)) (gN 3) tYs (cTup (cCons (cC (.str "a")) (cCons (cVar 3) cNil)))) (cLc [3] (cIter (cSl (cVar 1) (cPart (cC (.int 2))) cNoPart)) (gN 3) tYs (cTup (cCons (cC (.str "b")) (cCons (cVar 3) cNil))))) (cLst (cCons (cTup (cCons (cC (.str "c")) (cCons (cC (.str "d")) cNil))) (cCons (cTup (cCons (cC (.str "c")) (cCons (cC (.str "e")) cNil))) cNil)))) cNil)))
def h2F : M Bool := (cOr (cTest (cOp neD (cLam 1 (lamQ "law") F__law_caught (cMake "Web" F_Web___init__ (cCons (cVar 1) (cCons (cVar 2) cNil)))) (cLst (cCons (cC (.str "links")) (cCons (cC (.str "16")) cNil))))) (cTest (cOp neD (cCB lenD (cCons (cProp "Web" F_Web_ties (cMake "Web" F_Web___init__ (cCons (cVar 1) (cCons (cSl (cVar 2) cNoPart (cPart (cC (.int 16)))) cNil)))) cNil)) (cC (.int 16)))))
theorem h1_v {ns : List Int} : h1F ⟨[.dat (.scr ns), .dat spotsD, .un, .un, .un], TS⟩ = .ok .nx ⟨[.dat (.scr ns), .dat spotsD, .dat (.tup linksL), .un, .un], TS⟩ := by kernel_rfl
theorem h2_v {ns : List Int} : h2F ⟨[.dat (.scr ns), .dat spotsD, .dat (.tup linksL), .un, .un], TS⟩ = .ok false ⟨[.dat (.scr ns), .dat spotsD, .dat (.tup linksL), .un, .un], TS⟩ := by kernel_rfl
theorem nine : tupleSD [.str "abcdefghi"] = some spotsD := by kernel_rfl
def restF : M Fl := (sSeq (sFor (cRange1 (cCons (cCB max2D (cCons (cC (.int 2)) (cCons (cCB min2D (cCons (cCB lenD (cCons (cVar 0) cNil)) (cCons (cC (.int 5)) cNil))) cNil))) cNil)) (gN 4) b1_law)
  (sRet (cC (.bl true))))
theorem law_is : g_law = (sSeq (sAsg 1 (cCB tupleSD (cCons (cC (.str "abcdefghi")) cNil))) (sSeq h1F (sSeq (sIf h2F (sRet (cC (.bl false))) sNx) restF))) := rfl
theorem rest_v {ns : List Int} (hl : ns.length ≤ 63) : ∃ e, restF ⟨[.dat (.scr ns), .dat spotsD, .dat (.tup linksL), .un, .un], TS⟩ = .ok (.rt (.bl true)) e := by
  obtain ⟨m, hm⟩ : ∃ m : Int, m = if (if (5 : Int) < ns.length then (5 : Int) else ns.length) > 2 then (if (5 : Int) < ns.length then (5 : Int) else ns.length) else 2 := ⟨_, rfl⟩
  have h5 : m ≤ 5 := by rw [hm]; split <;> split <;> omega
  have h0 : 0 ≤ m := by rw [hm]; split <;> split <;> omega
  obtain ⟨n, rfl⟩ : ∃ n : Nat, m = n := ⟨m.toNat, by omega⟩
  obtain ⟨e', q1, k, x, _, _, he⟩ := forL_ok (g := gN 4) (body := b1_law) (ds := rng 0 n) (e := ⟨[.dat (.scr ns), .dat spotsD, .dat (.tup linksL), .un, .un], TS⟩)
    (fun ds e => ∃ (k : Nat) (x : S), k ≤ n ∧ ds = rng k (n - k) ∧ e = ⟨[.dat (.scr ns), .dat spotsD, .dat (.tup linksL), .un, x], TS⟩)
    (fun dd ds e ⟨k, x, hk, hd, he⟩ => by
      have hlt : k < n := by
        rcases Nat.lt_or_ge k n with h | h
        · exact h
        · rw [show n - k = 0 by omega] at hd
          cases hd
      rw [show n - k = (n - (k + 1)) + 1 by omega, rng_cons] at hd
      cases hd
      subst he
      obtain ⟨d, j1, j2⟩ := jar_ok (ns := ns) (k := k) (by omega) hl
      obtain ⟨d', r1, _⟩ := right_ok j2
      refine ⟨⟨[.dat (.scr ns), .dat spotsD, .dat (.tup linksL), .un, .dat (.int k)], TS⟩, ⟨[.dat (.scr ns), .dat spotsD, .dat (.tup linksL), .un, .dat (.int k)], TS⟩, rfl, .inl ?_, k + 1, .dat (.int k), hlt, by rw [show ((k + 1 : Nat) : Int) = (k : Int) + 1 by omega], rfl⟩
      have tt : callTT ⟨[.dat (.scr ns), .dat spotsD, .dat (.tup linksL), .un, .dat (.int k)], TS⟩ 0 (.ok (.bl true) (d' :: TS)) = .ok (.val (.bl true)) ⟨[.dat (.scr ns), .dat spotsD, .dat (.tup linksL), .un, .dat (.int k)], TS⟩ := v_ttO rfl
      have r2 : F__law_right [.jar 0] (d :: List.drop 0 TS) = .ok (.bl true) (d' :: TS) := r1
      simp -implicitDefEqProofs only [b1_law, v_sIf, DL.v_not, v_tru, v_tt, v_nCall, v_cons, DL.v_var, List.getElem?_cons_zero, List.getElem?_cons_succ, v_varD, v_bnd, v_nil, v_frzs, v_frzV, v_frz2, v_frzs0, v_frzC, v_nCallO, List.map_cons, List.map_nil, j1, v_callN, r2, tt, v_rdV, Option.bind_some, v_truB, v_optB, Bool.not_true, Bool.false_eq_true, if_false, v_sNx])
    ⟨0, .un, Nat.zero_le _, by simp, rfl⟩
  subst he
  refine ⟨⟨[.dat (.scr ns), .dat spotsD, .dat (.tup linksL), .un, x], TS⟩, ?_⟩
  have r1 : rngI1 [.val (.int (n : Int))] = some (rng 0 n) := v_rng (by omega) (by omega)
  simp -implicitDefEqProofs only [restF, v_seq, v_for, v_range1, v_cons, v_cb, v_c, v_bnd, DL.v_var, List.getElem?_cons_zero, List.getElem?_cons_succ, v_varD, v_nil, v_rds, v_rds0, v_rds2, v_rdV, Option.bind_some, v_lenS, v_opt, v_min, v_max]
  rw [← hm, r1]
  simp -implicitDefEqProofs only [v_optB, v_bnd, q1, v_nx, v_ret, v_c, v_frzV, v_retF]
theorem holds : ∀ ns : List Int, ns.length ≤ 63 → ∃ j, F_law [.dat (.scr ns)] (qs.map D.tab) = .ok (.bl true) j := by
  intro ns hl
  have a := h1_v (ns := ns)
  have b := h2_v (ns := ns)
  obtain ⟨e, c⟩ := rest_v hl
  refine ⟨e.j, ?_⟩
  have hq : qs.map D.tab = TS := rfl
  rw [hq]
  unfold F_law
  rw [law_is]
  simp -implicitDefEqProofs [nine, a, b, c]
end K03

open PySem PyProof.Rows PySem.W PySem.Calls
theorem PySem.Challenge.cw_hurryways_k03_whole_webs_refused_holds : PySem.Challenge.rw_hurryways_k03_whole_webs_refused.Holds := by
  w_on; o_law
  refine HandSHeadRun.head_any (r := OpenLaw.row PySem.Challenge.rw_hurryways_k03_whole_webs_refused) (q := view (OpenLaw.row PySem.Challenge.rw_hurryways_k03_whole_webs_refused).prog [39]) (H := K03.hk) (ob := K03.ob) (M := 20000) (loose := K03.loose)
    (d := HandSHeadRun.topDef (OpenLaw.row PySem.Challenge.rw_hurryways_k03_whole_webs_refused).prog 39) (kwd := []) K03.ob_eq (by kernel_rfl) (fun s => by kernel_rfl) K03.run (by kernel_rfl) (by kernel_rfl) (by kernel_rfl) (by rfl)
    (by first | assumption | decide +kernel) (by decide +kernel) ⟨rfl, rfl, rfl, rfl, rfl, by decide +kernel⟩ ?hw ?hc
  case hw => w_witness2
  case hc =>
    refine DL.walk_T (l := PySem.Challenge.rw_hurryways_k03_whole_webs_refused) (n := 63) (k := 9) (x := "_law_script") (Φ := K03.F_law) (qs := K03.qs) rfl (by decide) (by kernel_rfl) ⟨rfl, by decide, by decide⟩ ?F K03.holds
    intro w mg fa h Y G hmg0
    obtain ⟨K, KX, c⟩ := Y
    have hmg : mg ("law" : PySem.Str)
                                                                                                              = some (.ref fa) := by
      have e : (HandSHeadRun.topDef (OpenLaw.row PySem.Challenge.rw_hurryways_k03_whole_webs_refused).prog 39).name = ("law" : PySem.Str) := by kernel_rfl
      rw [← e]
      exact hmg0
    obtain ⟨T, hT, hcs⟩ := K03.facts KX G c
    have ea : fa = T.a_law := by
      have z := hmg.symm.trans T.m_law
      cases z
      rfl
    subst ea
    have tabs := DL.SaysL.tabs c KX
    rw [← hcs] at tabs
    exact ⟨K, T.d_law, K03.clK K, T.cs, KX, tabs.1, tabs.2.1, tabs.2.2.1, tabs.2.2.2, by rw [hcs]; rfl, fun s v => L2.FunD.bindsA (ps := ["_law_script"]) T.F_law (fun _ _ _ _ _ _ us hl => match us, hl with | [_], _ => rfl) s [v] rfl, fun base _ _ tb => K03.ok_law T tb⟩

