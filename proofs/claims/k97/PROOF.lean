import PyProof.Rows.All
import Wide.All
import OpenK.AllK
import Wide.FinOn
import HandS.ForMost
import HandS.ForExc
import HandS.Wide
import HandS.WideBits
import HandS.IsInst
import HandS.Defaults
import HandS.MakeKw
import HandS.MakeKwOnly
import HandS.Lambda
import HandS.Zip
import HandS.Style
import PySem.Challenge.RW_wheelsky_k97_dark_meetings_are_near_whol
import HandS.HeadHook1
import KE.KExcIs
import HandS.ExcIs
import HandS.ExcField
import HandS.Head0
import HandS.Head1
import HandS.Head2
import HandS.HeadHook4
import HandS.HeadWalk
import HandS.EndTab
import HandS.ExcInit
import HandS.TryMany
import PyProof.LongRange
import KE.GoesMore
import HandS.Small
import PyProof.ListTruth
import KE.SortUse
import HandS.Nested
import HandS.TryOnly
set_option Elab.async false
set_option linter.all false
set_option maxRecDepth 100000
set_option maxHeartbeats 2000000
/-! Data of a program told as trees (D), what a value stands for (Rep), and statements about expressions and blocks that speak of such trees alone. -/
namespace DL
open PySem L2

inductive D where
  | s (v : V)
  | tup (ds : List D)
  | lst (ds : List D)
  | ins (C : Addr) (fs : List (Str × D))
abbrev D.int (i : Int) : D := .s (.int i)
abbrev D.bl (b : Bool) : D := .s (.bl b)
abbrev D.non : D := .s .non
abbrev D.str (x : Str) : D := .s (.str x)

mutual
inductive Rep (K : PySem.W.Frag) (H : Hp) : D → V → Prop
  | s (v : V) : Rep K H (.s v) v
  | tup {p : Addr} {vs : List V} {ds : List D} (h : SqT K H p vs) (r : RepL K H ds vs) : Rep K H (.tup ds) (.ref p)
  | lst {p : Addr} {vs : List V} {ds : List D} (h : SqL K H p vs) (r : RepL K H ds vs) : Rep K H (.lst ds) (.ref p)
  | ins {p C dx : Addr} {gs : List (Str × V)} {fs : List (Str × D)} (h : H p = some (.ins C dx gs)) (r : RepF K H fs gs) : Rep K H (.ins C fs) (.ref p)
inductive RepL (K : PySem.W.Frag) (H : Hp) : List D → List V → Prop
  | nil : RepL K H [] []
  | cons {d : D} {v : V} {ds : List D} {vs : List V} (h : Rep K H d v) (r : RepL K H ds vs) : RepL K H (d :: ds) (v :: vs)
inductive RepF (K : PySem.W.Frag) (H : Hp) : List (Str × D) → List (Str × V) → Prop
  | nil : RepF K H [] []
  | cons {n : Str} {d : D} {v : V} {fs : List (Str × D)} {gs : List (Str × V)} (h : Rep K H d v) (r : RepF K H fs gs) : RepF K H ((n, d) :: fs) ((n, v) :: gs)
end

theorem sqT_mono {K : PySem.W.Frag} {H H' : Hp} {a : Addr} {xs : List V} (e : Same H H') (h : SqT K H a xs) : SqT K H' a xs := by
  rcases h with (h | ⟨o, h⟩) | h
  · exact .inl (.inl (e _ _ h))
  · exact .inl (.inr ⟨o, e _ _ h⟩)
  · exact .inr h

mutual
theorem Rep.mono {K : PySem.W.Frag} {H H' : Hp} (e : Same H H') : ∀ {d : D} {v : V}, Rep K H d v → Rep K H' d v
  | _, _, .s v => .s v
  | _, _, .tup h r => .tup (sqT_mono e h) (RepL.mono e r)
  | _, _, .lst h r => .lst (e.seq h) (RepL.mono e r)
  | _, _, .ins h r => .ins (e _ _ h) (RepF.mono e r)
theorem RepL.mono {K : PySem.W.Frag} {H H' : Hp} (e : Same H H') : ∀ {d : List D} {v : List V}, RepL K H d v → RepL K H' d v
  | _, _, .nil => .nil
  | _, _, .cons h r => .cons (Rep.mono e h) (RepL.mono e r)
theorem RepF.mono {K : PySem.W.Frag} {H H' : Hp} (e : Same H H') : ∀ {d : List (Str × D)} {v : List (Str × V)}, RepF K H d v → RepF K H' d v
  | _, _, .nil => .nil
  | _, _, .cons h r => .cons (Rep.mono e h) (RepF.mono e r)
end
section
variable {K : PySem.W.Frag} {H : Hp}
theorem RepL.length : ∀ {ds : List D} {vs : List V}, RepL K H ds vs → ds.length = vs.length
  | _, _, .nil => rfl
  | _, _, .cons _ r => congrArg (· + 1) (RepL.length r)
theorem RepL.get : ∀ {ds : List D} {vs : List V} {i : Nat} {d : D}, RepL K H ds vs → ds[i]? = some d → ∃ v, vs[i]? = some v ∧ Rep K H d v
  | _, _, i, d, .nil, e => by simp at e
  | _, _, 0, d, .cons h r, e => ⟨_, rfl, by simp at e; subst e; exact h⟩
  | _, _, i + 1, d, .cons h r, e => by
    obtain ⟨v, a, b⟩ := RepL.get (i := i) (d := d) r (by simpa using e)
    exact ⟨v, by simpa using a, b⟩
theorem RepL.get' : ∀ {ds : List D} {vs : List V} {i : Nat} {v : V}, RepL K H ds vs → vs[i]? = some v → ∃ d, ds[i]? = some d ∧ Rep K H d v
  | _, _, i, d, .nil, e => by simp at e
  | _, _, 0, d, .cons h r, e => ⟨_, rfl, by simp at e; subst e; exact h⟩
  | _, _, i + 1, d, .cons h r, e => by
    obtain ⟨v, a, b⟩ := RepL.get' (i := i) (v := d) r (by simpa using e)
    exact ⟨v, by simpa using a, b⟩
theorem RepL.append : ∀ {ds es : List D} {vs ws : List V}, RepL K H ds vs → RepL K H es ws → RepL K H (ds ++ es) (vs ++ ws)
  | _, _, _, _, .nil, q => q
  | _, _, _, _, .cons h r, q => .cons h (RepL.append r q)
theorem RepL.one {d : D} {v : V} (h : Rep K H d v) : RepL K H [d] [v] := .cons h .nil
theorem RepL.set {d : D} {v : V} (h : Rep K H d v) : ∀ {ds : List D} {vs : List V} (i : Nat), RepL K H ds vs → RepL K H (ds.set i d) (vs.set i v)
  | _, _, _, .nil => .nil
  | _, _, 0, .cons _ r => .cons h r
  | _, _, i + 1, .cons q r => .cons q (RepL.set h i r)
theorem RepL.take : ∀ {ds : List D} {vs : List V} (n : Nat), RepL K H ds vs → RepL K H (ds.take n) (vs.take n)
  | _, _, 0, _ => .nil
  | _, _, _ + 1, .nil => .nil
  | _, _, n + 1, .cons h r => .cons h (RepL.take n r)
theorem RepL.drop : ∀ {ds : List D} {vs : List V} (n : Nat), RepL K H ds vs → RepL K H (ds.drop n) (vs.drop n)
  | _, _, 0, r => r
  | _, _, _ + 1, .nil => .nil
  | _, _, n + 1, .cons h r => RepL.drop n r
theorem RepL.reverse : ∀ {ds : List D} {vs : List V}, RepL K H ds vs → RepL K H ds.reverse vs.reverse
  | _, _, .nil => .nil
  | _, _, .cons h r => by
    rw [List.reverse_cons, List.reverse_cons]
    exact RepL.append (RepL.reverse r) (.one h)
theorem RepL.ints : ∀ (ns : List Int), RepL K H (ns.map D.int) (ns.map V.int)
  | [] => .nil
  | n :: r => .cons (.s _) (RepL.ints r)
theorem RepL.of_s : ∀ {vs us : List V}, RepL K H (vs.map D.s) us → us = vs
  | [], _, .nil => rfl
  | v :: r, _, .cons h q => by
    cases h
    rw [RepL.of_s q]
theorem RepL.s_of : ∀ {vs : List V}, RepL K H (vs.map D.s) vs
  | [] => .nil
  | v :: r => .cons (.s _) RepL.s_of
theorem RepF.lookup {f : Str} {d : D} : ∀ {fs : List (Str × D)} {gs : List (Str × V)}, RepF K H fs gs → fs.lookup f = some d → ∃ v, gs.lookup f = some v ∧ Rep K H d v
  | _, _, .nil, e => by simp at e
  | _, _, .cons (n := n) h r, e => by
    rw [List.lookup_cons] at e ⊢
    cases q : f == n with
    | true =>
      rw [q] at e
      simp at e
      subst e
      exact ⟨_, rfl, h⟩
    | false =>
      rw [q] at e
      exact RepF.lookup r e
theorem RepF.lookup_none {f : Str} : ∀ {fs : List (Str × D)} {gs : List (Str × V)}, RepF K H fs gs → fs.lookup f = none → gs.lookup f = none
  | _, _, .nil, e => rfl
  | _, _, .cons (n := n) h r, e => by
    rw [List.lookup_cons] at e ⊢
    cases q : f == n with
    | true =>
      rw [q] at e
      simp at e
    | false =>
      rw [q] at e
      exact RepF.lookup_none r e
theorem RepF.length : ∀ {fs : List (Str × D)} {gs : List (Str × V)}, RepF K H fs gs → fs.length = gs.length
  | _, _, .nil => rfl
  | _, _, .cons _ r => congrArg (· + 1) (RepF.length r)
def putD (f : Str) (v : D) : List (Str × D) → List (Str × D)
  | [] => [(f, v)]
  | (n, x) :: r => if n = f then (n, v) :: r else (n, x) :: putD f v r
end

/-! ### the environment -/
abbrev DE := List (Option D)
def EnvR (K : PySem.W.Frag) (G : Hp) (δ : DE) (σ : St) : Prop := δ.length = σ.length ∧ ∀ (i : Nat) (d : D), δ[i]? = some (some d) → ∃ v, σ[i]? = some (some v) ∧ Rep K G d v
section
variable {K : PySem.W.Frag} {G G' : Hp} {δ : DE} {σ : St}
theorem EnvR.mono (e : Same G G') (h : EnvR K G δ σ) : EnvR K G' δ σ := ⟨h.1, fun i d q => let ⟨v, a, b⟩ := h.2 i d q; ⟨v, a, b.mono e⟩⟩
theorem EnvR.set {i : Nat} {d : D} {v : V} (h : EnvR K G δ σ) (r : Rep K G d v) : EnvR K G (δ.set i (some d)) (σ.set i (some v)) := by
  refine ⟨by simp [h.1], fun j e q => ?_⟩
  by_cases hj : j = i
  · subst hj
    by_cases hl : j < δ.length
    · rw [List.getElem?_set_self hl] at q
      cases q
      exact ⟨v, List.getElem?_set_self (by rw [← h.1]; exact hl), r⟩
    · rw [List.getElem?_eq_none (by simpa using hl)] at q
      cases q
  · rw [List.getElem?_set_ne (Ne.symm hj)] at q ⊢
    exact h.2 j e q
theorem EnvR.forget {δ' : DE} (h : EnvR K G δ σ) (l : δ'.length = δ.length) (w : ∀ (i : Nat) d, δ'[i]? = some (some d) → δ[i]? = some (some d)) : EnvR K G δ' σ :=
  ⟨l.trans h.1, fun i d q => h.2 i d (w i d q)⟩
theorem EnvR.start {N : List Str} {ds : List D} {vs : List V} (r : RepL K G ds vs) (l : ds.length ≤ N.length) : EnvR K G (ds.map some ++ List.replicate (N.length - ds.length) none) (start N vs) := by
  unfold L2.start
  refine ⟨by simp [r.length], fun i d q => ?_⟩
  by_cases hi : i < ds.length
  · rw [List.getElem?_append_left (by simpa using hi), List.getElem?_map] at q
    cases e : ds[i]? with
    | none => rw [e] at q; cases q
    | some x =>
      rw [e] at q
      simp at q
      subst q
      obtain ⟨v, a, b⟩ := r.get e
      refine ⟨v, ?_, b⟩
      rw [List.getElem?_append_left (by simp [← r.length]; exact hi), List.getElem?_map, a]
      rfl
  · rw [List.getElem?_append_right (by simpa using hi), List.getElem?_replicate] at q
    split at q <;> cases q
end

/-! ### what the body of a def may touch -/
structure Cell where
  a : Addr
  P : Hp → HO → Prop
  mono : ∀ {G G' o}, Same G G' → P G o → P G' o
  mu : ∀ {G o}, P G o → (∃ xs, o = .lst xs) ∨ ∃ C dx fs, o = .ins C dx fs
/-- an own list -/
def Cell.own (K : PySem.W.Frag) (a : Addr) (ds : List D) : Cell := ⟨a, fun G o => ∃ vs, o = .lst vs ∧ RepL K G ds vs, fun e h => h.elim fun vs h => ⟨vs, h.1, h.2.mono e⟩, fun h => h.elim fun vs h => .inl ⟨vs, h.1⟩⟩
/-- an own instance (under construction) -/
def Cell.inst (K : PySem.W.Frag) (a C dx : Addr) (fs : List (Str × D)) : Cell := ⟨a, fun G o => ∃ gs, o = .ins C dx gs ∧ RepF K G fs gs, fun e h => h.elim fun gs h => ⟨gs, h.1, h.2.mono e⟩, fun h => h.elim fun gs h => .inr ⟨C, dx, gs, h.1⟩⟩
theorem Cell.ntbl {c : Cell} {G : Hp} {o : HO} (h : c.P G o) (ps : Array Value) : o ≠ .tbl ps := fun z => by
  rcases c.mu h with ⟨xs, e⟩ | ⟨_, _, _, e⟩ <;> rw [e] at z <;> cases z
theorem Cell.ntup {c : Cell} {G : Hp} {o : HO} (h : c.P G o) (xs : List V) : o ≠ .tup xs := fun z => by
  rcases c.mu h with ⟨xs, e⟩ | ⟨_, _, _, e⟩ <;> rw [e] at z <;> cases z
theorem Cell.ncode {c : Cell} {G : Hp} {o : HO} (h : c.P G o) (a : Addr) (q : Str) : o ≠ LamX.CodeO a q := fun z => by
  unfold LamX.CodeO at z
  rcases c.mu h with ⟨xs, e⟩ | ⟨_, _, _, e⟩ <;> rw [e] at z <;> cases z
/-- where the body was entered: the known part and the heap then, what may change, the tables of code objects -/
structure Ent where
  G0 : Hp
  H0 : Hp
  M0 : Addr → Prop
  T : List (Addr × Str)
/-- where something new of the body may lie -/
def Ent.Fr (E : Ent) (p : Addr) : Prop := E.M0 p ∨ E.H0 p = none ∨ (E.T ≠ [] ∧ ∃ ps, E.H0 p = some (.tbl ps))
structure SOk (E : Ent) (ω : List Cell) (G H : Hp) : Prop where
  gh : Same G H
  nt : ∀ p ps, G p ≠ some (.tbl ps)
  nd : (ω.map (·.a)).Nodup
  cs : ∀ c ∈ ω, G c.a = none ∧ ∃ o, H c.a = some o ∧ c.P G o
  cf : ∀ c ∈ ω, E.Fr c.a
  tb : LamX.Tabs E.T H
  tm : ∀ t ∈ E.T, E.M0 t.1
  fr : ∀ p o, G p = some o → E.G0 p = some o ∨ E.Fr p
  kp : ∀ p o, ¬ E.M0 p → (E.T ≠ [] → ∀ ps, o ≠ .tbl ps) → E.H0 p = some o → H p = some o
  al : ∀ p, H p = none → E.Fr p
section
variable {E : Ent} {ω : List Cell} {G H : Hp}
/-- a new object that is known from now on -/
theorem SOk.new (k : SOk E ω G H) {p : Addr} {o : HO} (hp : H p = none) (ht : ∀ ps, o ≠ .tbl ps) : SOk E ω (upd G p o) (upd H p o) ∧ Same G (upd G p o) := by
  have gp : G p = none := k.gh.free hp
  have sG : Same G (upd G p o) := fun b u e => by rw [upd_ne (ne_of_none e gp)]; exact e
  have sH : Same H (upd H p o) := fun b u e => by rw [upd_ne (ne_of_none e hp)]; exact e
  refine ⟨⟨fun b u e => ?_, fun b ps e => ?_, k.nd, fun c hc => ?_, k.cf, k.tb.ext sH, k.tm, fun b u e => ?_, fun b u hm hn e => sH _ _ (k.kp b u hm hn e), fun b e => ?_⟩, sG⟩
  · by_cases hb : b = p
    · subst hb; rw [upd_same] at e ⊢; exact e
    · rw [upd_ne hb] at e ⊢; exact k.gh b u e
  · by_cases hb : b = p
    · subst hb; rw [upd_same] at e; exact ht ps (Option.some.inj e)
    · rw [upd_ne hb] at e; exact k.nt b ps e
  · obtain ⟨g, u, e, q⟩ := k.cs c hc
    have ne : c.a ≠ p := ne_of_none e hp
    exact ⟨by rw [upd_ne ne]; exact g, u, by rw [upd_ne ne]; exact e, c.mono sG q⟩
  · by_cases hb : b = p
    · subst hb; exact .inr (k.al b hp)
    · rw [upd_ne hb] at e; exact k.fr b u e
  · by_cases hb : b = p
    · subst hb; rw [upd_same] at e; cases e
    · rw [upd_ne hb] at e; exact k.al b e
/-- a new object that is the body's own -/
theorem SOk.cell (k : SOk E ω G H) {c : Cell} {o : HO} (hp : H c.a = none) (q : c.P G o) : SOk E (c :: ω) G (upd H c.a o) := by
  have gp : G c.a = none := k.gh.free hp
  have sH : Same H (upd H c.a o) := fun b u e => by rw [upd_ne (ne_of_none e hp)]; exact e
  refine ⟨fun b u e => sH _ _ (k.gh b u e), k.nt, ?_, fun x hx => ?_, fun x hx => ?_, k.tb.ext sH, k.tm, k.fr, fun b u hm hn e => sH _ _ (k.kp b u hm hn e), fun b e => ?_⟩
  · rw [List.map_cons, List.nodup_cons]
    refine ⟨fun z => ?_, k.nd⟩
    obtain ⟨x, hx, e⟩ := List.mem_map.mp z
    obtain ⟨_, u, e2, _⟩ := k.cs x hx
    rw [e, hp] at e2
    cases e2
  · rcases List.mem_cons.mp hx with rfl | hx
    · exact ⟨gp, o, upd_same, q⟩
    · obtain ⟨g, u, e, r⟩ := k.cs x hx
      exact ⟨g, u, sH _ _ e, r⟩
  · rcases List.mem_cons.mp hx with rfl | hx
    · exact k.al _ hp
    · exact k.cf x hx
  · by_cases hb : b = c.a
    · subst hb; rw [upd_same] at e; cases e
    · rw [upd_ne hb] at e; exact k.al b e
/-- an own object changes -/
theorem SOk.put (k : SOk E ω G H) {c c' : Cell} {ω1 ω2 : List Cell} {o : HO} (e : ω = ω1 ++ c :: ω2) (ea : c'.a = c.a) (q : c'.P G o) : SOk E (ω1 ++ c' :: ω2) G (upd H c.a o) := by
  subst e
  have hm : c ∈ ω1 ++ c :: ω2 := List.mem_append_right _ List.mem_cons_self
  obtain ⟨gp, u0, hu0, q0⟩ := k.cs c hm
  have nd := k.nd
  rw [List.map_append, List.map_cons] at nd
  have hne : ∀ x, x ∈ ω1 ∨ x ∈ ω2 → x.a ≠ c.a := fun x hx z => by
    rw [List.nodup_append] at nd
    obtain ⟨n1, n2, n3⟩ := nd
    rcases hx with hx | hx
    · exact n3 x.a (List.mem_map.mpr ⟨x, hx, rfl⟩) c.a List.mem_cons_self z
    · rw [List.nodup_cons] at n2
      exact n2.1 (List.mem_map.mpr ⟨x, hx, z⟩)
  have kH : ∀ b v, b ≠ c.a → H b = some v → upd H c.a o b = some v := fun b v h e => by rw [upd_ne h]; exact e
  refine ⟨fun b v h => kH b v (fun z => by rw [z, gp] at h; cases h) (k.gh b v h), k.nt, ?_, fun x hx => ?_, fun x hx => ?_, fun t ht => ?_, k.tm, k.fr, fun b v hb hn h => ?_, fun b h => ?_⟩
  · rw [List.map_append, List.map_cons, ea]; exact nd
  · rcases List.mem_append.mp hx with hx | hx
    · obtain ⟨g, v, h1, h2⟩ := k.cs x (List.mem_append_left _ hx)
      exact ⟨g, v, kH _ _ (hne x (.inl hx)) h1, h2⟩
    · rcases List.mem_cons.mp hx with rfl | hx
      · exact ⟨by rw [ea]; exact gp, o, by rw [ea]; exact upd_same, q⟩
      · obtain ⟨g, v, h1, h2⟩ := k.cs x (List.mem_append_right _ (List.mem_cons_of_mem _ hx))
        exact ⟨g, v, kH _ _ (hne x (.inr hx)) h1, h2⟩
  · rcases List.mem_append.mp hx with hx | hx
    · exact k.cf x (List.mem_append_left _ hx)
    · rcases List.mem_cons.mp hx with rfl | hx
      · rw [ea]; exact k.cf c hm
      · exact k.cf x (List.mem_append_right _ (List.mem_cons_of_mem _ hx))
  · obtain ⟨ps, h1, h2, h3⟩ := k.tb t ht
    refine ⟨ps, kH _ _ (fun z => by rw [z, hu0] at h1; exact Cell.ntbl q0 ps (Option.some.inj h1)) h1, h2, fun pos cv hc => ?_⟩
    obtain ⟨c', e1, e2⟩ := h3 pos cv hc
    exact ⟨c', e1, kH _ _ (fun z => by rw [z, hu0] at e2; exact Cell.ncode q0 _ _ (Option.some.inj e2)) e2⟩
  · refine kH _ _ (fun z => ?_) (k.kp b v hb hn h)
    rcases k.cf c hm with w | w | ⟨w1, ps, w⟩
    · exact hb (by rw [z]; exact w)
    · rw [z, w] at h; cases h
    · rw [z, w] at h; cases h; exact hn w1 ps rfl
  · by_cases hb : b = c.a
    · subst hb; rw [upd_same] at h; cases h
    · rw [upd_ne hb] at h; exact k.al b h
/-- an own object is forgotten -/
theorem SOk.drop (k : SOk E ω G H) {ω' : List Cell} (h : ω'.Sublist ω) : SOk E ω' G H :=
  ⟨k.gh, k.nt, (h.map _).nodup k.nd, fun c hc => k.cs c (h.mem hc), fun c hc => k.cf c (h.mem hc), k.tb, k.tm, k.fr, k.kp, k.al⟩
/-- the body's own new object is known from now on -/
theorem SOk.freeze (k : SOk E ω G H) {c : Cell} {ω1 ω2 : List Cell} (e : ω = ω1 ++ c :: ω2) (hf : E.Fr c.a) : ∃ o G', H c.a = some o ∧ c.P G o ∧ G' c.a = some o ∧ Same G G' ∧ SOk E (ω1 ++ ω2) G' H := by
  subst e
  have hm : c ∈ ω1 ++ c :: ω2 := List.mem_append_right _ List.mem_cons_self
  obtain ⟨gp, o, ho, q⟩ := k.cs c hm
  have sG : Same G (upd G c.a o) := fun b u e => by rw [upd_ne (ne_of_none e gp)]; exact e
  refine ⟨o, upd G c.a o, ho, q, upd_same, sG, ?_⟩
  have sub : (ω1 ++ ω2).Sublist (ω1 ++ c :: ω2) := List.Sublist.append (List.Sublist.refl _) (List.sublist_cons_self _ _)
  have nd := k.nd
  rw [List.map_append, List.map_cons] at nd
  have hne : ∀ x, x ∈ ω1 ++ ω2 → x.a ≠ c.a := fun x hx z => by
    rw [List.nodup_append] at nd
    obtain ⟨n1, n2, n3⟩ := nd
    rcases List.mem_append.mp hx with hx | hx
    · exact n3 x.a (List.mem_map.mpr ⟨x, hx, rfl⟩) c.a List.mem_cons_self z
    · rw [List.nodup_cons] at n2
      exact n2.1 (List.mem_map.mpr ⟨x, hx, z⟩)
  refine ⟨fun b u e => ?_, fun b ps e => ?_, (sub.map _).nodup k.nd, fun x hx => ?_, fun x hx => k.cf x (sub.mem hx), k.tb, k.tm, fun b u e => ?_, k.kp, k.al⟩
  · by_cases hb : b = c.a
    · subst hb; rw [upd_same] at e; rw [ho]; exact e
    · rw [upd_ne hb] at e; exact k.gh b u e
  · by_cases hb : b = c.a
    · subst hb; rw [upd_same] at e; exact Cell.ntbl q ps (Option.some.inj e)
    · rw [upd_ne hb] at e; exact k.nt b ps e
  · obtain ⟨g, u, e1, e2⟩ := k.cs x (sub.mem hx)
    exact ⟨by rw [upd_ne (hne x hx)]; exact g, u, e1, x.mono sG e2⟩
  · by_cases hb : b = c.a
    · subst hb; exact .inr hf
    · rw [upd_ne hb] at e; exact k.fr b u e
end
end DL

set_option Elab.async false
set_option linter.all false
set_option maxRecDepth 100000
set_option maxHeartbeats 2000000
/-! Expressions: EV X E ω δ e R: e, evaluated where the names hold the data δ, gives some data d with R d. -/
namespace DL
open PySem L2

def wE (X : Cx) (e : Expr) : TE := fun σ H Q => ∀ (pins : List (Addr × Obj)) (s : Shared), Inv X pins σ H s → wpAny (model X.prog X.w) X.A (eval e X.env) (EP X pins σ Q) X.xe s
theorem wE_pe {X : Cx} {e : Expr} : PE X e (wE X e) := ⟨fun pins s _ _ _ I h => h pins s I⟩
def wT (X : Cx) (e : Expr) : TT := fun σ H Q => ∀ (pins : List (Addr × Obj)) (s : Shared), Inv X pins σ H s → wpAny (model X.prog X.w) X.A (isTrue e X.env (eval e X.env)) (TP X pins σ Q) X.xe s
theorem wT_pt {X : Cx} {e : Expr} : PT X e (wT X e) := ⟨fun pins s _ _ _ I h => h pins s I⟩
def wW (X : Cx) (e : Expr) : TT := fun σ H Q => ∀ (whole : Sem Value) (pins : List (Addr × Obj)) (s : Shared), Inv X pins σ H s → wpAny (model X.prog X.w) X.A (isTrue e X.env whole) (TP X pins σ Q) X.xe s
theorem wW_pw {X : Cx} {e : Expr} : PW X e (wW X e) := ⟨fun wh pins s _ _ _ I h => h wh pins s I⟩
def wA (X : Cx) (es : List Expr) : TA := fun σ H Q => ∀ (pos : Pos) (pins : List (Addr × Obj)) (s : Shared), Inv X pins σ H s → wpAny (model X.prog X.w) X.A (spliced (backTo pos (starEach es X.env))) (AP X pins σ Q) X.xe s
theorem wA_pa {X : Cx} {es : List Expr} : PA X es (wA X es) := ⟨fun pos pins s _ _ _ I h => h pos pins s I⟩

/-- what a reading gives -/
def RE (K : PySem.W.Frag) (E : Ent) (ω : List Cell) (δ : DE) (t : TE) (R : D → Prop) : Prop :=
  ∀ (σ : St) (G H : Hp) (Q : VK), SOk E ω G H → EnvR K G δ σ → (∀ v d G' H', R d → SOk E ω G' H' → Same G G' → Rep K G' d v → Q v H') → t σ H Q
def RT (K : PySem.W.Frag) (E : Ent) (ω : List Cell) (δ : DE) (t : TT) (R : Bool → Prop) : Prop :=
  ∀ (σ : St) (G H : Hp) (Q : Bool → Hp → Prop), SOk E ω G H → EnvR K G δ σ → (∀ b G' H', R b → SOk E ω G' H' → Same G G' → Q b H') → t σ H Q
def RA (K : PySem.W.Frag) (E : Ent) (ω : List Cell) (δ : DE) (t : TA) (R : List D → Prop) : Prop :=
  ∀ (σ : St) (G H : Hp) (Q : List V → Hp → Prop), SOk E ω G H → EnvR K G δ σ → (∀ vs ds G' H', R ds → SOk E ω G' H' → Same G G' → RepL K G' ds vs → Q vs H') → t σ H Q
def EV (X : Cx) (E : Ent) (ω : List Cell) (δ : DE) (e : Expr) (R : D → Prop) : Prop := RE X.K E ω δ (wE X e) R
def ET (X : Cx) (E : Ent) (ω : List Cell) (δ : DE) (e : Expr) (R : Bool → Prop) : Prop := RT X.K E ω δ (wT X e) R
def EW (X : Cx) (E : Ent) (ω : List Cell) (δ : DE) (e : Expr) (R : Bool → Prop) : Prop := RT X.K E ω δ (wW X e) R
def EA (X : Cx) (E : Ent) (ω : List Cell) (δ : DE) (es : List Expr) (R : List D → Prop) : Prop := RA X.K E ω δ (wA X es) R

section
variable {X : Cx} {E : Ent} {ω : List Cell} {δ : DE} {R : D → Prop} {a b c e : Expr} {pos : Pos}
theorem ev_of {t : TE} (p : PE X e t) (r : RE X.K E ω δ t R) : EV X E ω δ e R := fun σ G H Q ok en k pins s I => p.run pins s σ H Q I (r σ G H Q ok en k)
theorem et_of {t : TT} {R : Bool → Prop} (p : PT X e t) (r : RT X.K E ω δ t R) : ET X E ω δ e R := fun σ G H Q ok en k pins s I => p.run pins s σ H Q I (r σ G H Q ok en k)
theorem ew_of {t : TT} {R : Bool → Prop} (p : PW X e t) (r : RT X.K E ω δ t R) : EW X E ω δ e R := fun σ G H Q ok en k wh pins s I => p.run wh pins s σ H Q I (r σ G H Q ok en k)
theorem ea_of {es : List Expr} {t : TA} {R : List D → Prop} (p : PA X es t) (r : RA X.K E ω δ t R) : EA X E ω δ es R := fun σ G H Q ok en k pos pins s I => p.run pos pins s σ H Q I (r σ G H Q ok en k)
theorem EV.imp {R' : D → Prop} (h : EV X E ω δ e R) (i : ∀ d, R d → R' d) : EV X E ω δ e R' := fun σ G H Q ok en k => h σ G H Q ok en fun v d G' H' r => k v d G' H' (i d r)
theorem ET.imp {R R' : Bool → Prop} (h : ET X E ω δ e R) (i : ∀ d, R d → R' d) : ET X E ω δ e R' := fun σ G H Q ok en k => h σ G H Q ok en fun d G' H' r => k d G' H' (i d r)
theorem ew_et {R : Bool → Prop} (h : EW X E ω δ e R) : ET X E ω δ e R := et_of (PW.pt wW_pw) h

/-! ### names, constants -/
/-- all the names of the def, as they stand in its scope -/
structure NamesOk (nv : Nat) (N : List Str) (sc : Scope) : Prop where
  vis : ∀ (i : Nat) (x : Str), Nat.blt i nv = true → N[i]? = some x → Vis sc x ∧ (x == ("__debug__" : Str)) = false ∧ (x == ("__classdict__" : Str)) = false
theorem ev_name {nv : Nat} {i : Nat} {x : Str} {d : D} (nm : NamesOk nv X.N X.env.scope) (hv : Nat.blt i nv = true) (hN : X.N[i]? = some x) (hδ : δ[i]? = some (some d)) (h : R d) : EV X E ω δ (.Name x pos) R :=
  ev_of (pe_var hN (nm.vis i x hv hN).1 (nm.vis i x hv hN).2.1 (nm.vis i x hv hN).2.2) fun σ G H Q ok en k => let ⟨v, e1, r⟩ := en.2 i d hδ; ⟨v, e1, k v d G H h ok (Same.refl G) r⟩
theorem ev_c {v : V} (p : PE X e (tC v)) (h : R (.s v)) : EV X E ω δ e R := ev_of p fun σ G H Q ok en k => k v _ G H h ok (Same.refl G) (.s v)
theorem ev_int {i : Int} {j : Nat} (h : R (.int i)) : EV X E ω δ (.Constant (.int i) j pos) R := ev_c pe_int h
theorem ev_bl {i : Bool} {j : Nat} (h : R (.bl i)) : EV X E ω δ (.Constant (.bool i) j pos) R := ev_c pe_bl h
theorem ev_non {j : Nat} (h : R .non) : EV X E ω δ (.Constant .none j pos) R := ev_c pe_non h
theorem ev_str {x : Str} {j : Nat} (h : R (.str x)) : EV X E ω δ (.Constant (.str x) j pos) R := ev_c pe_str h
/-- the names that the def reads of its module -/
structure GlobOk (Gs : List Str) (sc : Scope) : Prop where
  gl : ∀ (j : Nat) (x : Str), Gs[j]? = some x → sc.names.lookup x = some .globalImplicit ∧ (x == ("__debug__" : Str)) = false
theorem GlobOk.g {Gs : List Str} (g : GlobOk Gs X.env.scope) {j : Nat} {x : Str} (h : Gs[j]? = some x) : Gl X x := (g.gl j x h).1
theorem ev_glob {Gs : List Str} {j : Nat} {x : Str} {v : V} {u : Value} (g : GlobOk Gs X.env.scope) (hj : Gs[j]? = some x) (hm : X.mg x = some u) (r : RelV v u) (h : R (.s v)) : EV X E ω δ (.Name x pos) R :=
  ev_c (pe_glob (g.g hj) hm r (g.gl j x hj).2) h

/-! ### operators on scalars -/
theorem ev_op2 {op : Operator} {r : R2} (ho : OpR X (binaryOp op) r) (h : EV X E ω δ a fun x => EV X E ω δ b fun y => ∃ u v : V, x = .s u ∧ y = .s v ∧ ∃ z : V, (∀ H Q, Q z H → r u v H Q) ∧ R (.s z)) : EV X E ω δ (.BinOp a op b pos) R :=
  ev_of (pe_op ho wE_pe wE_pe) fun σ G H Q ok en k => h σ G H _ ok en fun v d G1 H1 q ok1 s1 r1 => q σ G1 H1 _ ok1 (en.mono s1) fun w d2 G2 H2 q2 ok2 s2 r2 => by
    obtain ⟨u, v', e1, e2, z, hr, hz⟩ := q2
    subst e1 e2
    cases r1
    cases r2
    exact hr H2 Q (k z _ G2 H2 hz ok2 (s1.trans s2) (.s z))
theorem ev_bin {op : Operator} {C : Int → Int → Prop} {g : Int → Int → V} (ho : OpR X (binaryOp op) (rI C g)) (h : EV X E ω δ a fun x => EV X E ω δ b fun y => ∃ i j : Int, x = .int i ∧ y = .int j ∧ C i j ∧ R (.s (g i j))) : EV X E ω δ (.BinOp a op b pos) R :=
  ev_op2 ho (h.imp fun x q => q.imp fun y ⟨i, j, e1, e2, hc, hr⟩ => ⟨.int i, .int j, e1, e2, g i j, fun H Q q => ⟨i, j, rfl, rfl, hc, q⟩, hr⟩)
theorem ev_bin0 {op : Operator} {g : Int → Int → V} (ho : OpR X (binaryOp op) (rI0 g)) (h : EV X E ω δ a fun x => EV X E ω δ b fun y => ∃ i j : Int, x = .int i ∧ y = .int j ∧ R (.s (g i j))) : EV X E ω δ (.BinOp a op b pos) R :=
  ev_op2 ho (h.imp fun x q => q.imp fun y ⟨i, j, e1, e2, hr⟩ => ⟨.int i, .int j, e1, e2, g i j, fun H Q q => ⟨i, j, rfl, rfl, q⟩, hr⟩)
theorem ev_add (h : EV X E ω δ a fun x => EV X E ω δ b fun y => ∃ i j : Int, x = .int i ∧ y = .int j ∧ R (.int (i + j))) : EV X E ω δ (.BinOp a .Add b pos) R := ev_bin0 op_add h
theorem ev_sub (h : EV X E ω δ a fun x => EV X E ω δ b fun y => ∃ i j : Int, x = .int i ∧ y = .int j ∧ R (.int (i - j))) : EV X E ω δ (.BinOp a .Sub b pos) R := ev_bin0 op_sub h
/-- a product: both below 2 ^ 400000 -/
def MulOk (i j : Int) : Prop := i.natAbs < 2 ^ 400000 ∧ j.natAbs < 2 ^ 400000 ∨ (-(2 ^ 64) < j ∧ j < 2 ^ 64) ∨ (-(2 ^ 64) < i ∧ i < 2 ^ 64)
theorem MulOk.ok {i j : Int} (h : MulOk i j) : IntMulOk i j := by
  rcases h with ⟨h1, h2⟩ | h | h
  · exact CMulW.ok (wide_mul h1 h2 (by omega) (by omega) (by omega))
  · exact CMul.ok (.inr h)
  · exact CMul.ok (.inl h)
theorem op_mulD : OpR X (binaryOp .Mult) (rI MulOk fun i j => .int (i * j)) := opI fun _ _ _ _ _ _ _ hc q => PyProof.Rows.mul_int q hc.ok
theorem ev_mul (h : EV X E ω δ a fun x => EV X E ω δ b fun y => ∃ i j : Int, x = .int i ∧ y = .int j ∧ MulOk i j ∧ R (.int (i * j))) : EV X E ω δ (.BinOp a .Mult b pos) R := ev_bin op_mulD h
theorem ev_fdiv (h : EV X E ω δ a fun x => EV X E ω δ b fun y => ∃ i j : Int, x = .int i ∧ y = .int j ∧ (0 < j ∧ j.natAbs < 2 ^ 8999) ∧ R (.int (i / j))) : EV X E ω δ (.BinOp a .FloorDiv b pos) R :=
  ev_bin op_fdivW (h.imp fun x q => q.imp fun y ⟨i, j, e1, e2, ⟨h1, h2⟩, hr⟩ => ⟨i, j, e1, e2, wide_div h1 h2 (by omega) (by omega), hr⟩)
theorem ev_mod (h : EV X E ω δ a fun x => EV X E ω δ b fun y => ∃ i j : Int, x = .int i ∧ y = .int j ∧ 0 < j ∧ R (.int (i % j))) : EV X E ω δ (.BinOp a .Mod b pos) R := ev_bin op_mod h
theorem ev_pow (h : EV X E ω δ a fun x => EV X E ω δ b fun y => ∃ i j : Int, x = .int i ∧ y = .int j ∧ CPow i j ∧ R (.int (i ^ j.toNat))) : EV X E ω δ (.BinOp a .Pow b pos) R := ev_bin op_pow h
theorem ev_neg (h : EV X E ω δ a fun x => ∃ i : Int, x = .int i ∧ R (.int (-i))) : EV X E ω δ (.UnaryOp .USub a pos) R :=
  ev_of (pe_un un_neg wE_pe) fun σ G H Q ok en k => h σ G H _ ok en fun v d G1 H1 q ok1 s1 r1 => by
    obtain ⟨i, e1, hr⟩ := q
    subst e1
    cases r1
    exact ⟨i, rfl, k _ _ G1 H1 hr ok1 s1 (.s _)⟩

/-! ### comparisons, as values and as tests -/
theorem re_op2 {r : R2} {R : D → Prop} (h : EV X E ω δ a fun x => EV X E ω δ b fun y => ∃ u v : V, x = .s u ∧ y = .s v ∧ ∃ z : V, (∀ H Q, Q z H → r u v H Q) ∧ R (.s z)) : RE X.K E ω δ (tOp r (wE X a) (wE X b)) R :=
  fun σ G H Q ok en k => h σ G H _ ok en fun v d G1 H1 q ok1 s1 r1 => q σ G1 H1 _ ok1 (en.mono s1) fun w d2 G2 H2 q2 ok2 s2 r2 => by
    obtain ⟨u, v', e1, e2, z, hr, hz⟩ := q2
    subst e1 e2
    cases r1
    cases r2
    exact hr H2 Q (k z _ G2 H2 hz ok2 (s1.trans s2) (.s z))
theorem rt_test {t : TE} {R : Bool → Prop} (h : RE X.K E ω δ t fun d => ∃ b, d = .bl b ∧ R b) : RT X.K E ω δ (tTest t) R := fun σ G H Q ok en k => h σ G H _ ok en fun v d G1 H1 q ok1 s1 r1 => by
  obtain ⟨b, e, hr⟩ := q
  subst e
  cases r1
  exact ⟨b, rfl, k b G1 H1 hr ok1 s1⟩
theorem rt_b {t : TE} {R : Bool → Prop} (h : RE X.K E ω δ t fun d => ∃ b, d = .bl b ∧ R b) : RT X.K E ω δ (tB t) R := rt_test h
theorem cmpI {op : CmpOp} {g : Int → Int → Bool} (hm : behindInMarks op b = false) (ho : OpR X (compareOp op) (rI0 fun i j => .bl (g i j))) (h : EV X E ω δ a fun x => EV X E ω δ b fun y => ∃ i j : Int, x = .int i ∧ y = .int j ∧ R (.bl (g i j))) : EV X E ω δ (.Compare a [op] [b] pos) R :=
  ev_of (pe_cmpR ho wE_pe wE_pe hm) (re_op2 (h.imp fun x q => q.imp fun y ⟨i, j, e1, e2, hr⟩ => ⟨.int i, .int j, e1, e2, _, fun H Q q => ⟨i, j, rfl, rfl, q⟩, hr⟩))
theorem tmpI {op : CmpOp} {g : Int → Int → Bool} {R : Bool → Prop} (hm : behindInMarks op b = false) (ho : OpR X (compareOp op) (rI0 fun i j => .bl (g i j))) (h : EV X E ω δ a fun x => EV X E ω δ b fun y => ∃ i j : Int, x = .int i ∧ y = .int j ∧ R (g i j)) : ET X E ω δ (.Compare a [op] [b] pos) R :=
  et_of (pt_cmpR ho wE_pe wE_pe hm) (rt_test (re_op2 (h.imp fun x q => q.imp fun y ⟨i, j, e1, e2, hr⟩ => ⟨.int i, .int j, e1, e2, .bl (g i j), fun H Q q => ⟨i, j, rfl, rfl, q⟩, g i j, rfl, hr⟩)))
theorem ev_lt (h : EV X E ω δ a fun x => EV X E ω δ b fun y => ∃ i j : Int, x = .int i ∧ y = .int j ∧ R (.bl (decide (i < j)))) : EV X E ω δ (.Compare a [.Lt] [b] pos) R := cmpI (nomark _) op_lt h
theorem ev_le (h : EV X E ω δ a fun x => EV X E ω δ b fun y => ∃ i j : Int, x = .int i ∧ y = .int j ∧ R (.bl (decide (i ≤ j)))) : EV X E ω δ (.Compare a [.LtE] [b] pos) R := cmpI (nomark _) op_le h
theorem ev_gt (h : EV X E ω δ a fun x => EV X E ω δ b fun y => ∃ i j : Int, x = .int i ∧ y = .int j ∧ R (.bl (decide (j < i)))) : EV X E ω δ (.Compare a [.Gt] [b] pos) R := cmpI (nomark _) op_gt h
theorem ev_ge (h : EV X E ω δ a fun x => EV X E ω δ b fun y => ∃ i j : Int, x = .int i ∧ y = .int j ∧ R (.bl (decide (j ≤ i)))) : EV X E ω δ (.Compare a [.GtE] [b] pos) R := cmpI (nomark _) op_ge h
theorem et_lt {R : Bool → Prop} (h : EV X E ω δ a fun x => EV X E ω δ b fun y => ∃ i j : Int, x = .int i ∧ y = .int j ∧ R (decide (i < j))) : ET X E ω δ (.Compare a [.Lt] [b] pos) R := tmpI (nomark _) op_lt h
theorem et_le {R : Bool → Prop} (h : EV X E ω δ a fun x => EV X E ω δ b fun y => ∃ i j : Int, x = .int i ∧ y = .int j ∧ R (decide (i ≤ j))) : ET X E ω δ (.Compare a [.LtE] [b] pos) R := tmpI (nomark _) op_le h
theorem et_gt {R : Bool → Prop} (h : EV X E ω δ a fun x => EV X E ω δ b fun y => ∃ i j : Int, x = .int i ∧ y = .int j ∧ R (decide (j < i))) : ET X E ω δ (.Compare a [.Gt] [b] pos) R := tmpI (nomark _) op_gt h
theorem et_ge {R : Bool → Prop} (h : EV X E ω δ a fun x => EV X E ω δ b fun y => ∃ i j : Int, x = .int i ∧ y = .int j ∧ R (decide (j ≤ i))) : ET X E ω δ (.Compare a [.GtE] [b] pos) R := tmpI (nomark _) op_ge h
/-- == of scalars of one kind -/
theorem ev_eq (h : EV X E ω δ a fun x => EV X E ω δ b fun y => ∃ i j : V, x = .s i ∧ y = .s j ∧ scal i j = true ∧ R (.bl (decide (i = j)))) : EV X E ω δ (.Compare a [.Eq] [b] pos) R :=
  ev_of (pe_cmpR op_eq wE_pe wE_pe (nomark _)) (re_op2 (h.imp fun x q => q.imp fun y ⟨i, j, e1, e2, hs, hr⟩ => ⟨i, j, e1, e2, _, fun H Q q => ⟨hs, q⟩, hr⟩))
theorem et_eq {R : Bool → Prop} (h : EV X E ω δ a fun x => EV X E ω δ b fun y => ∃ i j : V, x = .s i ∧ y = .s j ∧ scal i j = true ∧ R (decide (i = j))) : ET X E ω δ (.Compare a [.Eq] [b] pos) R :=
  et_of (pt_cmpR op_eq wE_pe wE_pe (nomark _)) (rt_test (re_op2 (h.imp fun x q => q.imp fun y ⟨i, j, e1, e2, hs, hr⟩ => ⟨i, j, e1, e2, _, fun H Q q => ⟨hs, q⟩, _, rfl, hr⟩)))
theorem ev_ne (h : EV X E ω δ a fun x => EV X E ω δ b fun y => ∃ i j : V, x = .s i ∧ y = .s j ∧ scal i j = true ∧ R (.bl (!decide (i = j)))) : EV X E ω δ (.Compare a [.NotEq] [b] pos) R :=
  ev_of (pe_cmpR op_ne wE_pe wE_pe (nomark _)) (re_op2 (h.imp fun x q => q.imp fun y ⟨i, j, e1, e2, hs, hr⟩ => ⟨i, j, e1, e2, _, fun H Q q => ⟨hs, q⟩, hr⟩))
theorem et_ne {R : Bool → Prop} (h : EV X E ω δ a fun x => EV X E ω δ b fun y => ∃ i j : V, x = .s i ∧ y = .s j ∧ scal i j = true ∧ R (!decide (i = j))) : ET X E ω δ (.Compare a [.NotEq] [b] pos) R :=
  et_of (pt_cmpR op_ne wE_pe wE_pe (nomark _)) (rt_test (re_op2 (h.imp fun x q => q.imp fun y ⟨i, j, e1, e2, hs, hr⟩ => ⟨i, j, e1, e2, _, fun H Q q => ⟨hs, q⟩, _, rfl, hr⟩)))
/-- is None of data -/
def D.isNon : D → Bool
  | .s v => decide (v = .non)
  | _ => false
theorem Rep.isNon {K : PySem.W.Frag} {G : Hp} {d : D} {v : V} (r : Rep K G d v) : decide (v = .non) = d.isNon := by
  cases r <;> first | rfl | (exact decide_eq_false fun z => nomatch z)
theorem re_isN {R : D → Prop} (h : EV X E ω δ a fun x => R (.bl x.isNon)) : RE X.K E ω δ (tIsN (wE X a)) R := fun σ G H Q ok en k => h σ G H _ ok en fun v d G1 H1 q ok1 s1 r1 => by
  show Q (.bl (decide (v = .non))) H1
  rw [r1.isNon]
  exact k _ _ G1 H1 q ok1 s1 (.s _)
theorem re_notN {R : D → Prop} (h : EV X E ω δ a fun x => R (.bl (!x.isNon))) : RE X.K E ω δ (tNotN (wE X a)) R := fun σ G H Q ok en k => h σ G H _ ok en fun v d G1 H1 q ok1 s1 r1 => by
  show Q (.bl (!decide (v = .non))) H1
  rw [r1.isNon]
  exact k _ _ G1 H1 q ok1 s1 (.s _)
theorem ev_isN {j : Nat} {p' : Pos} (h : EV X E ω δ a fun x => R (.bl x.isNon)) : EV X E ω δ (.Compare a [.Is] [.Constant .none j p'] pos) R := ev_of (pe_cmp (pc_isN wE_pe)) (re_isN h)
theorem ev_notN {j : Nat} {p' : Pos} (h : EV X E ω δ a fun x => R (.bl (!x.isNon))) : EV X E ω δ (.Compare a [.IsNot] [.Constant .none j p'] pos) R := ev_of (pe_cmp (pc_notN wE_pe)) (re_notN h)
theorem et_isN {j : Nat} {p' : Pos} {R : Bool → Prop} (h : EV X E ω δ a fun x => R x.isNon) : ET X E ω δ (.Compare a [.Is] [.Constant .none j p'] pos) R := et_of (pt_cmp (pc_isN wE_pe)) (rt_b (re_isN (h.imp fun x q => ⟨_, rfl, q⟩)))
theorem et_notN {j : Nat} {p' : Pos} {R : Bool → Prop} (h : EV X E ω δ a fun x => R (!x.isNon)) : ET X E ω δ (.Compare a [.IsNot] [.Constant .none j p'] pos) R := et_of (pt_cmp (pc_notN wE_pe)) (rt_b (re_notN (h.imp fun x q => ⟨_, rfl, q⟩)))
/-- a < b < c and so on, as a test -/
theorem et_chain {op op' : CmpOp} {g g' : Int → Int → Bool} {R : Bool → Prop} (ho : OpR X (compareOp op) (rI0 fun i j => .bl (g i j))) (ho' : OpR X (compareOp op') (rI0 fun i j => .bl (g' i j)))
    (hp : PT X (.Compare a [op, op'] [b, c] pos) (tTest (tChain (rI0 fun i j => .bl (g i j)) (rI0 fun i j => .bl (g' i j)) (wE X a) (wE X b) (wE X c))))
    (h : EV X E ω δ a fun x => EV X E ω δ b fun y => ∃ i j : Int, x = .int i ∧ y = .int j ∧ (g i j = false → R false) ∧ (g i j = true → EV X E ω δ c fun z => ∃ l : Int, z = .int l ∧ R (g' j l))) : ET X E ω δ (.Compare a [op, op'] [b, c] pos) R :=
  et_of hp (rt_test fun σ G H Q ok en k => h σ G H _ ok en fun v d G1 H1 q ok1 s1 r1 => q σ G1 H1 _ ok1 (en.mono s1) fun w d2 G2 H2 q2 ok2 s2 r2 => by
    obtain ⟨i, j, e1, e2, h1, h2⟩ := q2
    subst e1 e2
    cases r1
    cases r2
    refine ⟨i, j, rfl, rfl, g i j, rfl, ?_⟩
    cases hg : g i j with
    | true =>
      rw [if_pos rfl]
      refine h2 hg σ G2 H2 _ ok2 (en.mono (s1.trans s2)) fun z d3 G3 H3 q3 ok3 s3 r3 => ?_
      obtain ⟨l, e3, hr⟩ := q3
      subst e3
      cases r3
      exact ⟨j, l, rfl, rfl, k _ _ G3 H3 ⟨_, rfl, hr⟩ ok3 ((s1.trans s2).trans s3) (.s _)⟩
    | false =>
      rw [if_neg (by decide)]
      exact k _ _ G2 H2 ⟨false, rfl, h1 hg⟩ ok2 (s1.trans s2) (.s _))

/-! ### and, or, not, if -/
theorem et_val {R : Bool → Prop} (he : ∀ whole, isTrue e X.env whole = (do let v ← whole; standAt e.pos; holding [v] (truthy v))) (h : EV X E ω δ e fun d => ∃ b, d = .bl b ∧ R b) : ET X E ω δ e R := et_of (pt_val wE_pe he) (rt_b h)
theorem et_not {R : Bool → Prop} (h : ET X E ω δ a fun b => R (!b)) : ET X E ω δ (.UnaryOp .Not a pos) R := et_of (pt_not wT_pt) fun σ G H Q ok en k => h σ G H _ ok en fun b G1 H1 q ok1 s1 => k _ G1 H1 q ok1 s1
variable {rest : List Expr}
theorem ew_and1 {R : Bool → Prop} (h : ET X E ω δ a R) : EW X E ω δ (.BoolOp .And [a] pos) R := ew_of (pw_and1 wT_pt) h
theorem ew_or1 {R : Bool → Prop} (h : ET X E ω δ a R) : EW X E ω δ (.BoolOp .Or [a] pos) R := ew_of (pw_or1 wT_pt) h
theorem ew_and {R : Bool → Prop} (h : ET X E ω δ a fun p => (p = true → EW X E ω δ (.BoolOp .And (b :: rest) pos) R) ∧ (p = false → R false)) : EW X E ω δ (.BoolOp .And (a :: b :: rest) pos) R :=
  ew_of (pw_and wT_pt wW_pw) fun σ G H Q ok en k => h σ G H _ ok en fun p G1 H1 q ok1 s1 => by
    cases p with
    | true => rw [if_pos rfl]; exact q.1 rfl σ G1 H1 Q ok1 (en.mono s1) fun b2 G2 H2 q2 ok2 s2 => k b2 G2 H2 q2 ok2 (s1.trans s2)
    | false => rw [if_neg (by decide)]; exact k false G1 H1 (q.2 rfl) ok1 s1
theorem ew_or {R : Bool → Prop} (h : ET X E ω δ a fun p => (p = false → EW X E ω δ (.BoolOp .Or (b :: rest) pos) R) ∧ (p = true → R true)) : EW X E ω δ (.BoolOp .Or (a :: b :: rest) pos) R :=
  ew_of (pw_or wT_pt wW_pw) fun σ G H Q ok en k => h σ G H _ ok en fun p G1 H1 q ok1 s1 => by
    cases p with
    | false => rw [if_neg (by decide)]; exact q.1 rfl σ G1 H1 Q ok1 (en.mono s1) fun b2 G2 H2 q2 ok2 s2 => k b2 G2 H2 q2 ok2 (s1.trans s2)
    | true => rw [if_pos rfl]; exact k true G1 H1 (q.2 rfl) ok1 s1
theorem et_and {R : Bool → Prop} (h : EW X E ω δ (.BoolOp .And (a :: rest) pos) R) : ET X E ω δ (.BoolOp .And (a :: rest) pos) R := ew_et h
theorem et_or {R : Bool → Prop} (h : EW X E ω δ (.BoolOp .Or (a :: rest) pos) R) : ET X E ω δ (.BoolOp .Or (a :: rest) pos) R := ew_et h
theorem ev_one {op : BoolOp} (h : EV X E ω δ a R) : EV X E ω δ (.BoolOp op [a] pos) R := ev_of (pe_one wE_pe) h
theorem ev_and (h : EV X E ω δ a fun d => ∃ p, d = .bl p ∧ (p = true → EV X E ω δ (.BoolOp .And (b :: rest) pos) R) ∧ (p = false → R (.bl false))) : EV X E ω δ (.BoolOp .And (a :: b :: rest) pos) R :=
  ev_of (pe_and wE_pe wE_pe) fun σ G H Q ok en k => h σ G H _ ok en fun v d G1 H1 q ok1 s1 r1 => by
    obtain ⟨p, e, q1, q2⟩ := q
    subst e
    cases r1
    refine ⟨p, rfl, ?_⟩
    cases p with
    | true => rw [if_pos rfl]; exact q1 rfl σ G1 H1 Q ok1 (en.mono s1) fun v2 b2 G2 H2 q2 ok2 s2 => k v2 b2 G2 H2 q2 ok2 (s1.trans s2)
    | false => rw [if_neg (by decide)]; exact k _ _ G1 H1 (q2 rfl) ok1 s1 (.s _)
theorem ev_or (h : EV X E ω δ a fun d => ∃ p, d = .bl p ∧ (p = false → EV X E ω δ (.BoolOp .Or (b :: rest) pos) R) ∧ (p = true → R (.bl true))) : EV X E ω δ (.BoolOp .Or (a :: b :: rest) pos) R :=
  ev_of (pe_or wE_pe wE_pe) fun σ G H Q ok en k => h σ G H _ ok en fun v d G1 H1 q ok1 s1 r1 => by
    obtain ⟨p, e, q1, q2⟩ := q
    subst e
    cases r1
    refine ⟨p, rfl, ?_⟩
    cases p with
    | false => rw [if_neg (by decide)]; exact q1 rfl σ G1 H1 Q ok1 (en.mono s1) fun v2 b2 G2 H2 q2 ok2 s2 => k v2 b2 G2 H2 q2 ok2 (s1.trans s2)
    | true => rw [if_pos rfl]; exact k _ _ G1 H1 (q2 rfl) ok1 s1 (.s _)
theorem ev_not (h : EV X E ω δ a fun d => ∃ p, d = .bl p ∧ R (.bl (!p))) : EV X E ω δ (.UnaryOp .Not a pos) R := ev_of (pe_not wE_pe) fun σ G H Q ok en k => h σ G H _ ok en fun v d G1 H1 q ok1 s1 r1 => by
  obtain ⟨p, e, q⟩ := q
  subst e
  cases r1
  exact ⟨p, rfl, k _ _ G1 H1 q ok1 s1 (.s _)⟩
theorem ev_ifExp (h : ET X E ω δ c fun p => (p = true → EV X E ω δ a R) ∧ (p = false → EV X E ω δ b R)) : EV X E ω δ (.IfExp c a b pos) R := ev_of (pe_ifExp wT_pt wE_pe wE_pe) fun σ G H Q ok en k => h σ G H _ ok en fun p G1 H1 q ok1 s1 => by
  cases p with
  | true => rw [if_pos rfl]; exact q.1 rfl σ G1 H1 Q ok1 (en.mono s1) fun v2 b2 G2 H2 q2 ok2 s2 => k v2 b2 G2 H2 q2 ok2 (s1.trans s2)
  | false => rw [if_neg (by decide)]; exact q.2 rfl σ G1 H1 Q ok1 (en.mono s1) fun v2 b2 G2 H2 q2 ok2 s2 => k v2 b2 G2 H2 q2 ok2 (s1.trans s2)

/-! ### arguments, tuples, lists -/
theorem ea_nil {R : List D → Prop} (h : R []) : EA X E ω δ [] R := ea_of pa_nil fun σ G H Q ok en k => k [] [] G H h ok (Same.refl G) .nil
theorem ea_cons {es : List Expr} {R : List D → Prop} (h : EV X E ω δ e fun d => EA X E ω δ es fun ds => R (d :: ds)) (hs : starEach (e :: es) X.env = (false, eval e X.env) :: starEach es X.env := by rfl) : EA X E ω δ (e :: es) R :=
  ea_of (pa_cons wE_pe wA_pa hs) fun σ G H Q ok en k => h σ G H _ ok en fun v d G1 H1 q ok1 s1 r1 => q σ G1 H1 _ ok1 (en.mono s1) fun vs ds G2 H2 q2 ok2 s2 r2 => k (v :: vs) (d :: ds) G2 H2 q2 ok2 (s1.trans s2) (.cons (r1.mono s2) r2)
theorem ev_tup {es : List Expr} {j : Nat} (h : EA X E ω δ es fun ds => ds.length ≤ 100000 ∧ R (.tup ds)) : EV X E ω δ (.Tuple es j pos) R :=
  ev_of (pe_tup wA_pa) fun σ G H Q ok en k => h σ G H _ ok en fun vs ds G1 H1 q ok1 s1 r1 => by
    refine ⟨by rw [← r1.length]; exact Nat.le_trans q.1 (by decide), fun p hp => ?_⟩
    obtain ⟨ok2, s2⟩ := ok1.new (o := .tup vs) hp (fun ps z => nomatch z)
    exact k _ _ _ _ q.2 ok2 (s1.trans s2) (.tup (SqT.of upd_same) (r1.mono s2))
theorem ev_lst {es : List Expr} (h : EA X E ω δ es fun ds => ds.length ≤ 100000 ∧ R (.lst ds)) : EV X E ω δ (.List es pos) R :=
  ev_of (pe_lst wA_pa) fun σ G H Q ok en k => h σ G H _ ok en fun vs ds G1 H1 q ok1 s1 r1 => by
    refine ⟨by rw [← r1.length]; exact Nat.le_trans q.1 (by decide), fun p hp => ?_⟩
    obtain ⟨ok2, s2⟩ := ok1.new (o := .lst vs) hp (fun ps z => nomatch z)
    exact k _ _ _ _ q.2 ok2 (s1.trans s2) (.lst (SqL.of upd_same) (r1.mono s2))
/-- an item -/
theorem RepL.at {K : PySem.W.Frag} {G : Hp} {ds : List D} {vs : List V} {i : Int} {d : D} (r : RepL K G ds vs) (h : atI ds i = some d) : ∃ v, atI vs i = some v ∧ Rep K G d v := by
  unfold atI at h ⊢
  rw [← r.length]
  cases e : ixN ds.length i with
  | none => rw [e] at h; cases h
  | some j =>
    rw [e] at h
    exact r.get h
theorem ev_ixT (h : EV X E ω δ a fun x => EV X E ω δ b fun y => ∃ ds i d, x = .tup ds ∧ y = .int i ∧ atI ds i = some d ∧ R d) (hs : PlainIx b := by exact fun _ _ => rfl) : EV X E ω δ (.Subscript a b pos) R :=
  ev_of (pe_ix ix_tup wE_pe wE_pe hs) fun σ G H Q ok en k => h σ G H _ ok en fun v d G1 H1 q ok1 s1 r1 => q σ G1 H1 _ ok1 (en.mono s1) fun w d2 G2 H2 q2 ok2 s2 r2 => by
    obtain ⟨ds, i, d0, e1, e2, ha, hr⟩ := q2
    subst e1 e2
    cases r1 with
    | @tup p vs _ hq rl =>
      cases r2
      obtain ⟨v0, hv, r0⟩ := (rl.mono s2).at ha
      exact ⟨p, vs, i, v0, rfl, rfl, sqT_mono (ok2.gh) (sqT_mono s2 hq), hv, k _ _ G2 H2 hr ok2 (s1.trans s2) r0⟩
theorem ev_ixL (h : EV X E ω δ a fun x => EV X E ω δ b fun y => ∃ ds i d, x = .lst ds ∧ y = .int i ∧ atI ds i = some d ∧ R d) (hs : PlainIx b := by exact fun _ _ => rfl) : EV X E ω δ (.Subscript a b pos) R :=
  ev_of (pe_ix ix_list wE_pe wE_pe hs) fun σ G H Q ok en k => h σ G H _ ok en fun v d G1 H1 q ok1 s1 r1 => q σ G1 H1 _ ok1 (en.mono s1) fun w d2 G2 H2 q2 ok2 s2 r2 => by
    obtain ⟨ds, i, d0, e1, e2, ha, hr⟩ := q2
    subst e1 e2
    cases r1 with
    | @lst p vs _ hq rl =>
      cases r2
      obtain ⟨v0, hv, r0⟩ := (rl.mono s2).at ha
      exact ⟨p, vs, i, v0, rfl, rfl, ok2.gh.seq (s2.seq hq), hv, k _ _ G2 H2 hr ok2 (s1.trans s2) r0⟩
/-- a field -/
theorem ev_fld {f : Str} (h : EV X E ω δ a fun x => ∃ C fs d, x = .ins C fs ∧ Cls X.K C ∧ NoAttr X.K C f ∧ fs.lookup f = some d ∧ R d) (hb : attributeBase a f X.env (eval a X.env) = eval a X.env := by rfl) : EV X E ω δ (.Attribute a f pos) R :=
  ev_of (pe_fld wE_pe hb) fun σ G H Q ok en k => h σ G H _ ok en fun v d G1 H1 q ok1 s1 r1 => by
    obtain ⟨C, fs, d0, e1, hc, hn, hl, hr⟩ := q
    subst e1
    cases r1 with
    | @ins p _ dx gs _ hp rf =>
      obtain ⟨v0, hv, r0⟩ := rf.lookup hl
      exact ⟨p, C, dx, gs, v0, rfl, ok1.gh _ _ hp, hc, hn, hv, k _ _ G1 H1 hr ok1 s1 r0⟩

/-! ### built-ins -/
/-- the module's name is the built-in's -/
theorem ev_callB {Gs : List Str} {j : Nat} {x : Str} {id : String} {r : List V → Hp → VK → Prop} {es : List Expr} {p : Pos} (g : GlobOk Gs X.env.scope) (hj : Gs[j]? = some x) (hc : CallR X (.builtin id) r) (hm : X.mg x = none) (hv : bootBuiltins x = some (.builtin id))
    (hn : x ≠ "__name__") (h : EA X E ω δ (e :: es) fun ds => ∀ vs G H Q, SOk E ω G H → RepL X.K G ds vs → (∀ v d G' H', R d → SOk E ω G' H' → Same G G' → Rep X.K G' d v → Q v H') → r vs H Q)
    (he : starEach (e :: es) X.env = (false, eval e X.env) :: starEach es X.env := by rfl) (hpl : (backTo pos (starEach es X.env)).any (·.1) = false := by rfl) : EV X E ω δ (.Call (.Name x p) (e :: es) [] pos) R :=
  ev_of (pe_callB hc (g.g hj) hm hv wA_pa hn (g.gl j x hj).2 he hpl) fun σ G H Q ok en k => h σ G H _ ok en fun vs ds G1 H1 q ok1 s1 r1 => q vs G1 H1 Q ok1 r1 fun v d G2 H2 q2 ok2 s2 => k v d G2 H2 q2 ok2 (s1.trans s2)
theorem ev_callTy {Gs : List Str} {j : Nat} {x : Str} {id : String} {r : List V → Hp → VK → Prop} {es : List Expr} {p : Pos} (g : GlobOk Gs X.env.scope) (hj : Gs[j]? = some x) (hc : CallR X (.type id) r) (hm : X.mg x = none) (hv : bootBuiltins x = some (.type id))
    (hn : x ≠ "__name__") (h : EA X E ω δ (e :: es) fun ds => ∀ vs G H Q, SOk E ω G H → RepL X.K G ds vs → (∀ v d G' H', R d → SOk E ω G' H' → Same G G' → Rep X.K G' d v → Q v H') → r vs H Q)
    (he : starEach (e :: es) X.env = (false, eval e X.env) :: starEach es X.env := by rfl) (hpl : (backTo pos (starEach es X.env)).any (·.1) = false := by rfl) : EV X E ω δ (.Call (.Name x p) (e :: es) [] pos) R :=
  ev_of (pe_callTy hc (g.g hj) hm hv wA_pa hn (g.gl j x hj).2 he hpl) fun σ G H Q ok en k => h σ G H _ ok en fun vs ds G1 H1 q ok1 s1 r1 => q vs G1 H1 Q ok1 r1 fun v d G2 H2 q2 ok2 s2 => k v d G2 H2 q2 ok2 (s1.trans s2)
end
end DL

set_option Elab.async false
set_option linter.all false
set_option maxRecDepth 100000
set_option maxHeartbeats 2000000
/-! Calls of the program's own defs, methods, classes. -/
namespace DL
open PySem L2

abbrev SpecD := List D → (D → Prop) → Prop
def ent (G H : Hp) (ω : List Cell) (T : List (Addr × Str)) : Ent := ⟨G, H, fun p => (∃ c ∈ ω, c.a = p) ∨ ∃ t ∈ T, t.1 = p, T⟩
/-- the promise: from data ds that spec takes it gives data that spec tells; cells: what it may change -/
def spG (K : PySem.W.Frag) (T : List (Addr × Str)) (cells : List D → List Cell) (spec : SpecD) : Sp := fun vs H Q _ =>
  ∃ (G : Hp) (ds : List D) (R : D → Prop), SOk (ent G H (cells ds) T) (cells ds) G H ∧ RepL K G ds vs ∧ spec ds R ∧ ∀ v d G' H', R d → Same G G' → SOk (ent G H (cells ds) T) (cells ds) G' H' → Rep K G' d v → Q v H'
abbrev noC : List D → List Cell := fun _ => []
abbrev spP (K : PySem.W.Frag) (spec : SpecD) : Sp := spG K [] noC spec

theorem nodup_map_inj {α β : Type} {f : α → β} : ∀ {l : List α}, (l.map f).Nodup → ∀ {x y : α}, x ∈ l → y ∈ l → f x = f y → x = y
  | a :: l, h, x, y, hx, hy, e => by
    rw [List.map_cons, List.nodup_cons] at h
    rcases List.mem_cons.mp hx with hx | hx
    · rcases List.mem_cons.mp hy with hy | hy
      · rw [hx, hy]
      · exact absurd (List.mem_map.mpr ⟨y, hy, by rw [← e, hx]⟩) h.1
    · rcases List.mem_cons.mp hy with hy | hy
      · exact absurd (List.mem_map.mpr ⟨x, hx, by rw [e, hy]⟩) h.1
      · exact nodup_map_inj h.2 hx hy e
section
variable {E : Ent} {ω ωc : List Cell} {G H G' H' : Hp} {T : List (Addr × Str)}
theorem SOk.enter (k : SOk E ω G H) (hs : ωc.Sublist ω) (hT : T = [] ∨ T = E.T) : SOk (ent G H ωc T) ωc G H := by
  have k' := k.drop hs
  refine ⟨k.gh, k.nt, k'.nd, k'.cs, fun c hc => .inl (.inl ⟨c, hc, rfl⟩), ?_, fun t ht => .inr ⟨t, ht, rfl⟩, fun p o e => .inl e, fun p o _ _ e => e, fun p e => .inr (.inl e)⟩
  rcases hT with e | e
  · subst e
    exact fun p hp => nomatch hp
  · subst e
    exact k.tb
theorem SOk.back (k : SOk E ω G H) (hs : ωc.Sublist ω) (hT : T = [] ∨ T = E.T) (s : Same G G') (k2 : SOk (ent G H ωc T) ωc G' H') : SOk E ω G' H' := by
  have tabNe : ∀ t ∈ T, ∀ c ∈ ω, t.1 ≠ c.a := fun t ht c hc z => by
    rcases hT with e | e
    · subst e; cases ht
    · subst e
      obtain ⟨ps, h1, _⟩ := k.tb t ht
      obtain ⟨_, o, h2, q⟩ := k.cs c hc
      rw [z, h2] at h1
      exact Cell.ntbl q ps (Option.some.inj h1)
  have notM : ∀ c ∈ ω, c ∉ ωc → ¬ (ent G H ωc T).M0 c.a := fun c hc hn z => by
    rcases z with ⟨c', hc', ea⟩ | ⟨t, ht, ea⟩
    · have : c' = c := by
        have hc2 := hs.mem hc'
        exact nodup_map_inj k.nd hc2 hc ea
      exact hn (this ▸ hc')
    · exact tabNe t ht c hc ea
  have keep : ∀ c ∈ ω, c ∉ ωc → ∀ o, H c.a = some o → H' c.a = some o := fun c hc hn o e => by
    obtain ⟨_, o2, e2, q⟩ := k.cs c hc
    rw [e] at e2
    cases e2
    exact k2.kp _ _ (notM c hc hn) (fun _ => Cell.ntbl q) e
  have mE : ∀ p, (ent G H ωc T).M0 p → E.Fr p := fun p z => by
    rcases z with ⟨c', hc', ea⟩ | ⟨t, ht, ea⟩
    · rw [← ea]; exact k.cf c' (hs.mem hc')
    · rcases hT with e | e
      · subst e; cases ht
      · subst e; rw [← ea]; exact .inl (k.tm t ht)
  have frE : ∀ p, (ent G H ωc T).Fr p → E.Fr p := fun p z => by
    rcases z with z | z | ⟨hn, ps, z⟩
    · exact mE p z
    · exact k.al p z
    · have z : H p = some (.tbl ps) := z
      have eT : T = E.T := hT.resolve_left hn
      by_cases hm : E.M0 p
      · exact .inl hm
      · cases h0 : E.H0 p with
        | none => exact .inr (.inl h0)
        | some o =>
          by_cases ht : ∃ ps', o = .tbl ps'
          · obtain ⟨ps', rfl⟩ := ht
            exact .inr (.inr ⟨by rw [← eT]; exact hn, ps', h0⟩)
          · have := k.kp p o hm (fun _ ps' e => ht ⟨ps', e⟩) h0
            rw [z] at this
            cases this
            exact absurd ⟨ps, rfl⟩ ht
  refine ⟨k2.gh, k2.nt, k.nd, fun c hc => ?_, k.cf, ?_, k.tm, fun p o e => ?_, fun p o hm hn e => ?_, fun p e => frE p (k2.al p e)⟩
  · by_cases hn : c ∈ ωc
    · exact k2.cs c hn
    · obtain ⟨g, o, e, q⟩ := k.cs c hc
      refine ⟨?_, o, keep c hc hn o e, c.mono s q⟩
      cases q2 : G' c.a with
      | none => rfl
      | some u =>
        rcases k2.fr c.a u q2 with z | z | z | ⟨_, ps, z⟩
        · rw [show G c.a = _ from z] at g; cases g
        · exact absurd z (notM c hc hn)
        · rw [show H c.a = _ from z] at e; cases e
        · rw [show H c.a = _ from z] at e; exact absurd (Option.some.inj e).symm (Cell.ntbl q ps)
  · rcases hT with e | e
    · subst e
      refine fun t ht => ?_
      have pre : ∀ p o, H p = some o → (¬ ∃ c ∈ ωc, c.a = p) → H' p = some o := fun p o e1 e2 => k2.kp p o (fun z => by
        rcases z with z | ⟨t, ht, _⟩
        · exact e2 z
        · cases ht) (fun z => absurd rfl z) e1
      obtain ⟨ps, h1, h2, h3⟩ := k.tb t ht
      refine ⟨ps, pre _ _ h1 (fun ⟨c, hc, ea⟩ => ?_), h2, fun pos cv hc => ?_⟩
      · obtain ⟨_, o, e1, q⟩ := k.cs c (hs.mem hc)
        rw [ea, h1] at e1
        exact Cell.ntbl q ps (Option.some.inj e1).symm
      · obtain ⟨c', e1, e2⟩ := h3 pos cv hc
        refine ⟨c', e1, pre _ _ e2 fun ⟨c, hc, ea⟩ => ?_⟩
        obtain ⟨_, o, e3, q⟩ := k.cs c (hs.mem hc)
        rw [ea, e2] at e3
        exact Cell.ncode q _ _ (Option.some.inj e3).symm
    · subst e
      exact k2.tb
  · rcases k2.fr p o e with z | z
    · exact k.fr p o z
    · exact .inr (frE p z)
  · refine k2.kp p o (fun z => ?_) (fun hT0 => hn (by rw [← hT.resolve_left hT0]; exact hT0)) (k.kp p o hm hn e)
    rcases mE p z with w | w | ⟨w1, ps, w⟩
    · exact hm w
    · rw [w] at e; cases e
    · rw [w] at e; cases e; exact hn w1 ps rfl
end

/-- a def of the module that keeps a promise -/
structure Kn (P : Program) (w : World) (K : PySem.W.Frag) (mg : Str → Option Value) (base : Heap) (CX : CXT) (x : Str) (k : Nat) (sp : Sp) : Prop where
  ex : ∃ (f : Addr) (fd : FuncData) (ps : List Str), mg x = some (.ref f) ∧ PySem.W.keepIn K (.ref f) = true ∧ Binds K fd ps [] ∧ FnOk P w K mg base CX k f fd ps sp
section
variable {X : Cx} {E : Ent} {ω : List Cell} {δ : DE} {R : D → Prop} {a b c e : Expr} {pos : Pos}
theorem Kn.mono {P : Program} {w : World} {K : PySem.W.Frag} {mg : Str → Option Value} {base : Heap} {CX : CXT} {x : Str} {j k : Nat} {sp : Sp} (F : Kn P w K mg base CX x j sp) (h : j ≤ k) : Kn P w K mg base CX x k sp := by
  obtain ⟨f, fd, ps, h1, h2, h3, h4⟩ := F.ex
  exact ⟨f, fd, ps, h1, h2, h3, h4.mono h⟩
theorem ra_call {T : List (Addr × Str)} {cells : List D → List Cell} {spec : SpecD} {Ex : XK} {es : List Expr} (h : EA X E ω δ es fun ds => (cells ds).Sublist ω ∧ (T = [] ∨ T = E.T) ∧ spec ds R) : RE X.K E ω δ (tCall (spG X.K T cells spec) [] Ex (wA X es)) R :=
  fun σ G H Q ok en k => h σ G H _ ok en fun vs ds G1 H1 q ok1 s1 r1 => by
    obtain ⟨hs, hT, hsp⟩ := q
    rw [List.append_nil]
    exact ⟨G1, ds, R, ok1.enter hs hT, r1, hsp, fun v d G2 H2 hr s2 k2 r2 => k v d G2 H2 hr (ok1.back hs hT s2 k2) (s1.trans s2) r2⟩
theorem ev_callW {Gs : List Str} {j : Nat} {x : Str} {k0 : Nat} {T : List (Addr × Str)} {cells : List D → List Cell} {spec : SpecD} {es : List Expr} {p : Pos} (F : Kn X.prog X.w X.K X.mg X.base CX0 x k0 (spG X.K T cells spec)) (hr : Room k0 X.A) (g : GlobOk Gs X.env.scope) (hj : Gs[j]? = some x)
    (h : EA X E ω δ (e :: es) fun ds => (cells ds).Sublist ω ∧ (T = [] ∨ T = E.T) ∧ spec ds R)
    (he : starEach (e :: es) X.env = (false, eval e X.env) :: starEach es X.env := by rfl) (hpl : (backTo pos (starEach es X.env)).any (·.1) = false := by rfl) : EV X E ω δ (.Call (.Name x p) (e :: es) [] pos) R := by
  obtain ⟨f, fd, ps, h1, h2, h3, h4⟩ := F.ex
  exact ev_of (pe_call (E := E0) h4 hr (g.g hj) h1 h2 h3 .nil pass0 wA_pa (g.gl j x hj).2 he hpl) (ra_call h)
theorem ev_call {Gs : List Str} {j : Nat} {x : Str} {k0 : Nat} {spec : SpecD} {es : List Expr} {p : Pos} (F : Kn X.prog X.w X.K X.mg X.base CX0 x k0 (spP X.K spec)) (hr : Room k0 X.A) (g : GlobOk Gs X.env.scope) (hj : Gs[j]? = some x)
    (h : EA X E ω δ (e :: es) fun ds => spec ds R)
    (he : starEach (e :: es) X.env = (false, eval e X.env) :: starEach es X.env := by rfl) (hpl : (backTo pos (starEach es X.env)).any (·.1) = false := by rfl) : EV X E ω δ (.Call (.Name x p) (e :: es) [] pos) R :=
  ev_callW F hr g hj (fun σ G H Q ok en k => h σ G H Q ok en fun vs ds G' H' q => k vs ds G' H' ⟨List.nil_sublist _, .inl rfl, q⟩) he hpl
end

/-! ### blocks -/
structure Outs where
  nx : List Cell → DE → Prop
  rt : List Cell → D → Prop
  bk : List Cell → DE → Prop := fun _ _ => False
  ct : List Cell → DE → Prop := fun _ _ => False
def wS (X : Cx) (st : Stmt) : TS := fun D σ H => ∀ (pins : List (Addr × Obj)) (s : Shared), Inv X pins σ H s → wpAny (model X.prog X.w) X.A (exec st X.env) (SP X pins D) X.xe s
theorem wS_ps {X : Cx} {st : Stmt} : PS X st (wS X st) := ⟨fun pins s _ _ _ I h => h pins s I⟩
def wSs (X : Cx) (st : List Stmt) : TS := fun D σ H => ∀ (pins : List (Addr × Obj)) (s : Shared), Inv X pins σ H s → wpAny (model X.prog X.w) X.A (execs st X.env) (SP X pins D) X.xe s
theorem wSs_ps {X : Cx} {st : List Stmt} : PSs X st (wSs X st) := ⟨fun pins s _ _ _ I h => h pins s I⟩
/-- what holds where a block is left -/
def Nx (K : PySem.W.Frag) (E : Ent) (G : Hp) (P : List Cell → DE → Prop) (Q : St → Hp → Prop) : Prop := ∀ ω δ σ G' H', P ω δ → SOk E ω G' H' → Same G G' → EnvR K G' δ σ → Q σ H'
def Rt (K : PySem.W.Frag) (E : Ent) (G : Hp) (P : List Cell → D → Prop) (Q : VK) : Prop := ∀ ω d v G' H', P ω d → SOk E ω G' H' → Same G G' → Rep K G' d v → Q v H'
structure Ok (K : PySem.W.Frag) (E : Ent) (G : Hp) (Φ : Outs) (D : Ends) : Prop where
  nx : Nx K E G Φ.nx D.nx
  rt : Rt K E G Φ.rt D.rt
  bk : Nx K E G Φ.bk D.bk
  ct : Nx K E G Φ.ct D.ct
theorem Nx.mono {K : PySem.W.Frag} {E : Ent} {G G' : Hp} {P : List Cell → DE → Prop} {Q : St → Hp → Prop} (h : Nx K E G P Q) (s : Same G G') : Nx K E G' P Q := fun ω δ σ G2 H2 p ok s2 en => h ω δ σ G2 H2 p ok (s.trans s2) en
theorem Rt.mono {K : PySem.W.Frag} {E : Ent} {G G' : Hp} {P : List Cell → D → Prop} {Q : VK} (h : Rt K E G P Q) (s : Same G G') : Rt K E G' P Q := fun ω d v G2 H2 p ok s2 en => h ω d v G2 H2 p ok (s.trans s2) en
theorem Ok.mono {K : PySem.W.Frag} {E : Ent} {G G' : Hp} {Φ : Outs} {D : Ends} (h : Ok K E G Φ D) (s : Same G G') : Ok K E G' Φ D := ⟨h.nx.mono s, h.rt.mono s, h.bk.mono s, h.ct.mono s⟩
def RS (K : PySem.W.Frag) (E : Ent) (ω : List Cell) (δ : DE) (t : TS) (Φ : Outs) : Prop :=
  ∀ (σ : St) (G H : Hp) (D : Ends), SOk E ω G H → EnvR K G δ σ → Ok K E G Φ D → t D σ H
def SV (X : Cx) (E : Ent) (ω : List Cell) (δ : DE) (st : Stmt) (Φ : Outs) : Prop := RS X.K E ω δ (wS X st) Φ
def BV (X : Cx) (E : Ent) (ω : List Cell) (δ : DE) (st : List Stmt) (Φ : Outs) : Prop := RS X.K E ω δ (wSs X st) Φ
section
variable {X : Cx} {E : Ent} {ω : List Cell} {δ : DE} {Φ : Outs} {a b c e : Expr} {pos : Pos} {st : Stmt} {rest : List Stmt}
theorem sv_of {t : TS} (p : PS X st t) (r : RS X.K E ω δ t Φ) : SV X E ω δ st Φ := fun σ G H D ok en k pins s I => p.run pins s σ H D I (r σ G H D ok en k)
theorem bv_of {st : List Stmt} {t : TS} (p : PSs X st t) (r : RS X.K E ω δ t Φ) : BV X E ω δ st Φ := fun σ G H D ok en k pins s I => p.run pins s σ H D I (r σ G H D ok en k)
theorem bv_nil (h : Φ.nx ω δ) : BV X E ω δ [] Φ := bv_of pss_nil fun σ G H D ok en k => k.nx ω δ σ G H h ok (Same.refl G) en
theorem bv_cons (h : SV X E ω δ st { Φ with nx := fun ω' δ' => BV X E ω' δ' rest Φ }) : BV X E ω δ (st :: rest) Φ :=
  bv_of (pss_cons wS_ps wSs_ps) fun σ G H D ok en k => h σ G H { D with nx := wSs X rest D } ok en ⟨fun ω' δ' σ' G' H' p ok' s' en' => p σ' G' H' D ok' en' (k.mono s'), k.rt, k.bk, k.ct⟩
/-- the same by what holds behind the first statement -/
theorem bv_cut (M : List Cell → DE → Prop) (h : SV X E ω δ st { Φ with nx := M }) (h2 : ∀ ω' δ', M ω' δ' → BV X E ω' δ' rest Φ) : BV X E ω δ (st :: rest) Φ :=
  bv_of (pss_cons wS_ps wSs_ps) fun σ G H D ok en k => h σ G H { D with nx := wSs X rest D } ok en ⟨fun ω' δ' σ' G' H' p ok' s' en' => h2 ω' δ' p σ' G' H' D ok' en' (k.mono s'), k.rt, k.bk, k.ct⟩
theorem SV.imp {Φ' : Outs} (h : SV X E ω δ st Φ) (i1 : ∀ ω δ, Φ.nx ω δ → Φ'.nx ω δ) (i2 : ∀ ω d, Φ.rt ω d → Φ'.rt ω d) (i3 : ∀ ω δ, Φ.bk ω δ → Φ'.bk ω δ) (i4 : ∀ ω δ, Φ.ct ω δ → Φ'.ct ω δ) : SV X E ω δ st Φ' :=
  fun σ G H D ok en k => h σ G H D ok en ⟨fun ω δ σ G H p => k.nx ω δ σ G H (i1 ω δ p), fun ω d v G H p => k.rt ω d v G H (i2 ω d p), fun ω δ σ G H p => k.bk ω δ σ G H (i3 ω δ p), fun ω δ σ G H p => k.ct ω δ σ G H (i4 ω δ p)⟩
theorem BV.imp {st : List Stmt} {Φ' : Outs} (h : BV X E ω δ st Φ) (i1 : ∀ ω δ, Φ.nx ω δ → Φ'.nx ω δ) (i2 : ∀ ω d, Φ.rt ω d → Φ'.rt ω d) (i3 : ∀ ω δ, Φ.bk ω δ → Φ'.bk ω δ) (i4 : ∀ ω δ, Φ.ct ω δ → Φ'.ct ω δ) : BV X E ω δ st Φ' :=
  fun σ G H D ok en k => h σ G H D ok en ⟨fun ω δ σ G H p => k.nx ω δ σ G H (i1 ω δ p), fun ω d v G H p => k.rt ω d v G H (i2 ω d p), fun ω δ σ G H p => k.bk ω δ σ G H (i3 ω δ p), fun ω δ σ G H p => k.ct ω δ σ G H (i4 ω δ p)⟩
/-- forgetting names -/
theorem BV.forget {st : List Stmt} {δ' : DE} (h : BV X E ω δ' st Φ) (l : δ'.length = δ.length) (w : ∀ (i : Nat) d, δ'[i]? = some (some d) → δ[i]? = some (some d)) : BV X E ω δ st Φ := fun σ G H D ok en k => h σ G H D ok (en.forget l w) k

/-! ### statements -/
structure LocOk (nv : Nat) (N : List Str) (sc : Scope) : Prop where
  nd : N.Nodup
  loc : ∀ (i : Nat) (x : Str), Nat.blt i nv = true → N[i]? = some x → Loc sc x
theorem sv_asg {nv : Nat} {i : Nat} {x : Str} {pos' : Pos} (lo : LocOk nv X.N X.env.scope) (hv : Nat.blt i nv = true) (hi : X.N[i]? = some x) (h : EV X E ω δ e fun d => Φ.nx ω (δ.set i (some d)))
    (hs : swapsWith e (some (.Name x pos')) pos.line X.env = pure false := by rfl) (hf : X.fn x = true ∨ X.env.scope.names.lookup x = some .local := by exact .inl rfl) : SV X E ω δ (.Assign [.Name x pos'] e pos) Φ :=
  sv_of (ps_set lo.nd hi (lo.loc i x hv hi) wE_pe hs hf) fun σ G H D ok en k => h σ G H _ ok en fun v d G1 H1 q ok1 s1 r1 => k.nx ω _ _ G1 H1 q ok1 s1 ((en.mono s1).set r1)
theorem sv_ret (h : EV X E ω δ e fun d => Φ.rt ω d) : SV X E ω δ (.Return (some e) pos) Φ := sv_of (ps_ret wE_pe) fun σ G H D ok en k => h σ G H _ ok en fun v d G1 H1 q ok1 s1 r1 => k.rt ω d v G1 H1 q ok1 s1 r1
theorem sv_retN (h : Φ.rt ω .non) : SV X E ω δ (.Return none pos) Φ := sv_of ps_retN fun σ G H D ok en k => k.rt ω _ _ G H h ok (Same.refl G) (.s _)
theorem sv_pass (h : Φ.nx ω δ) : SV X E ω δ (.Pass pos) Φ := sv_of ps_pass fun σ G H D ok en k => k.nx ω δ σ G H h ok (Same.refl G) en
theorem sv_break (h : Φ.bk ω δ) : SV X E ω δ (.Break pos) Φ := sv_of ps_break fun σ G H D ok en k => k.bk ω δ σ G H h ok (Same.refl G) en
theorem sv_cont (h : Φ.ct ω δ) : SV X E ω δ (.Continue pos) Φ := sv_of ps_continue fun σ G H D ok en k => k.ct ω δ σ G H h ok (Same.refl G) en
theorem sv_expr (h : EV X E ω δ e fun _ => Φ.nx ω δ) (hs : swapsWith e none pos.line X.env = pure false := by rfl) : SV X E ω δ (.Expr e pos) Φ := sv_of (ps_expr wE_pe hs) fun σ G H D ok en k => h σ G H _ ok en fun v d G1 H1 q ok1 s1 r1 => k.nx ω δ σ G1 H1 q ok1 s1 (en.mono s1)
theorem sv_if {st1 st2 : List Stmt} (h : ET X E ω δ c fun p => (p = true → BV X E ω δ st1 Φ) ∧ (p = false → BV X E ω δ st2 Φ)) : SV X E ω δ (.If c st1 st2 pos) Φ :=
  sv_of (ps_if wT_pt wSs_ps wSs_ps) fun σ G H D ok en k => h σ G H _ ok en fun p G1 H1 q ok1 s1 => by
    cases p with
    | true => rw [if_pos rfl]; exact q.1 rfl σ G1 H1 D ok1 (en.mono s1) (k.mono s1)
    | false => rw [if_neg (by decide)]; exact q.2 rfl σ G1 H1 D ok1 (en.mono s1) (k.mono s1)
/-- x += e of ints -/
theorem sv_augI {op : Operator} {f : Int → Int → Int} (ho : PIp X op (ipI f)) {i : Nat} {x : Str} {pos' : Pos} {n : Int} {nv : Nat} (lo : LocOk nv X.N X.env.scope) (hv : Nat.blt i nv = true) (hi : X.N[i]? = some x) (hx : δ[i]? = some (some (.int n))) (h : EV X E ω δ e fun d => ∃ m, d = .int m ∧ Φ.nx ω (δ.set i (some (.int (f n m)))))
    (hf : X.fn x = true ∨ X.env.scope.names.lookup x = some .local := by exact .inl rfl) : SV X E ω δ (.AugAssign (.Name x pos') op e pos) Φ :=
  sv_of (ps_aug lo.nd hi (lo.loc i x hv hi) wE_pe ho hf) fun σ G H D ok en k => by
    obtain ⟨v, hv, rv⟩ := en.2 i _ hx
    cases rv
    refine ⟨_, hv, h σ G H _ ok en fun v d G1 H1 q ok1 s1 r1 => ?_⟩
    obtain ⟨m, e1, q⟩ := q
    subst e1
    cases r1
    exact ⟨n, m, rfl, rfl, k.nx ω _ _ G1 H1 q ok1 s1 ((en.mono s1).set (.s _))⟩
/-! ### targets -/
def setAll (δ : DE) : List Nat → List D → DE
  | i :: is, d :: ds => setAll (δ.set i (some d)) is ds
  | _, _ => δ
/-- names as targets -/
inductive NamesAt (nv : Nat) (N : List Str) : List Expr → List Nat → Prop
  | nil : NamesAt nv N [] []
  | cons {x : Str} {p : Pos} {i : Nat} {es : List Expr} {is : List Nat} (hv : Nat.blt i nv = true) (h : N[i]? = some x) (r : NamesAt nv N es is) : NamesAt nv N (.Name x p :: es) (i :: is)
def gNames : List Nat → TGs
  | [] => gNil
  | i :: is => gCons (gName i) (gNames is)
theorem pgs_names {nv : Nat} (lo : LocOk nv X.N X.env.scope) (hf : ∀ x, X.fn x = true) : ∀ {es : List Expr} {is : List Nat}, NamesAt nv X.N es is → PGs X es (gNames is)
  | _, _, .nil => pgs_nil
  | _, _, .cons hv h r => pgs_cons (pg_name lo.nd h (lo.loc _ _ hv h) (.inl (hf _))) (pgs_names lo hf r)
theorem gNames_run {K : PySem.W.Frag} {G H : Hp} {Q : St → Hp → Prop} : ∀ {is : List Nat} {ds : List D} {vs : List V} {δ : DE} {σ : St}, is.length = ds.length → RepL K G ds vs → EnvR K G δ σ → (∀ σ', EnvR K G (setAll δ is ds) σ' → Q σ' H) → gNames is vs σ H Q
  | [], [], _, δ, σ, _, .nil, en, q => ⟨rfl, q σ en⟩
  | i :: is, d :: ds, _, δ, σ, l, .cons (v := v) (vs := vs) h r, en, q => ⟨v, vs, rfl, gNames_run (by simpa using l) r (en.set h) q⟩
theorem sv_unpack {nv : Nat} {es : List Expr} {is : List Nat} {j : Nat} {pt : Pos} (lo : LocOk nv X.N X.env.scope) (hf : ∀ x, X.fn x = true) (hc : X.calm = true) (hn : NamesAt nv X.N es is) (h : EV X E ω δ e fun d => ∃ ds, d = .tup ds ∧ ds.length = is.length ∧ Φ.nx ω (setAll δ is ds))
    (ht : PG X (.Tuple es j pt) (gTup X.K is.length (gNames is)))
    (hs : swapsWithSole [.Tuple es j pt] e pos.line X.env = pure false := by rfl) (hw : swappedStores [.Tuple es j pt] e X.env = pure none := by rfl)
    (h1 : (assignEach [.Tuple es j pt] X.env).map (·.2) = [assign (.Tuple es j pt) X.env] := by rfl) : SV X E ω δ (.Assign [.Tuple es j pt] e pos) Φ :=
  sv_of (ps_asg wE_pe ht hs hw h1) fun σ G H D ok en k => h σ G H _ ok en fun v d G1 H1 q ok1 s1 r1 => by
    obtain ⟨ds, e1, l, q⟩ := q
    subst e1
    cases r1 with
    | @tup p vs _ hq rl => exact ⟨p, vs, rfl, sqT_mono ok1.gh hq, rl.length.symm.trans l, gNames_run l.symm rl (en.mono s1) fun σ' en' => k.nx ω _ σ' G1 H1 q ok1 s1 en'⟩
end
end DL

set_option Elab.async false
set_option linter.all false
set_option maxRecDepth 100000
set_option maxHeartbeats 2000000
/-! Built-ins, loops, the rule for a def. -/
namespace DL
open PySem L2 PyProof.Rows

/-! ### a def by its body -/
def zipN (N : List Str) (ds : List D) : DE := ds.map some ++ List.replicate (N.length - ds.length) none
section
variable {P : Program} {w : World} {K : PySem.W.Frag} {mg : Str → Option Value} {base : Heap} {x qual : Str} {params : Arguments} {body : List Stmt} {scope : Scope} {dvs : List V} {kws : List (Str × V)} {f : Addr} {fd : FuncData}
abbrev cx0 (P : Program) (w : World) (K : PySem.W.Frag) (mg : Str → Option Value) (base : Heap) (N : List Str) (qual : Str) (scope : Scope) (f : Addr) (cdv : Value) (A : Around) (outer : List Env) (s : Shared) (H : Hp) (E : XK) : Cx := (cxOf CX0 P w K mg base N qual scope f cdv A outer s H E).nox
theorem fn_okW {N ps : List Str} {k : Nat} {T : List (Addr × Str)} {cells : List D → List Cell} {spec : SpecD} (F : FunD K x qual params body scope dvs kws f fd) (S : FnScope N ps scope) (len : ∀ ds R, spec ds R → ds.length = ps.length)
    (hb : ∀ (cdv : Value) (A : Around) (outer : List Env) (s : Shared) (H : Hp) (E : XK) (G : Hp) (ds : List D) (R : D → Prop), Room k (A.deeper (envOfC qual scope s.heap.objs.size f cdv)) → spec ds R →
      BV (cx0 P w K mg base N qual scope f cdv A outer s H E) (ent G H (cells ds) T) (cells ds) (zipN N ds) body { nx := fun ω _ => (cells ds).Sublist ω ∧ R .non, rt := fun ω d => (cells ds).Sublist ω ∧ R d }) :
    FnOk P w K mg base CX0 (k + 1) f fd ps (spG K T cells spec) := by
  have hpl : ps.length ≤ N.length := by have := congrArg List.length S.pre; rw [List.length_take] at this; omega
  refine F.ok S (fun vs H Q E h => ?_) (fun cdv A outer s H vs Q E hr h => ?_)
  · obtain ⟨G, ds, R, _, r, hs, _⟩ := h
    rw [← r.length]
    exact len ds R hs
  · obtain ⟨G, ds, R, ok, r, hs, k⟩ := h
    refine ⟨_, PSs.nox (wSs_ps (X := cx0 P w K mg base N qual scope f cdv A outer s H E)), ?_⟩
    have hl := len ds R hs
    refine hb cdv A outer s H E G ds R hr hs _ G H _ ok (EnvR.start r (by rw [hl]; exact hpl)) ⟨fun ω δ σ G' H' p ok' s' _ => ?_, fun ω d v G' H' p ok' s' r' => ?_, fun _ _ _ _ _ p => p.elim, fun _ _ _ _ _ p => p.elim⟩
    · exact k .non .non G' H' p.2 s' (ok'.drop p.1) (.s _)
    · exact k v d G' H' p.2 s' (ok'.drop p.1) r'
theorem fn_ok {N ps : List Str} {k : Nat} {spec : SpecD} (F : FunD K x qual params body scope dvs kws f fd) (S : FnScope N ps scope) (len : ∀ ds R, spec ds R → ds.length = ps.length)
    (hb : ∀ (cdv : Value) (A : Around) (outer : List Env) (s : Shared) (H : Hp) (E : XK) (G : Hp) (ds : List D) (R : D → Prop), Room k (A.deeper (envOfC qual scope s.heap.objs.size f cdv)) → spec ds R →
      BV (cx0 P w K mg base N qual scope f cdv A outer s H E) (ent G H [] []) [] (zipN N ds) body { nx := fun _ _ => R .non, rt := fun _ d => R d }) :
    FnOk P w K mg base CX0 (k + 1) f fd ps (spP K spec) :=
  fn_okW (cells := noC) F S len fun cdv A outer s H E G ds R hr hs => (hb cdv A outer s H E G ds R hr hs).imp (fun ω _ q => ⟨List.nil_sublist _, q⟩) (fun ω _ q => ⟨List.nil_sublist _, q⟩) (fun _ _ q => q) (fun _ _ q => q)
end

/-! ### the scope of a def, looked at once -/
structure ScF (nv : Nat) (N ps Gs : List Str) (sc : Scope) : Prop where
  fs : FnScope N ps sc
  nm : NamesOk nv N sc
  gl : GlobOk Gs sc
  lo : LocOk nv N sc
def visB (sc : Scope) (x : Str) : Bool := (match sc.names.lookup x with | some .local => true | some .cell => true | _ => false) && !(x == ("__debug__" : Str)) && !(x == ("__classdict__" : Str))
def scB (nv : Nat) (N ps Gs : List Str) (sc : Scope) : Bool :=
  (match sc.kind with | .function => true | _ => false) && !sc.isCoroutine && !sc.isGenerator && decide N.Nodup && decide (N.take ps.length = ps) && Nat.ble ps.length nv &&
  (sc.names.all fun y => match y.2 with | .free => false | _ => true) && ((N.take nv).all fun x => visB sc x) && (Gs.all fun x => (match sc.names.lookup x with | some .globalImplicit => true | _ => false) && !(x == ("__debug__" : Str)))
theorem ScF.of {nv : Nat} {N ps Gs : List Str} {sc : Scope} (h : scB nv N ps Gs sc = true) : ScF nv N ps Gs sc := by
  unfold scB at h
  simp only [Bool.and_eq_true, List.all_eq_true, decide_eq_true_eq, Bool.not_eq_true'] at h
  obtain ⟨⟨⟨⟨⟨⟨⟨⟨h1, h2⟩, h3⟩, h4⟩, h5⟩, h9⟩, h6⟩, h7⟩, h8⟩ := h
  have h9 := Nat.ble_eq.mp h9
  have hi : ∀ (i : Nat) (x : Str), Nat.blt i nv = true → N[i]? = some x → x ∈ N.take nv := fun i x hv h => List.mem_of_getElem? (i := i) (by rw [List.getElem?_take_of_lt (Nat.blt_eq.mp hv)]; exact h)
  have hl : ∀ x ∈ N.take nv, (sc.names.lookup x = some .local ∨ sc.names.lookup x = some .cell) ∧ (x == ("__debug__" : Str)) = false ∧ (x == ("__classdict__" : Str)) = false := fun x hx => by
    have q := h7 x hx
    unfold visB at q
    simp only [Bool.and_eq_true, Bool.not_eq_true'] at q
    refine ⟨?_, q.1.2, q.2⟩
    have q1 := q.1.1
    split at q1 <;> first | exact .inl (by assumption) | exact .inr (by assumption) | cases q1
  have hp : ∀ x ∈ ps, x ∈ N.take nv := fun x hx => by
    rw [← h5] at hx
    have e : N.take ps.length = (N.take nv).take ps.length := by rw [List.take_take, Nat.min_eq_left h9]
    rw [e] at hx
    exact List.mem_of_mem_take hx
  refine ⟨⟨?_, h2, h3, h4, h5, fun x hx => (hl x (hp x hx)).1, fun y hy e => ?_⟩, ⟨fun i x hv h => ?_⟩, ⟨fun j x hj => ?_⟩, ⟨h4, fun i x hv h => (hl x (hi i x hv h)).1⟩⟩
  · split at h1 <;> first | assumption | cases h1
  · have q := h6 y hy
    rw [e] at q
    cases q
  · obtain ⟨a, b, c⟩ := hl x (hi i x hv h)
    exact ⟨a.elim (fun z => .inl z) (fun z => .inr (.inl z)), b, c⟩
  · have q := h8 x (List.mem_of_getElem? hj)
    refine ⟨?_, q.2⟩
    have q1 := q.1
    split at q1 <;> first | assumption | cases q1

/-! ### the type of a datum -/
structure InsK (K : PySem.W.Frag) (C : Addr) : Prop where
  cl : Cls K C
  ha : PySem.W.findIn K (.ref C) "__class__" = some (some (.builtin "object.__class__"))
  hn : PySem.W.specialIn K (.builtin "object.__class__") "__get__" = some (some (.builtin "getset_descriptor.__get__"))
  htk : PySem.W.takesIn K (.builtin "object.__class__") = some true
  hm : PySem.W.mroIn K C (.type "object") = some true
inductive TyD (K : PySem.W.Frag) : D → Value → Prop
  | non : TyD K .non (.type "NoneType")
  | bl (b : Bool) : TyD K (.bl b) (.type "bool")
  | int (i : Int) : TyD K (.int i) (.type "int")
  | str (x : Str) : TyD K (.str x) (.type "str")
  | tup (ds : List D) : TyD K (.tup ds) (.type "tuple")
  | lst (ds : List D) : TyD K (.lst ds) (.type "list")
  | ins {C : Addr} {fs : List (Str × D)} (h : InsK K C) : TyD K (.ins C fs) (.ref C)
theorem TyD.of {K : PySem.W.Frag} {G H : Hp} {d : D} {v : V} {t : Value} (h : TyD K d t) (s : Same G H) (r : Rep K G d v) : TyX K H v t := by
  cases h with
  | non => cases r; exact .base .non
  | bl b => cases r; exact .base (.bl b)
  | int i => cases r; exact .base (.int i)
  | str x => cases r; exact .base (.str x)
  | tup ds =>
    cases r with
    | tup hq _ =>
      rcases hq with (hq | ⟨o, hq⟩) | ⟨o, its, n, e, c, _⟩
      · exact .base (.tup (s _ _ hq))
      · exact .fTuple (s _ _ hq)
      · exact .kTuple e c
  | lst ds =>
    cases r with
    | lst hq _ =>
      rcases hq with (hq | ⟨o, hq⟩) | ⟨o, its, n, e, c, _⟩
      · exact .base (.lst (s _ _ hq))
      · exact .base (.frz (s _ _ hq))
      · exact .kList e c
  | ins hC =>
    cases r with
    | ins hp _ => exact .base (.ins (s _ _ hp) hC.cl hC.ha hC.hn hC.htk hC.hm)
theorem kit_self {K : PySem.W.Frag} {t : Value} (h : (t == t) = true) : PySem.W.kitOne K t t = some true := by
  unfold PySem.W.kitOne
  rw [if_pos h]
theorem kit_int_int {K : PySem.W.Frag} : PySem.W.kitOne K (.type "int") (.type "int") = some true := kit_ty (by decide +kernel)
theorem kit_bool_int {K : PySem.W.Frag} : PySem.W.kitOne K (.type "bool") (.type "int") = some true := kit_ty (by decide +kernel)
theorem kit_int_bool {K : PySem.W.Frag} : PySem.W.kitOne K (.type "int") (.type "bool") = some false := kit_ty (by decide +kernel)
theorem kit_bool_bool {K : PySem.W.Frag} : PySem.W.kitOne K (.type "bool") (.type "bool") = some true := kit_ty (by decide +kernel)
theorem kit_tup_tup {K : PySem.W.Frag} : PySem.W.kitOne K (.type "tuple") (.type "tuple") = some true := kit_ty (by decide +kernel)
theorem kit_lst_lst {K : PySem.W.Frag} : PySem.W.kitOne K (.type "list") (.type "list") = some true := kit_ty (by decide +kernel)
theorem kit_tup_lst {K : PySem.W.Frag} : PySem.W.kitOne K (.type "tuple") (.type "list") = some false := kit_ty (by decide +kernel)
theorem kit_lst_tup {K : PySem.W.Frag} : PySem.W.kitOne K (.type "list") (.type "tuple") = some false := kit_ty (by decide +kernel)

section
variable {X : Cx} {E : Ent} {ω : List Cell} {δ : DE} {R : D → Prop} {a b c e : Expr} {pos : Pos} {Gs : List Str}
/-- a built-in class as a value -/
theorem ev_bltn {j : Nat} {x : Str} {v : V} {u : Value} (g : GlobOk Gs X.env.scope) (hj : Gs[j]? = some x) (hm : X.mg x = none) (hv : bootBuiltins x = some u) (r : RelV v u) (hn : x ≠ "__name__") (h : R (.s v)) : EV X E ω δ (.Name x pos) R :=
  ev_c (pe_bltn (g.g hj) hm hv r hn (g.gl j x hj).2) h
theorem nn_isinstance : ("isinstance" : Str) ≠ "__name__" := by decide +kernel
theorem nn_len : ("len" : Str) ≠ "__name__" := by decide +kernel
theorem nn_abs : ("abs" : Str) ≠ "__name__" := by decide +kernel
theorem nn_int : ("int" : Str) ≠ "__name__" := by decide +kernel
theorem nn_bool : ("bool" : Str) ≠ "__name__" := by decide +kernel
theorem nn_tuple : ("tuple" : Str) ≠ "__name__" := by decide +kernel
theorem nn_list : ("list" : Str) ≠ "__name__" := by decide +kernel
theorem nn_str : ("str" : Str) ≠ "__name__" := by decide +kernel
theorem nn_min : ("min" : Str) ≠ "__name__" := by decide +kernel
theorem nn_max : ("max" : Str) ≠ "__name__" := by decide +kernel
theorem nn_all : ("all" : Str) ≠ "__name__" := by decide +kernel
theorem nn_ValueError : ("ValueError" : Str) ≠ "__name__" := by decide +kernel
theorem bt_bool : bootBuiltins "bool" = some (.type "bool") := by decide +kernel
theorem bt_str : bootBuiltins "str" = some (.type "str") := by decide +kernel
theorem ev_isi {j : Nat} {p : Pos} (g : GlobOk Gs X.env.scope) (hj : Gs[j]? = some "isinstance") (hm : X.mg "isinstance" = none)
    (h : EV X E ω δ a fun dx => EV X E ω δ b fun dc => ∃ cv t u r, dc = .s cv ∧ ClsV cv u ∧ TyD X.K dx t ∧ PySem.W.kitOne X.K t u = some r ∧ R (.bl r))
    (he : starEach [a, b] X.env = (false, eval a X.env) :: starEach [b] X.env := by rfl) (he2 : starEach [b] X.env = (false, eval b X.env) :: starEach [] X.env := by rfl) (hpl : (backTo pos (starEach [b] X.env)).any (·.1) = false := by rfl) : EV X E ω δ (.Call (.Name "isinstance" p) [a, b] [] pos) R :=
  ev_callB g hj call_isi hm PyProof.Rows.boot_isinstance nn_isinstance (ea_cons (h.imp fun dx q => ea_cons (q.imp fun dc q2 => ea_nil fun vs G H Q ok r k => by
    obtain ⟨cv, t, u, rb, e1, hc, ht, hk, hr⟩ := q2
    subst e1
    cases r with
    | cons r1 r2 =>
      cases r2 with
      | cons r2 r3 =>
        cases r3
        cases r2
        exact ⟨_, cv, t, u, rb, rfl, hc, ht.of ok.gh r1, hk, k _ _ G H hr ok (Same.refl G) (.s _)⟩) he2) he) he hpl
/-- isinstance(x, (c1, c2)), the tuple written -/
theorem ev_isi2 {j jt : Nat} {p pt : Pos} (g : GlobOk Gs X.env.scope) (hj : Gs[j]? = some "isinstance") (hm : X.mg "isinstance" = none)
    (h : EV X E ω δ a fun dx => EV X E ω δ b fun dc => EV X E ω δ c fun dc2 => ∃ cv cv2 t u u2 r, dc = .s cv ∧ dc2 = .s cv2 ∧ ClsV cv u ∧ ClsV cv2 u2 ∧ TyD X.K dx t ∧ PySem.W.kitAny X.K t [u, u2] = some r ∧ R (.bl r))
    (he : starEach [a, .Tuple [b, c] jt pt] X.env = (false, eval a X.env) :: starEach [.Tuple [b, c] jt pt] X.env := by rfl) (he2 : starEach [.Tuple [b, c] jt pt] X.env = (false, eval (.Tuple [b, c] jt pt) X.env) :: starEach [] X.env := by rfl)
    (he3 : starEach [b, c] X.env = (false, eval b X.env) :: starEach [c] X.env := by rfl) (he4 : starEach [c] X.env = (false, eval c X.env) :: starEach [] X.env := by rfl) (hpl : (backTo pos (starEach [.Tuple [b, c] jt pt] X.env)).any (·.1) = false := by rfl) :
    EV X E ω δ (.Call (.Name "isinstance" p) [a, .Tuple [b, c] jt pt] [] pos) R :=
  ev_of (pe_callB call_isiT (g.g hj) hm PyProof.Rows.boot_isinstance (pa_cons wE_pe (pa_cons (pe_tup wA_pa) pa_nil he2) he) nn_isinstance (g.gl j _ hj).2 he hpl) fun σ G H Q ok en k => h σ G H _ ok en fun v d G1 H1 q ok1 s1 r1 => by
    have hA : EA X E ω δ [b, c] fun ds => ∃ dc dc2, ds = [dc, dc2] ∧ ∃ cv cv2 t u u2 r, dc = .s cv ∧ dc2 = .s cv2 ∧ ClsV cv u ∧ ClsV cv2 u2 ∧ TyD X.K d t ∧ PySem.W.kitAny X.K t [u, u2] = some r ∧ R (.bl r) :=
      ea_cons (q.imp fun dc q2 => ea_cons (q2.imp fun dc2 q3 => ea_nil ⟨dc, dc2, rfl, q3⟩) he4) he3
    refine hA σ G1 H1 _ ok1 (en.mono s1) fun vs ds G2 H2 q2 ok2 s2 r2 => ?_
    obtain ⟨dc, dc2, rfl, cv, cv2, t, u, u2, rb, rfl, rfl, h1, h2, ht, hk, hr⟩ := q2
    have hl := r2.length
    refine ⟨by rw [← hl]; exact (by decide : 2 ≤ sizeLine), fun p hp => ?_⟩
    have e2 : vs = [cv, cv2] := RepL.of_s (vs := [cv, cv2]) r2
    subst e2
    obtain ⟨ok3, s3⟩ := ok2.new (o := .tup [cv, cv2]) hp (fun ps z => nomatch z)
    exact ⟨v, p, [cv, cv2], t, [u, u2], rb, rfl, upd_same, .cons h1 (.cons h2 .nil), ht.of (H := upd H2 p (.tup [cv, cv2])) ok3.gh ((r1.mono s2).mono s3), hk, k _ _ _ _ hr ok3 ((s1.trans s2).trans s3) (.s _)⟩
def D.items : D → Option (List D)
  | .tup ds => some ds
  | .lst ds => some ds
  | _ => none
theorem Rep.items {K : PySem.W.Frag} {G H : Hp} {d : D} {ds : List D} {v : V} (r : Rep K G d v) (s : Same G H) (h : d.items = some ds) : ∃ p vs, v = .ref p ∧ (SqL K H p vs ∨ SqT K H p vs) ∧ RepL K G ds vs := by
  cases r with
  | s v => cases h
  | tup hq rl => cases h; exact ⟨_, _, rfl, .inr (sqT_mono s hq), rl⟩
  | lst hq rl => cases h; exact ⟨_, _, rfl, .inl (s.seq hq), rl⟩
  | ins _ _ => cases h
theorem ev_len {j : Nat} {p : Pos} (g : GlobOk Gs X.env.scope) (hj : Gs[j]? = some "len") (hm : X.mg "len" = none) (h : EV X E ω δ a fun d => ∃ ds, d.items = some ds ∧ R (.int ds.length))
    (he : starEach [a] X.env = (false, eval a X.env) :: starEach [] X.env := by rfl) (hpl : (backTo pos (starEach [] X.env)).any (·.1) = false := by rfl) : EV X E ω δ (.Call (.Name "len" p) [a] [] pos) R :=
  ev_callB g hj call_len_seq hm PySem.boot_len nn_len (ea_cons (h.imp fun d q => ea_nil fun vs G H Q ok r k => by
    obtain ⟨ds, e1, hr⟩ := q
    cases r with
    | cons r1 r2 =>
      cases r2
      obtain ⟨p, ws, rfl, hq, rl⟩ := r1.items ok.gh e1
      exact ⟨p, ws, rfl, hq, by rw [← rl.length]; exact k _ _ G H hr ok (Same.refl G) (.s _)⟩) he) he hpl
theorem ev_abs {j : Nat} {p : Pos} (g : GlobOk Gs X.env.scope) (hj : Gs[j]? = some "abs") (hm : X.mg "abs" = none) (h : EV X E ω δ a fun d => ∃ i, d = .int i ∧ R (.int (i.natAbs : Int)))
    (he : starEach [a] X.env = (false, eval a X.env) :: starEach [] X.env := by rfl) (hpl : (backTo pos (starEach [] X.env)).any (·.1) = false := by rfl) : EV X E ω δ (.Call (.Name "abs" p) [a] [] pos) R :=
  ev_callB g hj call_abs hm PyProof.Rows.boot_abs nn_abs (ea_cons (h.imp fun d q => ea_nil fun vs G H Q ok r k => by
    obtain ⟨i, e1, hr⟩ := q
    subst e1
    cases r with
    | cons r1 r2 =>
      cases r2
      cases r1
      have e : (if i < 0 then -i else i) = (i.natAbs : Int) := by split <;> omega
      exact ⟨i, rfl, by rw [e]; exact k _ _ G H hr ok (Same.refl G) (.s _)⟩) he) he hpl
theorem ev_intI {j : Nat} {p : Pos} (g : GlobOk Gs X.env.scope) (hj : Gs[j]? = some "int") (hm : X.mg "int" = none) (h : EV X E ω δ a fun d => (∃ i, d = .int i ∧ R (.int i)) ∨ ∃ b, d = .bl b ∧ R (.int (if b = true then 1 else 0)))
    (he : starEach [a] X.env = (false, eval a X.env) :: starEach [] X.env := by rfl) (hpl : (backTo pos (starEach [] X.env)).any (·.1) = false := by rfl) : EV X E ω δ (.Call (.Name "int" p) [a] [] pos) R :=
  ev_callTy g hj call_int1 hm PyProof.Rows.boot_int nn_int (ea_cons (h.imp fun d q => ea_nil fun vs G H Q ok r k => by
    cases r with
    | cons r1 r2 =>
      cases r2
      rcases q with ⟨i, e1, hr⟩ | ⟨i, e1, hr⟩
      · subst e1
        cases r1
        exact .inl ⟨i, rfl, k _ _ G H hr ok (Same.refl G) (.s _)⟩
      · subst e1
        cases r1
        exact .inr ⟨i, rfl, k _ _ G H hr ok (Same.refl G) (.s _)⟩) he) he hpl
theorem ev_min2 {j : Nat} {p : Pos} (hc : X.calm = true) (g : GlobOk Gs X.env.scope) (hj : Gs[j]? = some "min") (hm : X.mg "min" = none) (h : EV X E ω δ a fun d => EV X E ω δ b fun d2 => ∃ i j, d = .int i ∧ d2 = .int j ∧ R (.int (min i j)))
    (he : starEach [a, b] X.env = (false, eval a X.env) :: starEach [b] X.env := by rfl) (he2 : starEach [b] X.env = (false, eval b X.env) :: starEach [] X.env := by rfl) (hpl : (backTo pos (starEach [b] X.env)).any (·.1) = false := by rfl) : EV X E ω δ (.Call (.Name "min" p) [a, b] [] pos) R :=
  ev_callB g hj (call_min2 hc) hm PyProof.Rows.boot_min nn_min (ea_cons (h.imp fun d q => ea_cons (q.imp fun d2 q2 => ea_nil fun vs G H Q ok r k => by
    obtain ⟨i, j, e1, e2, hr⟩ := q2
    subst e1 e2
    cases r with
    | cons r1 r2 =>
      cases r1
      cases r2 with
      | cons r2 r3 =>
        cases r2
        cases r3
        have e : (if j < i then j else i) = min i j := by split <;> omega
        exact ⟨i, j, rfl, by rw [e]; exact k _ _ G H hr ok (Same.refl G) (.s _)⟩) he2) he) he hpl
theorem ev_max2 {j : Nat} {p : Pos} (hc : X.calm = true) (g : GlobOk Gs X.env.scope) (hj : Gs[j]? = some "max") (hm : X.mg "max" = none) (h : EV X E ω δ a fun d => EV X E ω δ b fun d2 => ∃ i j, d = .int i ∧ d2 = .int j ∧ R (.int (max i j)))
    (he : starEach [a, b] X.env = (false, eval a X.env) :: starEach [b] X.env := by rfl) (he2 : starEach [b] X.env = (false, eval b X.env) :: starEach [] X.env := by rfl) (hpl : (backTo pos (starEach [b] X.env)).any (·.1) = false := by rfl) : EV X E ω δ (.Call (.Name "max" p) [a, b] [] pos) R :=
  ev_callB g hj (call_max2 hc) hm PyProof.Rows.boot_max nn_max (ea_cons (h.imp fun d q => ea_cons (q.imp fun d2 q2 => ea_nil fun vs G H Q ok r k => by
    obtain ⟨i, j, e1, e2, hr⟩ := q2
    subst e1 e2
    cases r with
    | cons r1 r2 =>
      cases r1
      cases r2 with
      | cons r2 r3 =>
        cases r2
        cases r3
        have e : (if j > i then j else i) = max i j := by split <;> omega
        exact ⟨i, j, rfl, by rw [e]; exact k _ _ G H hr ok (Same.refl G) (.s _)⟩) he2) he) he hpl
theorem ev_tuple {j : Nat} {p : Pos} (g : GlobOk Gs X.env.scope) (hj : Gs[j]? = some "tuple") (hm : X.mg "tuple" = none) (h : EV X E ω δ a fun d => ∃ ds, d = .lst ds ∧ R (.tup ds))
    (he : starEach [a] X.env = (false, eval a X.env) :: starEach [] X.env := by rfl) (hpl : (backTo pos (starEach [] X.env)).any (·.1) = false := by rfl) : EV X E ω δ (.Call (.Name "tuple" p) [a] [] pos) R :=
  ev_callTy g hj call_tuple_of hm PyProof.Rows.boot_tuple nn_tuple (ea_cons (h.imp fun d q => ea_nil fun vs G H Q ok r k => by
    obtain ⟨ds, e1, hr⟩ := q
    subst e1
    cases r with
    | cons r1 r2 =>
      cases r2
      cases r1 with
      | lst hq rl =>
        refine ⟨_, _, rfl, .inl ⟨ok.gh.seq hq, fun l hl => ?_⟩⟩
        obtain ⟨ok2, s2⟩ := ok.new (o := .tup _) hl (fun ps z => nomatch z)
        exact k _ _ _ _ hr ok2 s2 (.tup (SqT.of upd_same) (rl.mono s2))) he) he hpl
theorem ev_list {j : Nat} {p : Pos} (g : GlobOk Gs X.env.scope) (hj : Gs[j]? = some "list") (hm : X.mg "list" = none) (h : EV X E ω δ a fun d => ∃ ds, d.items = some ds ∧ R (.lst ds))
    (he : starEach [a] X.env = (false, eval a X.env) :: starEach [] X.env := by rfl) (hpl : (backTo pos (starEach [] X.env)).any (·.1) = false := by rfl) : EV X E ω δ (.Call (.Name "list" p) [a] [] pos) R :=
  ev_callTy g hj call_list_of hm PyProof.Rows.boot_list nn_list (ea_cons (h.imp fun d q => ea_nil fun vs G H Q ok r k => by
    obtain ⟨ds, e1, hr⟩ := q
    cases r with
    | cons r1 r2 =>
      cases r2
      obtain ⟨p, ws, rfl, hq, rl⟩ := r1.items ok.gh e1
      refine ⟨p, ws, rfl, hq, fun l hl => ?_⟩
      obtain ⟨ok2, s2⟩ := ok.new (o := .lst ws) hl (fun ps z => nomatch z)
      exact k _ _ _ _ hr ok2 s2 (.lst (SqL.of upd_same) (rl.mono s2))) he) he hpl
theorem RepL.bools {K : PySem.W.Frag} {G : Hp} {bs : List Bool} {vs : List V} (r : RepL K G (bs.map D.bl) vs) : vs = bs.map V.bl := by
  have e : bs.map D.bl = (bs.map V.bl).map D.s := by rw [List.map_map]; rfl
  rw [e] at r
  exact r.of_s
theorem RepL.intsV {K : PySem.W.Frag} {G : Hp} {bs : List Int} {vs : List V} (r : RepL K G (bs.map D.int) vs) : vs = bs.map V.int := by
  have e : bs.map D.int = (bs.map V.int).map D.s := by rw [List.map_map]; rfl
  rw [e] at r
  exact r.of_s
theorem ev_all {j : Nat} {p : Pos} (hc : X.calm = true) (g : GlobOk Gs X.env.scope) (hj : Gs[j]? = some "all") (hm : X.mg "all" = none) (h : EV X E ω δ a fun d => ∃ bs : List Bool, d = .lst (bs.map D.bl) ∧ R (.bl (bs.all id)))
    (he : starEach [a] X.env = (false, eval a X.env) :: starEach [] X.env := by rfl) (hpl : (backTo pos (starEach [] X.env)).any (·.1) = false := by rfl) : EV X E ω δ (.Call (.Name "all" p) [a] [] pos) R :=
  ev_callB g hj (cr_all hc) hm PyProof.Rows.boot_all nn_all (ea_cons (h.imp fun d q => ea_nil fun vs G H Q ok r k => by
    obtain ⟨bs, e1, hr⟩ := q
    subst e1
    cases r with
    | cons r1 r2 =>
      cases r2
      cases r1 with
      | lst hq rl =>
        have e := rl.bools
        subst e
        exact ⟨_, bs, rfl, ok.gh.seq hq, k _ _ G H hr ok (Same.refl G) (.s _)⟩) he) he hpl

/-! ### slices -/
def cutD (xs : List D) (lo hi : Option Int) : List D := (xs.drop (HT.sIx xs.length 0 lo)).take (HT.sIx xs.length xs.length hi - HT.sIx xs.length 0 lo)
theorem RepL.cut {K : PySem.W.Frag} {G : Hp} {ds : List D} {vs : List V} (r : RepL K G ds vs) (lo hi : Option Int) : RepL K G (cutD ds lo hi) (cutV vs lo hi) := by
  unfold cutD cutV
  rw [r.length]
  exact (r.drop _).take _
theorem cutD_from (xs : List D) (k : Nat) : cutD xs (some (k : Int)) none = xs.drop k := by
  unfold cutD
  rw [HT.sIx_nat, HT.sIx_none]
  by_cases h : k ≤ xs.length
  · rw [Nat.min_eq_left h, List.take_of_length_le (by rw [List.length_drop]; omega)]
  · rw [Nat.min_eq_right (by omega), List.drop_of_length_le (show xs.length ≤ xs.length by omega), List.drop_of_length_le (by omega)]
    simp
theorem ev_sliceL {lo : Expr} {p2 : Pos} (h : EV X E ω δ a fun d => EV X E ω δ lo fun l => ∃ ds i, d = .lst ds ∧ l = .int i ∧ R (.lst (cutD ds (some i) none))) : EV X E ω δ (.Subscript a (.Slice (some lo) none none p2) pos) R :=
  ev_of (pe_slice sl_list wE_pe (po_some wE_pe) po_none) fun σ G H Q ok en k => h σ G H _ ok en fun v d G1 H1 q ok1 s1 r1 => q σ G1 H1 _ ok1 (en.mono s1) fun w d2 G2 H2 q2 ok2 s2 r2 => by
    obtain ⟨ds, i, e1, e2, hr⟩ := q2
    subst e1 e2
    cases r2
    cases r1 with
    | lst hq rl =>
      refine ⟨i, rfl, _, _, rfl, ok2.gh.seq (s2.seq hq), fun p hp => ?_⟩
      obtain ⟨ok3, s3⟩ := ok2.new (o := .lst _) hp (fun ps z => nomatch z)
      exact k _ _ _ _ hr ok3 ((s1.trans s2).trans s3) (.lst (SqL.of upd_same) (((rl.mono s2).mono s3).cut _ _))
theorem ev_sliceTo {hi : Expr} {p2 : Pos} (h : EV X E ω δ a fun d => EV X E ω δ hi fun l => ∃ ds i, d = .lst ds ∧ l = .int i ∧ R (.lst (cutD ds none (some i)))) : EV X E ω δ (.Subscript a (.Slice none (some hi) none p2) pos) R :=
  ev_of (pe_slice sl_list wE_pe po_none (po_some wE_pe)) fun σ G H Q ok en k => h σ G H _ ok en fun v d G1 H1 q ok1 s1 r1 => q σ G1 H1 _ ok1 (en.mono s1) fun w d2 G2 H2 q2 ok2 s2 r2 => by
    obtain ⟨ds, i, e1, e2, hr⟩ := q2
    subst e1 e2
    cases r2
    cases r1 with
    | lst hq rl =>
      refine ⟨i, rfl, _, _, rfl, ok2.gh.seq (s2.seq hq), fun p hp => ?_⟩
      obtain ⟨ok3, s3⟩ := ok2.new (o := .lst _) hp (fun ps z => nomatch z)
      exact k _ _ _ _ hr ok3 ((s1.trans s2).trans s3) (.lst (SqL.of upd_same) (((rl.mono s2).mono s3).cut _ _))
theorem ev_rev {k0 : Nat} {p1 p2 p3 : Pos} (h : EV X E ω δ a fun d => ∃ ds, d = .lst ds ∧ R (.lst ds.reverse)) : EV X E ω δ (.Subscript a (.Slice none none (some (.UnaryOp .USub (.Constant (.int 1) k0 p1) p2)) p3) pos) R :=
  ev_of (pe_revL wE_pe) fun σ G H Q ok en k => h σ G H _ ok en fun v d G1 H1 q ok1 s1 r1 => by
    obtain ⟨ds, e1, hr⟩ := q
    subst e1
    cases r1 with
    | lst hq rl =>
      refine ⟨_, _, rfl, ok1.gh.seq hq, fun p hp => ?_⟩
      obtain ⟨ok3, s3⟩ := ok1.new (o := .lst _) hp (fun ps z => nomatch z)
      exact k _ _ _ _ hr ok3 (s1.trans s3) (.lst (SqL.of upd_same) (rl.mono s3).reverse)
end
end DL

set_option Elab.async false
set_option linter.all false
set_option maxRecDepth 100000
set_option maxHeartbeats 2000000
/-! Loops and comprehensions. -/
namespace DL
open PySem L2 PyProof.Rows
section
variable {X : Cx} {E : Ent} {ω : List Cell} {δ : DE} {Φ : Outs} {R : D → Prop} {a b c e it tg : Expr} {pos : Pos} {body : List Stmt} {Gs : List Str}
/-- the state between two turns: some data that Pv tells, known since G1 -/
def Btw (K : PySem.W.Frag) (E : Ent) (G1 : Hp) (P : List Cell → DE → Prop) (σ : L2.St) (H : Hp) : Prop := ∃ ω δ G, P ω δ ∧ SOk E ω G H ∧ Same G1 G ∧ EnvR K G δ σ
theorem Nx.btw {K : PySem.W.Frag} {G : Hp} {P : List Cell → DE → Prop} : Nx K E G P (Btw K E G P) := fun ω δ σ G' H' p ok s en => ⟨ω, δ, G', p, ok, s, en⟩
theorem Nx.btw1 {K : PySem.W.Frag} {G1 G : Hp} {P : List Cell → DE → Prop} (s : Same G1 G) : Nx K E G P (Btw K E G1 P) := fun ω δ σ G' H' p ok s' en => ⟨ω, δ, G', p, ok, s.trans s', en⟩
theorem Nx.no {K : PySem.W.Frag} {G : Hp} {Q : L2.St → Hp → Prop} : Nx K E G (fun _ _ => False) Q := fun _ _ _ _ _ p => p.elim

/-- while -/
theorem sv_while (hp : PassesOwn (model X.prog X.w) X.A X.env X.xe) (W : Nat → List Cell → DE → Prop) (m0 : Nat) (h0 : W m0 ω δ)
    (h : ∀ m ω δ, W m ω δ → ET X E ω δ c fun p => (p = true → BV X E ω δ body { nx := fun ω' δ' => ∃ m', m' < m ∧ W m' ω' δ', ct := fun ω' δ' => ∃ m', m' < m ∧ W m' ω' δ', bk := Φ.nx, rt := Φ.rt }) ∧ (p = false → Φ.nx ω δ)) : SV X E ω δ (.While c body [] pos) Φ :=
  sv_of (ps_while hp wT_pt wSs_ps) fun σ G H D ok en k => by
    refine ⟨fun m => Btw X.K E G (W m), ⟨m0, ω, δ, G, h0, ok, Same.refl G, en⟩, fun m σ' H' hw => ?_⟩
    obtain ⟨ω', δ', G', hW, ok', s', en'⟩ := hw
    refine h m ω' δ' hW σ' G' H' _ ok' en' fun p G2 H2 q ok2 s2 => ?_
    have st : Same G G2 := s'.trans s2
    cases p with
    | true =>
      rw [if_pos rfl]
      have nxt : Nx X.K E G2 (fun ω' δ' => ∃ m', m' < m ∧ W m' ω' δ') fun σ3 H3 => ∃ m', m' < m ∧ Btw X.K E G (W m') σ3 H3 := fun ω3 δ3 σ3 G3 H3 ⟨m', hm, w3⟩ ok3 s3 en3 => ⟨m', hm, ω3, δ3, G3, w3, ok3, st.trans s3, en3⟩
      exact ⟨fun σ3 H3 => ∃ m', m' < m ∧ Btw X.K E G (W m') σ3 H3, fun _ _ z => z, q.1 rfl σ' G2 H2 { D with nx := fun σ3 H3 => ∃ m', m' < m ∧ Btw X.K E G (W m') σ3 H3, ct := fun σ3 H3 => ∃ m', m' < m ∧ Btw X.K E G (W m') σ3 H3, bk := D.nx } ok2 (en'.mono s2) ⟨nxt, k.rt.mono st, k.nx.mono st, nxt⟩⟩
    | false =>
      rw [if_neg (by decide)]
      exact k.nx ω' δ' σ' G2 H2 (q.2 rfl) ok2 st (en'.mono s2)

/-- for x in a list -/
theorem sv_forL {nv : Nat} {j : Nat} {x : Str} {px : Pos} (hp : PassesOwn (model X.prog X.w) X.A X.env X.xe) (hc : X.calm = true) (lo : LocOk nv X.N X.env.scope) (hv : Nat.blt j nv = true) (hj : X.N[j]? = some x)
    (h : EV X E ω δ it fun d => ∃ ds, d = .lst ds ∧ ∃ Pv : Nat → List Cell → DE → Prop, Pv 0 ω δ ∧
      (∀ i d ω' δ', ds[i]? = some d → Pv i ω' δ' → BV X E ω' (δ'.set j (some d)) body { nx := Pv (i + 1), ct := Pv (i + 1), bk := Φ.nx, rt := Φ.rt }) ∧ (∀ ω' δ', Pv ds.length ω' δ' → Φ.nx ω' δ'))
    (hf : X.fn x = true ∨ X.env.scope.names.lookup x = some .local := by exact .inl rfl) (hs : ∀ x, foldedSetIterable it X.env x = pure x := by intro _; rfl) : SV X E ω δ (.For (.Name x px) it body [] pos) Φ :=
  sv_of (ps_for hp hc (pi_list wE_pe) (pg_name lo.nd hj (lo.loc _ _ hv hj) hf) wSs_ps hs) fun σ G H D ok en k => h σ G H _ ok en fun v d G1 H1 q ok1 s1 r1 => by
    obtain ⟨ds, e1, Pv, p0, ps, pd⟩ := q
    subst e1
    cases r1 with
    | @lst p vs _ hq rl =>
      have hl := rl.length
      refine ⟨p, rfl, ⟨vs, ok1.gh.seq hq⟩, for_list (xs := vs) (fun i => Btw X.K E G1 (Pv i)) ⟨ω, δ, G1, p0, ok1, Same.refl G1, en.mono s1⟩ (fun i σ' H' _ hw => ?_) (fun i y σ' H' hy hw => ?_) (fun σ' H' hw => ?_)⟩
      · obtain ⟨ω', δ', G', _, ok', s', _⟩ := hw
        exact ok'.gh.seq (s'.seq hq)
      · obtain ⟨ω', δ', G', hP, ok', s', en'⟩ := hw
        obtain ⟨d, hd, rd⟩ := rl.get' hy
        exact ps i d ω' δ' hd hP _ G' H' _ ok' (en'.set (rd.mono s')) ⟨Nx.btw1 s', k.rt.mono (s1.trans s'), k.nx.mono (s1.trans s'), Nx.btw1 s'⟩
      · obtain ⟨ω', δ', G', hP, ok', s', en'⟩ := hw
        rw [← hl] at hP
        exact k.nx ω' δ' σ' G' H' (pd ω' δ' hP) ok' (s1.trans s') en'
/-- for x, y in a list of tuples -/
theorem sv_forLT {js : List Nat} {es : List Expr} {kk : Nat} {px : Pos} (hp : PassesOwn (model X.prog X.w) X.A X.env X.xe) (hc : X.calm = true) (hg : PG X (.Tuple es kk px) (gTup X.K js.length (gNames js)))
    (h : EV X E ω δ it fun d => ∃ ds : List (List D), d = .lst (ds.map .tup) ∧ (∀ t ∈ ds, t.length = js.length) ∧ ∃ Pv : Nat → List Cell → DE → Prop, Pv 0 ω δ ∧
      (∀ i d ω' δ', ds[i]? = some d → Pv i ω' δ' → BV X E ω' (setAll δ' js d) body { nx := Pv (i + 1), ct := Pv (i + 1), bk := Φ.nx, rt := Φ.rt }) ∧ (∀ ω' δ', Pv ds.length ω' δ' → Φ.nx ω' δ'))
    (hs : ∀ x, foldedSetIterable it X.env x = pure x := by intro _; rfl) : SV X E ω δ (.For (.Tuple es kk px) it body [] pos) Φ :=
  sv_of (ps_for hp hc (pi_list wE_pe) hg wSs_ps hs) fun σ G H D ok en k => h σ G H _ ok en fun v d G1 H1 q ok1 s1 r1 => by
    obtain ⟨ds, e1, ht, Pv, p0, ps, pd⟩ := q
    subst e1
    cases r1 with
    | @lst p vs _ hq rl =>
      have hl := rl.length
      refine ⟨p, rfl, ⟨vs, ok1.gh.seq hq⟩, for_list (xs := vs) (fun i => Btw X.K E G1 (Pv i)) ⟨ω, δ, G1, p0, ok1, Same.refl G1, en.mono s1⟩ (fun i σ' H' _ hw => ?_) (fun i y σ' H' hy hw => ?_) (fun σ' H' hw => ?_)⟩
      · obtain ⟨ω', δ', G', _, ok', s', _⟩ := hw
        exact ok'.gh.seq (s'.seq hq)
      · obtain ⟨ω', δ', G', hP, ok', s', en'⟩ := hw
        obtain ⟨d, hd, rd⟩ := rl.get' hy
        rw [List.getElem?_map] at hd
        cases hd2 : ds[i]? with
        | none => rw [hd2] at hd; cases hd
        | some t =>
          rw [hd2] at hd
          cases hd
          cases rd with
          | @tup p2 vs2 _ hq2 rl2 =>
            have l2 := ht t (List.mem_of_getElem? hd2)
            exact ⟨p2, vs2, rfl, sqT_mono ok'.gh (sqT_mono s' hq2), rl2.length.symm.trans l2, gNames_run l2.symm (rl2.mono s') en' fun σ2 en2 =>
              ps i t ω' δ' hd2 hP _ G' H' _ ok' en2 ⟨Nx.btw1 s', k.rt.mono (s1.trans s'), k.nx.mono (s1.trans s'), Nx.btw1 s'⟩⟩
      · obtain ⟨ω', δ', G', hP, ok', s', en'⟩ := hw
        rw [← hl, List.length_map] at hP
        exact k.nx ω' δ' σ' G' H' (pd ω' δ' hP) ok' (s1.trans s') en'
/-- for x, y in a tuple of tuples -/
theorem sv_forTT {js : List Nat} {es : List Expr} {kk : Nat} {px : Pos} (hp : PassesOwn (model X.prog X.w) X.A X.env X.xe) (hc : X.calm = true) (hg : PG X (.Tuple es kk px) (gTup X.K js.length (gNames js)))
    (h : EV X E ω δ it fun d => ∃ ds : List (List D), d = .tup (ds.map .tup) ∧ (∀ t ∈ ds, t.length = js.length) ∧ ∃ Pv : Nat → List Cell → DE → Prop, Pv 0 ω δ ∧
      (∀ i d ω' δ', ds[i]? = some d → Pv i ω' δ' → BV X E ω' (setAll δ' js d) body { nx := Pv (i + 1), ct := Pv (i + 1), bk := Φ.nx, rt := Φ.rt }) ∧ (∀ ω' δ', Pv ds.length ω' δ' → Φ.nx ω' δ'))
    (hs : ∀ x, foldedSetIterable it X.env x = pure x := by intro _; rfl) : SV X E ω δ (.For (.Tuple es kk px) it body [] pos) Φ :=
  sv_of (ps_for hp hc (pi_tup wE_pe) hg wSs_ps hs) fun σ G H D ok en k => h σ G H _ ok en fun v d G1 H1 q ok1 s1 r1 => by
    obtain ⟨ds, e1, ht, Pv, p0, ps, pd⟩ := q
    subst e1
    cases r1 with
    | @tup p vs _ hq rl =>
      have hl := rl.length
      refine ⟨p, rfl, ⟨vs, sqT_mono ok1.gh hq⟩, for_tup (xs := vs) (fun i => Btw X.K E G1 (Pv i)) ⟨ω, δ, G1, p0, ok1, Same.refl G1, en.mono s1⟩ (fun i σ' H' _ hw => ?_) (fun i y σ' H' hy hw => ?_) (fun σ' H' hw => ?_)⟩
      · obtain ⟨ω', δ', G', _, ok', s', _⟩ := hw
        exact sqT_mono ok'.gh (sqT_mono s' hq)
      · obtain ⟨ω', δ', G', hP, ok', s', en'⟩ := hw
        obtain ⟨d, hd, rd⟩ := rl.get' hy
        rw [List.getElem?_map] at hd
        cases hd2 : ds[i]? with
        | none => rw [hd2] at hd; cases hd
        | some t =>
          rw [hd2] at hd
          cases hd
          cases rd with
          | @tup p2 vs2 _ hq2 rl2 =>
            have l2 := ht t (List.mem_of_getElem? hd2)
            exact ⟨p2, vs2, rfl, sqT_mono ok'.gh (sqT_mono s' hq2), rl2.length.symm.trans l2, gNames_run l2.symm (rl2.mono s') en' fun σ2 en2 =>
              ps i t ω' δ' hd2 hP _ G' H' _ ok' en2 ⟨Nx.btw1 s', k.rt.mono (s1.trans s'), k.nx.mono (s1.trans s'), Nx.btw1 s'⟩⟩
      · obtain ⟨ω', δ', G', hP, ok', s', en'⟩ := hw
        rw [← hl, List.length_map] at hP
        exact k.nx ω' δ' σ' G' H' (pd ω' δ' hP) ok' (s1.trans s') en'
theorem forR_core {K : PySem.W.Frag} {j : Nat} {G G1 H1 : Hp} {σ : L2.St} {D : Ends} {lo : Int} {n : Nat} (s1 : Same G G1) (ok1 : SOk E ω G1 H1) (en : EnvR K G1 δ σ) (k : Ok K E G Φ D) (wb : TS) (Pv : Nat → List Cell → DE → Prop) (p0 : Pv 0 ω δ)
    (ps : ∀ i ω' δ', i < n → Pv i ω' δ' → RS K E ω' (δ'.set j (some (.int (lo + i)))) wb { nx := Pv (i + 1), ct := Pv (i + 1), bk := Φ.nx, rt := Φ.rt }) (pd : ∀ ω' δ', Pv n ω' δ' → Φ.nx ω' δ') :
    ∃ W : Nat → Nat → L2.St → Hp → Prop, (∃ m, W 0 m σ H1) ∧ ∀ i m σ H, W i m σ H →
      ((Itr lo n).stop i H ∧ D.nx σ H) ∨ ((Itr lo n).go i H ∧ ∃ N : L2.St → Hp → Prop, (∀ σ' H', N σ' H' → ∃ m', m' < m ∧ W (i + 1) m' σ' H') ∧ ∀ x H', (Itr lo n).yld i H x H' → gName j x σ H' fun σ2 H2 => wb { D with nx := N, ct := N, bk := D.nx } σ2 H2) :=
  for_range (fun i => Btw K E G1 (Pv i)) ⟨ω, δ, G1, p0, ok1, Same.refl G1, en⟩ (fun i σ' H' hi hw => by
    obtain ⟨ω', δ', G', hP, ok', s', en'⟩ := hw
    exact ps i ω' δ' hi hP _ G' H' _ ok' (en'.set (.s _)) ⟨Nx.btw1 s', k.rt.mono (s1.trans s'), k.nx.mono (s1.trans s'), Nx.btw1 s'⟩) (fun σ' H' hw => by
    obtain ⟨ω', δ', G', hP, ok', s', en'⟩ := hw
    exact k.nx ω' δ' σ' G' H' (pd ω' δ' hP) ok' (s1.trans s') en')
/-- for i in range(n) -/
theorem sv_forR1 {nv : Nat} {j jr : Nat} {x : Str} {px p pc : Pos} (hp : PassesOwn (model X.prog X.w) X.A X.env X.xe) (hc : X.calm = true) (lo : LocOk nv X.N X.env.scope) (hv : Nat.blt j nv = true) (hj : X.N[j]? = some x) (g : GlobOk Gs X.env.scope) (hjr : Gs[jr]? = some "range") (hm : X.mg "range" = none)
    (h : EV X E ω δ a fun d => ∃ n : Int, d = .int n ∧ n < 2 ^ 62 ∧ -(2 ^ 62) ≤ n ∧ ∃ Pv : Nat → List Cell → DE → Prop, Pv 0 ω δ ∧
      (∀ i ω' δ', i < n.toNat → Pv i ω' δ' → BV X E ω' (δ'.set j (some (.int (i : Int)))) body { nx := Pv (i + 1), ct := Pv (i + 1), bk := Φ.nx, rt := Φ.rt }) ∧ (∀ ω' δ', Pv n.toNat ω' δ' → Φ.nx ω' δ'))
    (hf : X.fn x = true ∨ X.env.scope.names.lookup x = some .local := by exact .inl rfl) (hs : ∀ x, foldedSetIterable (.Call (.Name "range" p) [a] [] pc) X.env x = pure x := by intro _; rfl) (hs2 : starEach [a] X.env = [(false, eval a X.env)] := by rfl) : SV X E ω δ (.For (.Name x px) (.Call (.Name "range" p) [a] [] pc) body [] pos) Φ :=
  sv_of (ps_for hp hc (pi_range1 (g.g hjr) hm (pa_cons wE_pe pa_nil hs2) hs2) (pg_name lo.nd hj (lo.loc _ _ hv hj) hf) wSs_ps hs) fun σ G H D ok en k => h σ G H _ ok en fun v d G1 H1 q ok1 s1 r1 => by
    obtain ⟨n, e1, b1, b2, Pv, p0, ps, pd⟩ := q
    subst e1
    cases r1
    refine ⟨n, rfl, b2, b1, forR_core s1 ok1 (en.mono s1) k _ Pv p0 (fun i ω' δ' hi hP => ?_) pd⟩
    have e : (0 : Int) + (i : Int) = (i : Int) := Int.zero_add _
    rw [e]
    exact ps i ω' δ' hi hP

/-! ### comprehensions -/
structure NamesB (is : List Nat) (N : List Str) (sc : Scope) : Prop where
  vis : ∀ (i : Nat) (x : Str), i ∈ is → N[i]? = some x → Vis sc x ∧ (x == ("__debug__" : Str)) = false ∧ (x == ("__classdict__" : Str)) = false
theorem ev_nameB {is : List Nat} {i : Nat} {x : Str} {d : D} (nm : NamesB is X.N X.env.scope) (hi : i ∈ is) (hN : X.N[i]? = some x) (hδ : δ[i]? = some (some d)) (h : R d) : EV X E ω δ (.Name x pos) R :=
  ev_of (pe_var hN (nm.vis i x hi hN).1 (nm.vis i x hi hN).2.1 (nm.vis i x hi hN).2.2) fun σ G H Q ok en k => let ⟨v, e1, r⟩ := en.2 i d hδ; ⟨v, e1, k v d G H h ok (Same.refl G) r⟩
def visF (sc : Scope) (x : Str) : Bool := (match sc.names.lookup x with | some .local => true | some .cell => true | some .free => true | _ => false) && !(x == ("__debug__" : Str)) && !(x == ("__classdict__" : Str))
def scBlk (is : List Nat) (N Gs : List Str) (sc : Scope) : Bool :=
  (is.all fun i => match N[i]? with | some x => visF sc x | none => true) && (Gs.all fun x => (match sc.names.lookup x with | some .globalImplicit => true | _ => false) && !(x == ("__debug__" : Str)))
structure ScB (is : List Nat) (N Gs : List Str) (sc : Scope) : Prop where
  nm : NamesB is N sc
  gl : GlobOk Gs sc
theorem ScB.of {is : List Nat} {N Gs : List Str} {sc : Scope} (h : scBlk is N Gs sc = true) : ScB is N Gs sc := by
  unfold scBlk at h
  simp only [Bool.and_eq_true, List.all_eq_true, Bool.not_eq_true'] at h
  refine ⟨⟨fun i x hi hN => ?_⟩, ⟨fun j x hj => ?_⟩⟩
  · have q := h.1 i hi
    rw [hN] at q
    have q : visF sc x = true := q
    unfold visF at q
    simp only [Bool.and_eq_true, Bool.not_eq_true'] at q
    refine ⟨?_, q.1.2, q.2⟩
    have q1 := q.1.1
    split at q1 <;> first | exact .inl (by assumption) | exact .inr (.inl (by assumption)) | exact .inr (.inr (by assumption)) | cases q1
  · have q := h.2 x (List.mem_of_getElem? hj)
    refine ⟨?_, q.2⟩
    have q1 := q.1
    split at q1 <;> first | assumption | cases q1
/-- the element's reading, whatever block it is -/
def wB (X : Cx) (scope : Scope) (e : Expr) : TE := fun σ H Q => ∀ (s0 : Shared) (H0 : Hp) (C : Addr) (cl : List (Str × Addr)) (fp : List Addr), wE (X.blk s0 H0 scope (compEnvC scope cl C X.env) fp) e σ H Q
def wBs (X : Cx) (scope : Scope) (ifs : List Expr) : TT := fun σ H Q => ∀ (s0 : Shared) (H0 : Hp) (C : Addr) (cl : List (Str × Addr)) (fp : List Addr), ∀ pins s, Inv (X.blk s0 H0 scope (compEnvC scope cl C X.env) fp) pins σ H s →
  wpAny (model X.prog X.w) X.A (isTrue (ifs.headD (.Constant .none 0 default)) (compEnvC scope cl C X.env) (eval (ifs.headD (.Constant .none 0 default)) (compEnvC scope cl C X.env))) (TP (X.blk s0 H0 scope (compEnvC scope cl C X.env) fp) pins σ Q) (fun _ _ => False) s
def EB (X : Cx) (E : Ent) (ω : List Cell) (δ : DE) (scope : Scope) (e : Expr) (R : D → Prop) : Prop := ∀ (s0 : Shared) (H0 : Hp) (C : Addr) (cl : List (Str × Addr)) (fp : List Addr), EV (X.blk s0 H0 scope (compEnvC scope cl C X.env) fp) E ω δ e R
theorem EB.re {scope : Scope} (h : EB X E ω δ scope e R) : RE X.K E ω δ (wB X scope e) R := fun σ G H Q ok en k s0 H0 C cl fp => h s0 H0 C cl fp σ G H Q ok en k
def wipeD (δ : DE) : List Nat → DE
  | [] => δ
  | v :: vs => (wipeD δ vs).set v none
theorem EnvR.wipe {K : PySem.W.Frag} {G : Hp} {δ : DE} {σ : L2.St} (h : EnvR K G δ σ) : ∀ (vs : List Nat), EnvR K G (wipeD δ vs) (L2.wipe σ vs)
  | [] => h
  | v :: vs => by
    have ih := EnvR.wipe h vs
    unfold wipeD L2.wipe
    refine ⟨by simp [ih.1], fun i d q => ?_⟩
    by_cases hi : v = i
    · subst hi
      by_cases hv : v < (wipeD δ vs).length
      · rw [List.getElem?_set_self hv] at q; cases q
      · rw [List.getElem?_eq_none (by simpa using hv)] at q; cases q
    · rw [List.getElem?_set_ne hi] at q ⊢
      exact ih.2 i d q
theorem EnvR.own {K : PySem.W.Frag} {G : Hp} {ds : List D} {p : Addr} {vs : List V} (h : (Cell.own K p ds).P G (.lst vs)) : RepL K G ds vs := by
  obtain ⟨ws, e, r⟩ := h
  cases e
  exact r
/-- [e for x in a list], e by each item; what the element gives may depend on the item's place -/
theorem ev_lcL {i0 : Nat} {x : Str} {px : Pos} {elt : Expr} {scope : Scope} (hc : X.calm = true) (nd : X.N.Nodup) (hN : X.N[i0]? = some x) (bk : BlkOk X.N X.env.scope scope [(x, i0)])
    (hg : ∀ (s : Shared) (H : Hp) (C : Addr) (cl : List (Str × Addr)) (fp : List Addr), PG (X.blk s H scope (compEnvC scope cl C X.env) fp) (.Name x px) (gName i0))
    (h : EV X E ω δ it fun d => ∃ ds es : List D, d = .lst ds ∧ ds.length ≤ 100000 ∧ es.length = ds.length ∧ (∀ (i : Nat) (d : D) (ω' : List Cell), ds[i]? = some d → EB X E ω' ((δ.set i0 none).set i0 (some d)) scope elt fun r => es[i]? = some r) ∧ R (.lst es))
    (hs : ∀ x, foldedSetIterable it X.env x = pure x := by intro _; rfl) : EV X E ω δ (.ListComp elt [⟨.Name x px, it, [], 0⟩] scope pos) R :=
  ev_of (pe_lc (own := [(x, i0)]) (g := gName i0) (tt := tYes) (te := wB X scope elt) hc nd (pi_list wE_pe) bk hg (fun _ _ _ _ _ => pts_nil) (fun s0 H0 C cl fp => ⟨fun pins s σ H Q I hw => hw s0 H0 C cl fp pins s I⟩) hs) fun σ G H Q ok en k => h σ G H _ ok en fun v d G1 H1 q ok1 s1 r1 => by
    obtain ⟨ds, es, e1, hz, hl, hel, hr⟩ := q
    subst e1
    cases r1 with
    | @lst p vs _ hq rl =>
      have hlv := rl.length
      refine ⟨p, rfl, ⟨vs, ok1.gh.seq hq⟩, fun L hL => ?_⟩
      refine lc_list (xs := vs) (fun i H' => ∃ G', SOk E (Cell.own X.K L (es.take i) :: ω) G' H' ∧ Same G1 G') ?_ (fun i H' _ hw => ?_) (fun i y H' hy hw => ?_) (fun H' hw => ?_)
      · exact ⟨G1, ok1.cell (c := Cell.own X.K L (es.take 0)) hL ⟨[], rfl, .nil⟩, Same.refl G1⟩
      · obtain ⟨G', ok', s'⟩ := hw
        exact ok'.gh.seq (s'.seq hq)
      · obtain ⟨G', ok', s'⟩ := hw
        obtain ⟨d, hd, rd⟩ := rl.get' hy
        have en2 : EnvR X.K G' ((δ.set i0 none).set i0 (some d)) ((wipe σ [i0]).set i0 (some y)) := ((en.mono (s1.trans s')).wipe [i0]).set (rd.mono s')
        refine ⟨?_, ?_⟩
        · show wipe ((wipe σ [i0]).set i0 (some y)) [i0] = wipe σ [i0]
          show ((((σ.set i0 none)).set i0 (some y)).set i0 none) = σ.set i0 none
          rw [List.set_set, List.set_set]
        · show wB X scope elt ((wipe σ [i0]).set i0 (some y)) H' fun y H4 => ∃ acc, H4 L = some (HO.lst acc) ∧ acc.length < sizeLine ∧ ∃ G', SOk E (Cell.own X.K L (List.take (i + 1) es) :: ω) G' (upd H4 L (HO.lst (acc ++ [y]))) ∧ Same G1 G'
          refine (hel i d _ hd).re _ G' H' _ ok' en2 fun w r G2 H2 hr2 ok2 s2 rw2 => ?_
          obtain ⟨g0, o, ho, hP⟩ := ok2.cs _ List.mem_cons_self
          obtain ⟨ws, eo, rws⟩ := hP
          subst eo
          have hi : i < ds.length := (List.getElem?_eq_some_iff.mp hd).1
          refine ⟨ws, ho, ?_, G2, ?_, s'.trans s2⟩
          · rw [← rws.length, List.length_take]
            exact Nat.lt_of_le_of_lt (Nat.le_trans (Nat.min_le_left _ _) (Nat.le_trans (Nat.le_of_lt hi) hz)) (by decide)
          · exact ok2.put (ω1 := []) (c := Cell.own X.K L (es.take i)) (c' := Cell.own X.K L (es.take (i + 1))) rfl rfl ⟨_, rfl, by
              rw [List.take_add_one, hr2]
              exact rws.append (.one rw2)⟩
      · obtain ⟨G', ok', s'⟩ := hw
        rw [← hlv, ← hl, List.take_length] at ok'
        obtain ⟨o, G2, ho, hP, g2, s2, ok2⟩ := ok'.freeze (ω1 := []) (c := Cell.own X.K L es) rfl (ok1.al _ hL)
        obtain ⟨ws, eo, rws⟩ := hP
        subst eo
        exact k _ _ G2 H' hr ok2 ((s1.trans s').trans s2) (.lst (SqL.of g2) (rws.mono s2))
end
end DL

set_option Elab.async false
set_option linter.all false
set_option maxRecDepth 100000
set_option maxHeartbeats 2000000
/-! The same rules where all that is known of the frame stands in one instance. -/
namespace DL
open PySem L2 PyProof.Rows

structure CtxI where
  P : Program
  w : World
  K : PySem.W.Frag
  mg : Str → Option Value
  base : Heap
  nv : Nat
  N : List Str
  Gs : List Str
  k : Nat
  is : Option (List Nat)
def CtxI.vis (C : CtxI) (i : Nat) : Bool := match C.is with
  | none => Nat.blt i C.nv
  | some l => l.contains i
class XOk (X : Cx) (C : outParam CtxI) : Prop where
  prog : X.prog = C.P
  w : X.w = C.w
  K : X.K = C.K
  mg : X.mg = C.mg
  base : X.base = C.base
  N : X.N = C.N
  calm : X.calm = true
  nm : ∀ (i : Nat) (x : Str), C.N[i]? = some x → C.vis i = true → Vis X.env.scope x ∧ (x == ("__debug__" : Str)) = false ∧ (x == ("__classdict__" : Str)) = false
  gl : GlobOk C.Gs X.env.scope
  room : Room C.k X.A
  lo : C.is = none → LocOk C.nv X.N X.env.scope
  fn : C.is = none → ∀ x, X.fn x = true
  kind : C.is = none → X.env.scope.kind = .function
  ps : PassesOwn (model X.prog X.w) X.A X.env X.xe
section
variable {X : Cx} {C : CtxI} [hx : XOk X C] {E : Ent} {ω : List Cell} {δ : DE} {nx : List Cell → DE → Prop} {rt : List Cell → D → Prop} {bk ct : List Cell → DE → Prop} {R : D → Prop} {RB : Bool → Prop} {a b c e it tg : Expr} {pos : Pos} {body st1 st2 rest : List Stmt} {st : Stmt}
omit hx in
theorem w_nil (h : nx ω δ) : BV X E ω δ [] ⟨nx, rt, bk, ct⟩ := bv_nil h
omit hx in
theorem w_cons (h : SV X E ω δ st ⟨fun ω' δ' => BV X E ω' δ' rest ⟨nx, rt, bk, ct⟩, rt, bk, ct⟩) : BV X E ω δ (st :: rest) ⟨nx, rt, bk, ct⟩ := bv_cons h
omit hx in
theorem w_ret (h : EV X E ω δ e fun d => rt ω d) : SV X E ω δ (.Return (some e) pos) ⟨nx, rt, bk, ct⟩ := sv_ret h
omit hx in
theorem w_retN (h : rt ω .non) : SV X E ω δ (.Return none pos) ⟨nx, rt, bk, ct⟩ := sv_retN h
omit hx in
theorem w_pass (h : nx ω δ) : SV X E ω δ (.Pass pos) ⟨nx, rt, bk, ct⟩ := sv_pass h
omit hx in
theorem w_expr (h : EV X E ω δ e fun _ => nx ω δ) (hs : swapsWith e none pos.line X.env = pure false := by rfl) : SV X E ω δ (.Expr e pos) ⟨nx, rt, bk, ct⟩ := sv_expr h hs
omit hx in
theorem w_if (h : ET X E ω δ c fun p => (p = true → BV X E ω δ st1 ⟨nx, rt, bk, ct⟩) ∧ (p = false → BV X E ω δ st2 ⟨nx, rt, bk, ct⟩)) : SV X E ω δ (.If c st1 st2 pos) ⟨nx, rt, bk, ct⟩ := sv_if h
theorem w_name (i : Nat) {x : Str} {d : D} (hN : C.N[i]? = some x) (hv : C.vis i = true) (hδ : δ[i]? = some (some d)) (h : R d) : EV X E ω δ (.Name x pos) R :=
  ev_of (pe_var (by rw [hx.N]; exact hN) (hx.nm i x hN hv).1 (hx.nm i x hN hv).2.1 (hx.nm i x hN hv).2.2) fun σ G H Q ok en k => let ⟨v, e1, r⟩ := en.2 i d hδ; ⟨v, e1, k v d G H h ok (Same.refl G) r⟩
theorem w_glob (j : Nat) {x : Str} {v : V} {u : Value} (hm : C.mg x = some u) (r : RelV v u) (hj : C.Gs[j]? = some x) (h : R (.s v)) : EV X E ω δ (.Name x pos) R := ev_glob hx.gl hj (by rw [hx.mg]; exact hm) r h
theorem w_ty (j : Nat) {x : Str} {n : String} (hm : C.mg x = none) (hv : bootBuiltins x = some (.type n)) (hn : x ≠ "__name__") (hj : C.Gs[j]? = some x) (h : R (.s (.ty n))) : EV X E ω δ (.Name x pos) R := ev_bltn hx.gl hj (by rw [hx.mg]; exact hm) hv (show RelV (.ty n) (.type n) from rfl) hn h
theorem w_asg (i : Nat) {x : Str} {pos' : Pos} (hf : C.is = none) (hv : Nat.blt i C.nv = true) (hi : C.N[i]? = some x) (h : EV X E ω δ e fun d => nx ω (δ.set i (some d))) (hs : swapsWith e (some (.Name x pos')) pos.line X.env = pure false := by rfl) : SV X E ω δ (.Assign [.Name x pos'] e pos) ⟨nx, rt, bk, ct⟩ :=
  sv_asg (hx.lo hf) hv (by rw [hx.N]; exact hi) h hs (.inl (hx.fn hf x))
theorem w_call (j : Nat) {x : Str} {k0 : Nat} {spec : SpecD} {es : List Expr} {p : Pos} (F : Kn C.P C.w C.K C.mg C.base CX0 x k0 (spP C.K spec)) (hk : Nat.ble k0 C.k = true) (hj : C.Gs[j]? = some x) (h : EA X E ω δ (e :: es) fun ds => spec ds R)
    (he : starEach (e :: es) X.env = (false, eval e X.env) :: starEach es X.env := by rfl) (hpl : (backTo pos (starEach es X.env)).any (·.1) = false := by rfl) : EV X E ω δ (.Call (.Name x p) (e :: es) [] pos) R :=
  ev_call (spec := spec) (by rw [hx.prog, hx.w, hx.K, hx.mg, hx.base]; exact F) (hx.room.mono (Nat.le_of_ble_eq_true hk)) hx.gl hj h he hpl
theorem w_callW (j : Nat) {x : Str} {k0 : Nat} {T : List (Addr × Str)} {cells : List D → List Cell} {spec : SpecD} {es : List Expr} {p : Pos} (F : Kn C.P C.w C.K C.mg C.base CX0 x k0 (spG C.K T cells spec)) (hk : Nat.ble k0 C.k = true) (hj : C.Gs[j]? = some x)
    (h : EA X E ω δ (e :: es) fun ds => (cells ds).Sublist ω ∧ (T = [] ∨ T = E.T) ∧ spec ds R)
    (he : starEach (e :: es) X.env = (false, eval e X.env) :: starEach es X.env := by rfl) (hpl : (backTo pos (starEach es X.env)).any (·.1) = false := by rfl) : EV X E ω δ (.Call (.Name x p) (e :: es) [] pos) R :=
  ev_callW (T := T) (cells := cells) (spec := spec) (by rw [hx.prog, hx.w, hx.K, hx.mg, hx.base]; exact F) (hx.room.mono (Nat.le_of_ble_eq_true hk)) hx.gl hj h he hpl
theorem w_isi (j : Nat) {p : Pos} (hm : C.mg "isinstance" = none) (hj : C.Gs[j]? = some "isinstance")
    (h : EV X E ω δ a fun dx => EV X E ω δ b fun dc => ∃ cv t u r, dc = .s cv ∧ ClsV cv u ∧ TyD C.K dx t ∧ PySem.W.kitOne C.K t u = some r ∧ R (.bl r))
    (he : starEach [a, b] X.env = (false, eval a X.env) :: starEach [b] X.env := by rfl) (he2 : starEach [b] X.env = (false, eval b X.env) :: starEach [] X.env := by rfl) (hpl : (backTo pos (starEach [b] X.env)).any (·.1) = false := by rfl) : EV X E ω δ (.Call (.Name "isinstance" p) [a, b] [] pos) R :=
  ev_isi hx.gl hj (by rw [hx.mg]; exact hm) (by rw [hx.K]; exact h) he he2 hpl
theorem w_isi2 (j : Nat) {jt : Nat} {p pt : Pos} (hm : C.mg "isinstance" = none) (hj : C.Gs[j]? = some "isinstance")
    (h : EV X E ω δ a fun dx => EV X E ω δ b fun dc => EV X E ω δ c fun dc2 => ∃ cv cv2 t u u2 r, dc = .s cv ∧ dc2 = .s cv2 ∧ ClsV cv u ∧ ClsV cv2 u2 ∧ TyD C.K dx t ∧ PySem.W.kitAny C.K t [u, u2] = some r ∧ R (.bl r))
    (he : starEach [a, .Tuple [b, c] jt pt] X.env = (false, eval a X.env) :: starEach [.Tuple [b, c] jt pt] X.env := by rfl) (he2 : starEach [.Tuple [b, c] jt pt] X.env = (false, eval (.Tuple [b, c] jt pt) X.env) :: starEach [] X.env := by rfl)
    (he3 : starEach [b, c] X.env = (false, eval b X.env) :: starEach [c] X.env := by rfl) (he4 : starEach [c] X.env = (false, eval c X.env) :: starEach [] X.env := by rfl) (hpl : (backTo pos (starEach [.Tuple [b, c] jt pt] X.env)).any (·.1) = false := by rfl) :
    EV X E ω δ (.Call (.Name "isinstance" p) [a, .Tuple [b, c] jt pt] [] pos) R := ev_isi2 hx.gl hj (by rw [hx.mg]; exact hm) (by rw [hx.K]; exact h) he he2 he3 he4 hpl
theorem w_len (j : Nat) {p : Pos} (hm : C.mg "len" = none) (hj : C.Gs[j]? = some "len") (h : EV X E ω δ a fun d => ∃ ds, d.items = some ds ∧ R (.int ds.length))
    (he : starEach [a] X.env = (false, eval a X.env) :: starEach [] X.env := by rfl) (hpl : (backTo pos (starEach [] X.env)).any (·.1) = false := by rfl) : EV X E ω δ (.Call (.Name "len" p) [a] [] pos) R := ev_len hx.gl hj (by rw [hx.mg]; exact hm) h he hpl
theorem w_abs (j : Nat) {p : Pos} (hm : C.mg "abs" = none) (hj : C.Gs[j]? = some "abs") (h : EV X E ω δ a fun d => ∃ i, d = .int i ∧ R (.int (i.natAbs : Int)))
    (he : starEach [a] X.env = (false, eval a X.env) :: starEach [] X.env := by rfl) (hpl : (backTo pos (starEach [] X.env)).any (·.1) = false := by rfl) : EV X E ω δ (.Call (.Name "abs" p) [a] [] pos) R := ev_abs hx.gl hj (by rw [hx.mg]; exact hm) h he hpl
theorem w_int (j : Nat) {p : Pos} (hm : C.mg "int" = none) (hj : C.Gs[j]? = some "int") (h : EV X E ω δ a fun d => (∃ i, d = .int i ∧ R (.int i)) ∨ ∃ b, d = .bl b ∧ R (.int (if b = true then 1 else 0)))
    (he : starEach [a] X.env = (false, eval a X.env) :: starEach [] X.env := by rfl) (hpl : (backTo pos (starEach [] X.env)).any (·.1) = false := by rfl) : EV X E ω δ (.Call (.Name "int" p) [a] [] pos) R := ev_intI hx.gl hj (by rw [hx.mg]; exact hm) h he hpl
theorem w_min (j : Nat) {p : Pos} (hm : C.mg "min" = none) (hj : C.Gs[j]? = some "min") (h : EV X E ω δ a fun d => EV X E ω δ b fun d2 => ∃ i j, d = .int i ∧ d2 = .int j ∧ R (.int (min i j)))
    (he : starEach [a, b] X.env = (false, eval a X.env) :: starEach [b] X.env := by rfl) (he2 : starEach [b] X.env = (false, eval b X.env) :: starEach [] X.env := by rfl) (hpl : (backTo pos (starEach [b] X.env)).any (·.1) = false := by rfl) : EV X E ω δ (.Call (.Name "min" p) [a, b] [] pos) R := ev_min2 hx.calm hx.gl hj (by rw [hx.mg]; exact hm) h he he2 hpl
theorem w_max (j : Nat) {p : Pos} (hm : C.mg "max" = none) (hj : C.Gs[j]? = some "max") (h : EV X E ω δ a fun d => EV X E ω δ b fun d2 => ∃ i j, d = .int i ∧ d2 = .int j ∧ R (.int (max i j)))
    (he : starEach [a, b] X.env = (false, eval a X.env) :: starEach [b] X.env := by rfl) (he2 : starEach [b] X.env = (false, eval b X.env) :: starEach [] X.env := by rfl) (hpl : (backTo pos (starEach [b] X.env)).any (·.1) = false := by rfl) : EV X E ω δ (.Call (.Name "max" p) [a, b] [] pos) R := ev_max2 hx.calm hx.gl hj (by rw [hx.mg]; exact hm) h he he2 hpl
theorem w_tuple (j : Nat) {p : Pos} (hm : C.mg "tuple" = none) (hj : C.Gs[j]? = some "tuple") (h : EV X E ω δ a fun d => ∃ ds, d = .lst ds ∧ R (.tup ds))
    (he : starEach [a] X.env = (false, eval a X.env) :: starEach [] X.env := by rfl) (hpl : (backTo pos (starEach [] X.env)).any (·.1) = false := by rfl) : EV X E ω δ (.Call (.Name "tuple" p) [a] [] pos) R := ev_tuple hx.gl hj (by rw [hx.mg]; exact hm) h he hpl
theorem w_list (j : Nat) {p : Pos} (hm : C.mg "list" = none) (hj : C.Gs[j]? = some "list") (h : EV X E ω δ a fun d => ∃ ds, d.items = some ds ∧ R (.lst ds))
    (he : starEach [a] X.env = (false, eval a X.env) :: starEach [] X.env := by rfl) (hpl : (backTo pos (starEach [] X.env)).any (·.1) = false := by rfl) : EV X E ω δ (.Call (.Name "list" p) [a] [] pos) R := ev_list hx.gl hj (by rw [hx.mg]; exact hm) h he hpl
theorem w_all (j : Nat) {p : Pos} (hm : C.mg "all" = none) (hj : C.Gs[j]? = some "all") (h : EV X E ω δ a fun d => ∃ bs : List Bool, d = .lst (bs.map D.bl) ∧ R (.bl (bs.all id)))
    (he : starEach [a] X.env = (false, eval a X.env) :: starEach [] X.env := by rfl) (hpl : (backTo pos (starEach [] X.env)).any (·.1) = false := by rfl) : EV X E ω δ (.Call (.Name "all" p) [a] [] pos) R := ev_all hx.calm hx.gl hj (by rw [hx.mg]; exact hm) h he hpl
theorem w_fld {f : Str} (h : EV X E ω δ a fun x => ∃ A fs d, x = .ins A fs ∧ Cls C.K A ∧ NoAttr C.K A f ∧ fs.lookup f = some d ∧ R d) (hb : attributeBase a f X.env (eval a X.env) = eval a X.env := by rfl) : EV X E ω δ (.Attribute a f pos) R := ev_fld (by rw [hx.K]; exact h) hb
include hx in
theorem w_while (W : Nat → List Cell → DE → Prop) (m0 : Nat) (h0 : W m0 ω δ)
    (h : ∀ m ω δ, W m ω δ → ET X E ω δ c fun p => (p = true → BV X E ω δ body ⟨fun ω' δ' => ∃ m', m' < m ∧ W m' ω' δ', rt, nx, fun ω' δ' => ∃ m', m' < m ∧ W m' ω' δ'⟩) ∧ (p = false → nx ω δ)) : SV X E ω δ (.While c body [] pos) ⟨nx, rt, bk, ct⟩ := sv_while hx.ps W m0 h0 h
theorem w_forL (j : Nat) {x : Str} {px : Pos} (hf : C.is = none) (hv : Nat.blt j C.nv = true) (hj : C.N[j]? = some x)
    (h : EV X E ω δ it fun d => ∃ ds, d = .lst ds ∧ ∃ Pv : Nat → List Cell → DE → Prop, Pv 0 ω δ ∧
      (∀ i d ω' δ', ds[i]? = some d → Pv i ω' δ' → BV X E ω' (δ'.set j (some d)) body ⟨Pv (i + 1), rt, nx, Pv (i + 1)⟩) ∧ (∀ ω' δ', Pv ds.length ω' δ' → nx ω' δ'))
    (hs : ∀ x, foldedSetIterable it X.env x = pure x := by intro _; rfl) : SV X E ω δ (.For (.Name x px) it body [] pos) ⟨nx, rt, bk, ct⟩ := sv_forL hx.ps hx.calm (hx.lo hf) hv (by rw [hx.N]; exact hj) h (.inl (hx.fn hf x)) hs
theorem w_forR1 (j jr : Nat) {x : Str} {px p pc : Pos} (hf : C.is = none) (hv : Nat.blt j C.nv = true) (hj : C.N[j]? = some x) (hm : C.mg "range" = none) (hjr : C.Gs[jr]? = some "range")
    (h : EV X E ω δ a fun d => ∃ n : Int, d = .int n ∧ n < 2 ^ 62 ∧ -(2 ^ 62) ≤ n ∧ ∃ Pv : Nat → List Cell → DE → Prop, Pv 0 ω δ ∧
      (∀ i ω' δ', i < n.toNat → Pv i ω' δ' → BV X E ω' (δ'.set j (some (.int (i : Int)))) body ⟨Pv (i + 1), rt, nx, Pv (i + 1)⟩) ∧ (∀ ω' δ', Pv n.toNat ω' δ' → nx ω' δ'))
    (hs : ∀ x, foldedSetIterable (.Call (.Name "range" p) [a] [] pc) X.env x = pure x := by intro _; rfl) (hs2 : starEach [a] X.env = [(false, eval a X.env)] := by rfl) : SV X E ω δ (.For (.Name x px) (.Call (.Name "range" p) [a] [] pc) body [] pos) ⟨nx, rt, bk, ct⟩ :=
  sv_forR1 hx.ps hx.calm (hx.lo hf) hv (by rw [hx.N]; exact hj) hx.gl hjr (by rw [hx.mg]; exact hm) h (.inl (hx.fn hf x)) hs hs2
theorem w_unpack (is : List Nat) {es : List Expr} {j : Nat} {pt : Pos} (hf : C.is = none) (hn : NamesAt C.nv C.N es is) (hk : es.length = is.length) (h : EV X E ω δ e fun d => ∃ ds, d = .tup ds ∧ ds.length = is.length ∧ nx ω (setAll δ is ds))
    (hl : (assignEach es X.env).length = es.length) (hst : (assignEach es X.env).findIdx? (·.1) = none)
    (hs : swapsWithSole [.Tuple es j pt] e pos.line X.env = pure false) (hw : swappedStores [.Tuple es j pt] e X.env = pure none)
    (h1 : (assignEach [.Tuple es j pt] X.env).map (·.2) = [assign (.Tuple es j pt) X.env]) : SV X E ω δ (.Assign [.Tuple es j pt] e pos) ⟨nx, rt, bk, ct⟩ :=
  sv_unpack (hx.lo hf) (hx.fn hf) hx.calm (by rw [hx.N]; exact hn) h (by rw [← hk]; exact pg_tup hx.calm (pgs_names (hx.lo hf) (hx.fn hf) (by rw [hx.N]; exact hn)) hl hst) hs hw h1
theorem w_unpack2 (i1 i2 : Nat) {x1 x2 : Str} {p1 p2 : Pos} {j : Nat} {pt : Pos} (hf : C.is = none) (v1 : Nat.blt i1 C.nv = true) (v2 : Nat.blt i2 C.nv = true) (n1 : C.N[i1]? = some x1) (n2 : C.N[i2]? = some x2)
    (h : EV X E ω δ e fun d => ∃ d1 d2, d = .tup [d1, d2] ∧ nx ω ((δ.set i1 (some d1)).set i2 (some d2)))
    (hs : swapsWithSole [.Tuple [.Name x1 p1, .Name x2 p2] j pt] e pos.line X.env = pure false := by rfl) (hw : swappedStores [.Tuple [.Name x1 p1, .Name x2 p2] j pt] e X.env = pure none := by rfl) :
    SV X E ω δ (.Assign [.Tuple [.Name x1 p1, .Name x2 p2] j pt] e pos) ⟨nx, rt, bk, ct⟩ :=
  w_unpack [i1, i2] hf (.cons v1 n1 (.cons v2 n2 .nil)) rfl (h.imp fun d ⟨d1, d2, e1, q⟩ => ⟨[d1, d2], e1, rfl, q⟩) rfl rfl hs hw rfl
theorem w_unpack3 (i1 i2 i3 : Nat) {x1 x2 x3 : Str} {p1 p2 p3 : Pos} {j : Nat} {pt : Pos} (hf : C.is = none) (v1 : Nat.blt i1 C.nv = true) (v2 : Nat.blt i2 C.nv = true) (v3 : Nat.blt i3 C.nv = true) (n1 : C.N[i1]? = some x1) (n2 : C.N[i2]? = some x2) (n3 : C.N[i3]? = some x3)
    (h : EV X E ω δ e fun d => ∃ d1 d2 d3, d = .tup [d1, d2, d3] ∧ nx ω (((δ.set i1 (some d1)).set i2 (some d2)).set i3 (some d3)))
    (hs : swapsWithSole [.Tuple [.Name x1 p1, .Name x2 p2, .Name x3 p3] j pt] e pos.line X.env = pure false := by rfl) (hw : swappedStores [.Tuple [.Name x1 p1, .Name x2 p2, .Name x3 p3] j pt] e X.env = pure none := by rfl) :
    SV X E ω δ (.Assign [.Tuple [.Name x1 p1, .Name x2 p2, .Name x3 p3] j pt] e pos) ⟨nx, rt, bk, ct⟩ :=
  w_unpack [i1, i2, i3] hf (.cons v1 n1 (.cons v2 n2 (.cons v3 n3 .nil))) rfl (h.imp fun d ⟨d1, d2, d3, e1, q⟩ => ⟨[d1, d2, d3], e1, rfl, q⟩) rfl rfl hs hw rfl
theorem w_unpack4 (i1 i2 i3 i4 : Nat) {x1 x2 x3 x4 : Str} {p1 p2 p3 p4 : Pos} {j : Nat} {pt : Pos} (hf : C.is = none) (v1 : Nat.blt i1 C.nv = true) (v2 : Nat.blt i2 C.nv = true) (v3 : Nat.blt i3 C.nv = true) (v4 : Nat.blt i4 C.nv = true) (n1 : C.N[i1]? = some x1) (n2 : C.N[i2]? = some x2) (n3 : C.N[i3]? = some x3) (n4 : C.N[i4]? = some x4)
    (h : EV X E ω δ e fun d => ∃ d1 d2 d3 d4, d = .tup [d1, d2, d3, d4] ∧ nx ω ((((δ.set i1 (some d1)).set i2 (some d2)).set i3 (some d3)).set i4 (some d4)))
    (hs : swapsWithSole [.Tuple [.Name x1 p1, .Name x2 p2, .Name x3 p3, .Name x4 p4] j pt] e pos.line X.env = pure false := by rfl) (hw : swappedStores [.Tuple [.Name x1 p1, .Name x2 p2, .Name x3 p3, .Name x4 p4] j pt] e X.env = pure none := by rfl) :
    SV X E ω δ (.Assign [.Tuple [.Name x1 p1, .Name x2 p2, .Name x3 p3, .Name x4 p4] j pt] e pos) ⟨nx, rt, bk, ct⟩ :=
  w_unpack [i1, i2, i3, i4] hf (.cons v1 n1 (.cons v2 n2 (.cons v3 n3 (.cons v4 n4 .nil)))) rfl (h.imp fun d ⟨d1, d2, d3, d4, e1, q⟩ => ⟨[d1, d2, d3, d4], e1, rfl, q⟩) rfl rfl hs hw rfl
omit hx in
/-- a call as a test -/
theorem et_call {fe : Expr} {es : List Expr} {kws : List Keyword} (h : EV X E ω δ (.Call fe es kws pos) fun d => ∃ p, d = .bl p ∧ RB p) : ET X E ω δ (.Call fe es kws pos) RB := et_val (by intro _; rfl) h
omit hx in
theorem et_name {x : Str} (h : EV X E ω δ (.Name x pos) fun d => ∃ p, d = .bl p ∧ RB p) : ET X E ω δ (.Name x pos) RB := et_val (by intro _; rfl) h
/-- a < b < c, as a test -/
theorem w_chainLL (h : EV X E ω δ a fun x => EV X E ω δ b fun y => ∃ i j : Int, x = .int i ∧ y = .int j ∧ (decide (i ≤ j) = false → RB false) ∧ (decide (i ≤ j) = true → EV X E ω δ c fun z => ∃ l : Int, z = .int l ∧ RB (decide (j ≤ l)))) (hm : lastMarks [CmpOp.LtE, CmpOp.LtE] [b, c] = false := by rfl) : ET X E ω δ (.Compare a [.LtE, .LtE] [b, c] pos) RB :=
  et_chain (g := fun i j => decide (i ≤ j)) (g' := fun i j => decide (i ≤ j)) op_le op_le (pt_chain op_le op_le wE_pe wE_pe wE_pe (hm := hm)) h
theorem w_chainLT (h : EV X E ω δ a fun x => EV X E ω δ b fun y => ∃ i j : Int, x = .int i ∧ y = .int j ∧ (decide (i ≤ j) = false → RB false) ∧ (decide (i ≤ j) = true → EV X E ω δ c fun z => ∃ l : Int, z = .int l ∧ RB (decide (j < l)))) (hm : lastMarks [CmpOp.LtE, CmpOp.Lt] [b, c] = false := by rfl) : ET X E ω δ (.Compare a [.LtE, .Lt] [b, c] pos) RB :=
  et_chain (g := fun i j => decide (i ≤ j)) (g' := fun i j => decide (i < j)) op_le op_lt (pt_chain op_le op_lt wE_pe wE_pe wE_pe (hm := hm)) h
theorem sw_names {env : Env} {x y : Str} {px py pt pt2 : Pos} {kt k2 : Nat} {e1 e2 : Expr} (hk : env.scope.kind = .function) (hx : env.scope.names.lookup x = some .local) (hy : env.scope.names.lookup y = some .local) (hxy : (x == y) = false) (hl : (py.line == px.line) = true)
    (h1 : ([e1, e2].any fun | .Starred .. => true | _ => false) = false) (h3 : [e1, e2].all (foldedForSure 8) = false) (h4 : [e1, e2].all (constantsAlone 8) = false) :
    swappedStores [.Tuple [.Name x px, .Name y py] kt pt] (.Tuple [e1, e2] k2 pt2) env = pure (some [x, y]) := by
  have kx : env.kindOf x = some .local := hx
  have ky : env.kindOf y = some .local := hy
  have kb : env.blockKind = .function := by unfold Env.blockKind; rw [hk]; rfl
  have hyx : (y == x) = false := beq_eq_false_iff_ne.mpr (Ne.symm (beq_eq_false_iff_ne.mp hxy))
  have hn : ([Expr.Name x px, Expr.Name y py].filterMap fun
    | .Name id pos => if env.kindOf id == some .local && pos.line == px.line then some id else none
    | _ => none) = [x, y] := by
    have hl' : py.line = px.line := by simpa using hl
    simp [List.filterMap_cons, kx, ky, hl']
  have hd : [x, y].eraseDups = [x, y] := by
    simp [List.eraseDups_cons, hyx]
  simp only [swappedStores]
  generalize hz : List.filterMap _ [Expr.Name x px, Expr.Name y py] = z
  have ez : z = [x, y] := hz.symm.trans hn
  subst ez
  rw [if_neg (by simp [kb])]
  refine (if_neg (fun z => absurd (h1.symm.trans z) (by decide))).trans ?_
  rw [if_neg (by rw [hd]; simp), if_neg (by rw [h3]; decide), if_neg (by rw [h4]; decide)]
section
variable {X : Cx} {C : CtxI} [hx : XOk X C] {E : Ent} {ω : List Cell} {δ : DE} {nx : List Cell → DE → Prop} {rt : List Cell → D → Prop} {bk ct : List Cell → DE → Prop} {R : D → Prop} {a b c e it tg : Expr} {pos : Pos} {body : List Stmt}
/-- a, b = e1, e2 with names of the def -/
theorem w_par (i j : Nat) {x y : Str} {px py pt pt2 : Pos} {kt k2 : Nat} (hf : C.is = none) (hi : C.N[i]? = some x) (hj : C.N[j]? = some y) (hij : i ≠ j) (hlx : X.env.scope.names.lookup x = some .local) (hly : X.env.scope.names.lookup y = some .local)
    (h : EV X E ω δ a fun d => EV X E ω δ b fun d2 => nx ω ((δ.set i (some d)).set j (some d2)))
    (hl : (py.line == px.line) = true) (h1 : ([a, b].any fun | .Starred .. => true | _ => false) = false) (h3 : [a, b].all (foldedForSure 8) = false) (h4 : [a, b].all (constantsAlone 8) = false)
    (hs : swapsWithSole [.Tuple [.Name x px, .Name y py] kt pt] (.Tuple [a, b] k2 pt2) pos.line X.env = pure false := by rfl)
    (he : starEach [a, b] X.env = (false, eval a X.env) :: starEach [b] X.env := by rfl) (he2 : starEach [b] X.env = (false, eval b X.env) :: starEach [] X.env := by rfl) :
    SV X E ω δ (.Assign [.Tuple [.Name x px, .Name y py] kt pt] (.Tuple [a, b] k2 pt2) pos) ⟨nx, rt, bk, ct⟩ := by
  have nd := (hx.lo hf).nd
  have hxi : X.N[i]? = some x := by rw [hx.N]; exact hi
  have hxj : X.N[j]? = some y := by rw [hx.N]; exact hj
  have hxy : (x == y) = false := by
    rw [beq_eq_false_iff_ne]
    intro z
    subst z
    exact hij (nodup_ix nd hxi hxj)
  refine sv_of (ps_par hx.calm nd hxi hxj hij hlx hly wA_pa (sw_names (hx.kind hf) hlx hly hxy hl h1 h3 h4) hs) fun σ G H D ok en k => ?_
  have hA : EA X E ω δ [a, b] fun ds => ∃ d d2, ds = [d, d2] ∧ nx ω ((δ.set i (some d)).set j (some d2)) := ea_cons (h.imp fun d q => ea_cons (q.imp fun d2 q2 => ea_nil ⟨d, d2, rfl, q2⟩) he2) he
  refine hA σ G H _ ok en fun vs ds G1 H1 q ok1 s1 r1 => ?_
  obtain ⟨d, d2, rfl, q⟩ := q
  cases r1 with
  | cons r1 r2 =>
    cases r2 with
    | cons r2 r3 =>
      cases r3
      exact ⟨_, _, rfl, k.nx ω _ _ G1 H1 q ok1 s1 (((en.mono s1).set r1).set r2)⟩
end

/-! ### a def by its body, the frame told by one instance -/
section
variable {P : Program} {w : World} {K : PySem.W.Frag} {mg : Str → Option Value} {base : Heap} {x qual : Str} {params : Arguments} {body : List Stmt} {scope : Scope} {dvs : List V} {kws : List (Str × V)} {f : Addr} {fd : FuncData}
theorem cx0_ok {nv : Nat} {N ps Gs : List Str} {k : Nat} (S : ScF nv N ps Gs scope) {cdv : Value} {A : Around} {outer : List Env} {s : Shared} {H : Hp} {E : XK} (hr : Room k (A.deeper (envOfC qual scope s.heap.objs.size f cdv))) :
    XOk (cx0 P w K mg base N qual scope f cdv A outer s H E) ⟨P, w, K, mg, base, nv, N, Gs, k, none⟩ where
  prog := rfl
  w := rfl
  K := rfl
  mg := rfl
  base := rfl
  N := rfl
  calm := rfl
  nm := fun i x h hv => S.nm.vis i x hv h
  gl := S.gl
  room := hr
  lo := fun _ => S.lo
  fn := fun _ _ => rfl
  kind := fun _ => S.fs.kind
  ps := PassesOwn.never
theorem def_okW {nv : Nat} {N ps Gs : List Str} {k : Nat} {T : List (Addr × Str)} {cells : List D → List Cell} {spec : SpecD} (F : FunD K x qual params body scope dvs kws f fd) (S : ScF nv N ps Gs scope) (len : ∀ ds R, spec ds R → ds.length = ps.length)
    (hb : ∀ (X : Cx) [XOk X ⟨P, w, K, mg, base, nv, N, Gs, k, none⟩] (sc : X.env.scope = scope) (G H : Hp) (ds : List D) (R : D → Prop), spec ds R →
      BV X (ent G H (cells ds) T) (cells ds) (zipN N ds) body ⟨fun ω _ => (cells ds).Sublist ω ∧ R .non, fun ω d => (cells ds).Sublist ω ∧ R d, fun _ _ => False, fun _ _ => False⟩) :
    FnOk P w K mg base CX0 (k + 1) f fd ps (spG K T cells spec) :=
  fn_okW F S.fs len fun cdv A outer s H E G ds R hr hs => by
    haveI := cx0_ok (P := P) (w := w) (K := K) (mg := mg) (base := base) (outer := outer) (H := H) (E := E) S hr
    exact hb (cx0 P w K mg base N qual scope f cdv A outer s H E) rfl G H ds R hs
theorem def_ok {nv : Nat} {N ps Gs : List Str} {k : Nat} {spec : SpecD} (F : FunD K x qual params body scope dvs kws f fd) (S : ScF nv N ps Gs scope) (len : ∀ ds R, spec ds R → ds.length = ps.length)
    (hb : ∀ (X : Cx) [XOk X ⟨P, w, K, mg, base, nv, N, Gs, k, none⟩] (sc : X.env.scope = scope) (G H : Hp) (ds : List D) (R : D → Prop), spec ds R →
      BV X (ent G H [] []) [] (zipN N ds) body ⟨fun _ _ => R .non, fun _ d => R d, fun _ _ => False, fun _ _ => False⟩) :
    FnOk P w K mg base CX0 (k + 1) f fd ps (spP K spec) :=
  fn_ok F S.fs len fun cdv A outer s H E G ds R hr hs => by
    haveI := cx0_ok (P := P) (w := w) (K := K) (mg := mg) (base := base) (outer := outer) (H := H) (E := E) S hr
    exact hb (cx0 P w K mg base N qual scope f cdv A outer s H E) rfl G H ds R hs
end
end
end DL

set_option Elab.async false
set_option linter.all false
set_option maxRecDepth 100000
set_option maxHeartbeats 4000000
/-! The text by its places, and the scope of each def. -/
namespace Wh
open PySem L2 PyProof.Rows DL
def top (i : Nat) : Stmt := PySem.Challenge.pw_wheelsky_k97_dark_meetings_are_near_whol.main.body.getD i (.Pass ⟨0, 0, 0, 0⟩)
abbrev s_BadValue_init : Stmt := inClass (top 3) 0
abbrev s_TooMany_init : Stmt := inClass (top 7) 0
abbrev s_whole_number_aid_exact : Stmt := top 15
abbrev s_common_divisor : Stmt := top 17
abbrev s_lowest : Stmt := top 18
abbrev s_precedes : Stmt := top 19
abbrev s_weighted_divisor : Stmt := top 20
abbrev s_joint_measure : Stmt := top 21
abbrev s_fraction : Stmt := top 24
abbrev s_is_fraction : Stmt := top 25
abbrev s_check_pair : Stmt := top 26
abbrev s_check_value : Stmt := top 27
abbrev s_plus : Stmt := top 28
abbrev s_minus : Stmt := top 29
abbrev s_times : Stmt := top 30
abbrev s_over : Stmt := top 31
abbrev s_compare : Stmt := top 32
abbrev s_floor_of : Stmt := top 33
abbrev s_part_of : Stmt := top 34
abbrev s_offset_of : Stmt := top 35
abbrev s_check_values : Stmt := top 36
abbrev s_measure_paper : Stmt := top 37
abbrev s_Span_init : Stmt := inClass (top 41) 0
abbrev s_Span_contains : Stmt := inClass (top 41) 2
abbrev s_need_fraction : Stmt := top 44
abbrev s_need_place : Stmt := top 45
abbrev s_need_span : Stmt := top 46
abbrev s_next_step : Stmt := top 47
abbrev s_steps_within : Stmt := top 48
abbrev s_Cycle_init : Stmt := inClass (top 49) 0
abbrev s_Cycle_turns : Stmt := inClass (top 49) 6
abbrev s_Cycle_place : Stmt := inClass (top 49) 7
abbrev s_need_cycles : Stmt := top 53
abbrev s_weighed : Stmt := top 54
abbrev s_meeting_rule : Stmt := top 56
abbrev s_meeting_paper : Stmt := top 57
abbrev s_meetings : Stmt := top 58
abbrev s_whole_number_darkening : Stmt := top 61
abbrev s_check_whole : Stmt := top 63
abbrev s_check_shade : Stmt := top 64
abbrev s_check_span_darkening : Stmt := top 65
abbrev s_check_width_darkening : Stmt := top 67
abbrev s_offset_is_dark : Stmt := top 69
abbrev s_Shade_init : Stmt := inClass (top 70) 0
abbrev s_Shade_moment_of : Stmt := inClass (top 70) 1
abbrev s_Shade_offset : Stmt := inClass (top 70) 2
abbrev s_Shade_is_dark : Stmt := inClass (top 70) 3
abbrev s_Shade_number_from : Stmt := inClass (top 70) 4
abbrev s_roll_bounds : Stmt := top 71
abbrev s_roll : Stmt := top 72
abbrev s_check_cycles : Stmt := top 75
abbrev s_check_moment : Stmt := top 76
abbrev s_check_span_nearness : Stmt := top 77
abbrev s_check_width_nearness : Stmt := top 79
abbrev s_lines_of : Stmt := top 81
abbrev s_turns_on : Stmt := top 82
abbrev s_is_within : Stmt := top 83
abbrev s_whole_near : Stmt := top 84
abbrev s_line_is_near : Stmt := top 85
abbrev s_lines_are_near : Stmt := top 86
abbrev s_is_earlier : Stmt := top 87
abbrev s_turned_bounds : Stmt := top 88
abbrev s_wholes_met : Stmt := top 89
abbrev s_line_spans : Stmt := top 90
abbrev s_all_line_spans : Stmt := top 92
abbrev s_shared_rows : Stmt := top 93
abbrev s_is_near : Stmt := top 94
abbrev s_near_spans : Stmt := top 95
abbrev s_l_mixed : Stmt := top 97
abbrev s_l_store : Stmt := top 98
abbrev s_l_take : Stmt := top 99
abbrev s_l_pick : Stmt := top 100
abbrev s_l_gcd : Stmt := top 101
abbrev s_l_lowest : Stmt := top 103
abbrev s_l_plus : Stmt := top 104
abbrev s_l_minus : Stmt := top 105
abbrev s_l_times : Stmt := top 106
abbrev s_l_over : Stmt := top 107
abbrev s_l_sign : Stmt := top 108
abbrev s_l_floor : Stmt := top 109
abbrev s_l_part : Stmt := top 110
abbrev s_l_offset : Stmt := top 111
abbrev s_l_distance : Stmt := top 112
abbrev s_l_scale : Stmt := top 113
abbrev s_l_ordered : Stmt := top 114
abbrev s_l_whole : Stmt := top 115
abbrev s_l_frac : Stmt := top 116
abbrev s_l_positive : Stmt := top 117
abbrev s_l_no_zero : Stmt := top 118
abbrev s_l_place : Stmt := top 119
abbrev s_l_moment : Stmt := top 120
abbrev s_l_below : Stmt := top 121
abbrev s_l_many : Stmt := top 122
abbrev s_l_span_over : Stmt := top 123
abbrev s_l_cycle : Stmt := top 124
abbrev s_l_turns : Stmt := top 125
abbrev s_l_rule : Stmt := top 126
abbrev s_l_near : Stmt := top 127
abbrev s_l_near_many : Stmt := top 128
abbrev s_l_shade : Stmt := top 129
abbrev s_l_shade_rule : Stmt := top 130
abbrev s_l_alike : Stmt := top 131
abbrev s_l_answer : Stmt := top 132
abbrev s_l_numbers_in : Stmt := top 133
abbrev s_l_darkened : Stmt := top 134
abbrev s_l_roll_due : Stmt := top 135
abbrev s_l_near_right : Stmt := top 136
abbrev s_l_shade_right : Stmt := top 137
abbrev s_l_form_right : Stmt := top 138
abbrev s_law : Stmt := top 139
theorem sc_BadValue_init : ScF 2 ["self", "what"] ["self", "what"] [] (defScope s_BadValue_init) := .of (by decide +kernel)
theorem sc_TooMany_init : ScF 2 ["self", "limit"] ["self", "limit"] [] (defScope s_TooMany_init) := .of (by decide +kernel)
theorem sc_whole_number_aid_exact : ScF 1 ["value"] ["value"] ["isinstance", "int", "bool"] (defScope s_whole_number_aid_exact) := .of (by decide +kernel)
theorem sc_common_divisor : ScF 2 ["left", "right"] ["left", "right"] ["abs"] (defScope s_common_divisor) := .of (by decide +kernel)
theorem sc_lowest : ScF 3 ["numerator", "denominator", "divisor"] ["numerator", "denominator"] ["common_divisor"] (defScope s_lowest) := .of (by decide +kernel)
theorem sc_precedes : ScF 2 ["left", "right"] ["left", "right"] [] (defScope s_precedes) := .of (by decide +kernel)
theorem sc_weighted_divisor : ScF 10 ["left", "right", "sign", "now", "after", "x", "next_x", "y", "next_y", "quotient"] ["left", "right"] ["abs"] (defScope s_weighted_divisor) := .of (by decide +kernel)
theorem sc_joint_measure : ScF 6 ["left", "right", "common", "divisor", "x", "y"] ["left", "right"] ["common_divisor", "weighted_divisor", "lowest"] (defScope s_joint_measure) := .of (by decide +kernel)
theorem sc_fraction : ScF 2 ["numerator", "denominator"] ["numerator", "denominator"] ["whole_number_aid_exact", "BadValue", "lowest"] (defScope s_fraction) := .of (by decide +kernel)
theorem sc_is_fraction : ScF 3 ["value", "numerator", "denominator"] ["value"] ["isinstance", "tuple", "len", "whole_number_aid_exact", "common_divisor"] (defScope s_is_fraction) := .of (by decide +kernel)
theorem sc_check_pair : ScF 2 ["left", "right"] ["left", "right"] ["is_fraction", "BadValue"] (defScope s_check_pair) := .of (by decide +kernel)
theorem sc_check_value : ScF 1 ["value"] ["value"] ["is_fraction", "BadValue"] (defScope s_check_value) := .of (by decide +kernel)
theorem sc_plus : ScF 2 ["left", "right"] ["left", "right"] ["check_pair", "lowest"] (defScope s_plus) := .of (by decide +kernel)
theorem sc_minus : ScF 2 ["left", "right"] ["left", "right"] ["check_pair", "lowest"] (defScope s_minus) := .of (by decide +kernel)
theorem sc_times : ScF 2 ["left", "right"] ["left", "right"] ["check_pair", "lowest"] (defScope s_times) := .of (by decide +kernel)
theorem sc_over : ScF 2 ["left", "right"] ["left", "right"] ["check_pair", "BadValue", "lowest"] (defScope s_over) := .of (by decide +kernel)
theorem sc_compare : ScF 3 ["left", "right", "difference"] ["left", "right"] ["check_pair"] (defScope s_compare) := .of (by decide +kernel)
theorem sc_floor_of : ScF 1 ["value"] ["value"] ["check_value"] (defScope s_floor_of) := .of (by decide +kernel)
theorem sc_part_of : ScF 1 ["value"] ["value"] ["check_value"] (defScope s_part_of) := .of (by decide +kernel)
theorem sc_offset_of : ScF 2 ["value", "numerator"] ["value"] ["check_value"] (defScope s_offset_of) := .of (by decide +kernel)
theorem sc_check_values : ScF 1 ["values", "value"] ["values"] ["isinstance", "list", "len", "MOST_VALUES", "BadValue", "all"] (defScope s_check_values) := .of (by decide +kernel)
theorem sc_measure_paper : ScF 6 ["values", "measure", "weights", "value", "old_factor", "new_weight", "weight"] ["values"] ["check_values", "joint_measure", "tuple"] (defScope s_measure_paper) := .of (by decide +kernel)
theorem sc_Span_init : ScF 3 ["self", "first", "last"] ["self", "first", "last"] ["is_fraction", "BadValue", "precedes", "Mismatch", "minus"] (defScope s_Span_init) := .of (by decide +kernel)
theorem sc_Span_contains : ScF 2 ["self", "moment"] ["self", "moment"] ["is_fraction", "precedes"] (defScope s_Span_contains) := .of (by decide +kernel)
theorem sc_need_fraction : ScF 2 ["value", "what"] ["value", "what"] ["is_fraction", "BadValue"] (defScope s_need_fraction) := .of (by decide +kernel)
theorem sc_need_place : ScF 2 ["value", "what"] ["value", "what"] ["is_fraction", "BadValue"] (defScope s_need_place) := .of (by decide +kernel)
theorem sc_need_span : ScF 2 ["value", "what"] ["value", "what"] ["isinstance", "Span", "BadValue"] (defScope s_need_span) := .of (by decide +kernel)
theorem sc_next_step : ScF 4 ["first", "interval", "moment", "steps"] ["first", "interval", "moment"] ["floor_of", "over", "minus", "plus", "times"] (defScope s_next_step) := .of (by decide +kernel)
theorem sc_steps_within : ScF 7 ["first", "interval", "span", "moment", "more", "found", "spare"] ["first", "interval", "span"] ["next_step", "compare", "floor_of", "over", "minus", "MOST_MOMENTS", "TooMany", "range", "plus"] (defScope s_steps_within) := .of (by decide +kernel)
theorem sc_Cycle_init : ScF 3 ["self", "rate", "start"] ["self", "rate", "start"] ["need_fraction", "need_place", "abs"] (defScope s_Cycle_init) := .of (by decide +kernel)
theorem sc_Cycle_turns : ScF 2 ["self", "moment"] ["self", "moment"] ["need_fraction", "plus", "times"] (defScope s_Cycle_turns) := .of (by decide +kernel)
theorem sc_Cycle_place : ScF 2 ["self", "moment"] ["self", "moment"] ["part_of"] (defScope s_Cycle_place) := .of (by decide +kernel)
theorem sc_need_cycles : ScF 1 ["cycles", "cycle"] ["cycles"] ["isinstance", "list", "LEAST_CYCLES", "len", "MOST_CYCLES", "BadValue", "all"] (defScope s_need_cycles) := .of (by decide +kernel)
theorem sc_weighed : ScF 5 ["weights", "values", "total", "weight", "value"] ["weights", "values"] ["zip", "plus", "times"] (defScope s_weighed) := .of (by decide +kernel)
theorem sc_meeting_rule : ScF 2 ["cycles", "paper"] ["cycles"] ["meeting_paper"] (defScope s_meeting_rule) := .of (by decide +kernel)
theorem sc_meeting_paper : ScF 13 ["cycles", "lead", "rates", "starts", "measure", "weights", "counts", "ahead", "at", "start", "left", "interval", "first", "cycle", "rate"] ["cycles"] ["need_cycles", "measure_paper", "weighed", "enumerate", "minus", "times", "never_weights", "over", "part_of", "tuple"] (defScope s_meeting_paper) := .of (by decide +kernel)
theorem sc_meetings : ScF 3 ["cycles", "span", "rule"] ["cycles", "span"] ["need_cycles", "need_span", "meeting_rule", "Endless", "steps_within"] (defScope s_meetings) := .of (by decide +kernel)
theorem sc_whole_number_darkening : ScF 1 ["value"] ["value"] ["isinstance", "int", "bool"] (defScope s_whole_number_darkening) := .of (by decide +kernel)
theorem sc_check_whole : ScF 2 ["value", "what"] ["value", "what"] ["whole_number_darkening", "BadValue"] (defScope s_check_whole) := .of (by decide +kernel)
theorem sc_check_shade : ScF 1 ["shade"] ["shade"] ["isinstance", "Shade", "BadValue"] (defScope s_check_shade) := .of (by decide +kernel)
theorem sc_check_span_darkening : ScF 1 ["span"] ["span"] ["isinstance", "Span", "BadValue"] (defScope s_check_span_darkening) := .of (by decide +kernel)
theorem sc_check_width_darkening : ScF 1 ["width"] ["width"] ["is_fraction", "BadValue"] (defScope s_check_width_darkening) := .of (by decide +kernel)
theorem sc_offset_is_dark : ScF 2 ["offset", "width"] ["offset", "width"] ["compare", "abs"] (defScope s_offset_is_dark) := .of (by decide +kernel)
theorem sc_Shade_init : ScF 7 ["self", "light", "cover", "node", "width", "what", "value"] ["self", "light", "cover", "node", "width"] ["isinstance", "Cycle", "BadValue", "check_width_darkening", "Still", "meeting_rule", "times", "minus", "offset_of"] (defScope s_Shade_init) := .of (by decide +kernel)
theorem sc_Shade_moment_of : ScF 2 ["self", "number"] ["self", "number"] ["check_whole", "plus", "times"] (defScope s_Shade_moment_of) := .of (by decide +kernel)
theorem sc_Shade_offset : ScF 4 ["self", "number", "top", "bottom"] ["self", "number"] ["check_whole", "offset_of", "plus", "fraction"] (defScope s_Shade_offset) := .of (by decide +kernel)
theorem sc_Shade_is_dark : ScF 2 ["self", "number"] ["self", "number"] ["offset_is_dark"] (defScope s_Shade_is_dark) := .of (by decide +kernel)
theorem sc_Shade_number_from : ScF 2 ["self", "moment"] ["self", "moment"] ["is_fraction", "BadValue", "floor_of", "over", "minus"] (defScope s_Shade_number_from) := .of (by decide +kernel)
theorem sc_roll_bounds : ScF 5 ["shade", "span", "low", "since", "end"] ["shade", "span"] ["minus", "floor_of", "over", "ROLL_LIMIT", "TooMany"] (defScope s_roll_bounds) := .of (by decide +kernel)
theorem sc_roll : ScF 7 ["shade", "span", "low", "end", "rows", "number", "offset"] ["shade", "span"] ["check_shade", "check_span_darkening", "roll_bounds", "range", "offset_is_dark"] (defScope s_roll) := .of (by decide +kernel)
theorem sc_check_cycles : ScF 2 ["cycles", "cycle"] ["cycles"] ["isinstance", "list", "len", "BadValue", "Cycle"] (defScope s_check_cycles) := .of (by decide +kernel)
theorem sc_check_moment : ScF 1 ["moment"] ["moment"] ["is_fraction", "BadValue"] (defScope s_check_moment) := .of (by decide +kernel)
theorem sc_check_span_nearness : ScF 1 ["span"] ["span"] ["isinstance", "Span", "BadValue"] (defScope s_check_span_nearness) := .of (by decide +kernel)
theorem sc_check_width_nearness : ScF 1 ["width"] ["width"] ["is_fraction", "BadValue"] (defScope s_check_width_nearness) := .of (by decide +kernel)
theorem sc_lines_of : ScF 6 ["cycles", "leader", "lines", "cycle", "rate", "start"] ["cycles"] ["minus"] (defScope s_lines_of) := .of (by decide +kernel)
theorem sc_turns_on : ScF 5 ["line", "moment", "slope", "start", "unit"] ["line", "moment"] [] (defScope s_turns_on) := .of (by decide +kernel)
theorem sc_is_within : ScF 5 ["turns", "whole", "width", "top", "bottom"] ["turns", "whole", "width"] ["abs"] (defScope s_is_within) := .of (by decide +kernel)
theorem sc_whole_near : ScF 3 ["turns", "top", "bottom"] ["turns"] [] (defScope s_whole_near) := .of (by decide +kernel)
theorem sc_line_is_near : ScF 4 ["line", "moment", "width", "turns"] ["line", "moment", "width"] ["turns_on", "is_within", "whole_near"] (defScope s_line_is_near) := .of (by decide +kernel)
theorem sc_lines_are_near : ScF 4 ["lines", "moment", "width", "line"] ["lines", "moment", "width"] ["line_is_near"] (defScope s_lines_are_near) := .of (by decide +kernel)
theorem sc_is_earlier : ScF 2 ["left", "right"] ["left", "right"] [] (defScope s_is_earlier) := .of (by decide +kernel)
theorem sc_turned_bounds : ScF 3 ["line", "first", "last"] ["line", "first", "last"] ["turns_on"] (defScope s_turned_bounds) := .of (by decide +kernel)
theorem sc_wholes_met : ScF 9 ["line", "span", "width", "low", "high", "part", "unit", "least", "most"] ["line", "span", "width"] ["turned_bounds"] (defScope s_wholes_met) := .of (by decide +kernel)
theorem sc_line_spans : ScF 15 ["line", "span", "width", "slope", "start", "unit", "least", "most", "wholes", "part", "rows", "whole", "base", "first", "last", "step"] ["line", "span", "width"] ["line_is_near", "wholes_met", "MOST_NEAR", "TooMany", "range", "fraction", "is_earlier"] (defScope s_line_spans) := .of (by decide +kernel)
theorem sc_all_line_spans : ScF 3 ["cycles", "span", "width", "line"] ["cycles", "span", "width"] ["lines_of"] (defScope s_all_line_spans) := .of (by decide +kernel)
theorem sc_shared_rows : ScF 3 ["tracks", "rows", "track"] ["tracks"] ["common_rows"] (defScope s_shared_rows) := .of (by decide +kernel)
theorem sc_is_near : ScF 3 ["cycles", "moment", "width"] ["cycles", "moment", "width"] ["check_cycles", "check_moment", "check_width_nearness", "lines_are_near", "lines_of"] (defScope s_is_near) := .of (by decide +kernel)
theorem sc_near_spans : ScF 4 ["cycles", "span", "width", "rows", "first", "last"] ["cycles", "span", "width"] ["check_cycles", "check_span_nearness", "check_width_nearness", "shared_rows", "all_line_spans"] (defScope s_near_spans) := .of (by decide +kernel)
theorem sc_l_mixed : ScF 3 ["_law_number", "_law_turn", "_law_value"] ["_law_number", "_law_turn"] ["int"] (defScope s_l_mixed) := .of (by decide +kernel)
theorem sc_l_store : ScF 3 ["_law_script", "_law_seed", "_law_cell"] ["_law_script"] ["len", "int", "list"] (defScope s_l_store) := .of (by decide +kernel)
theorem sc_l_take : ScF 7 ["_law_store_here", "_law_many_here", "_law_cell", "_law_digit", "_law_number", "_law_value", "_law_k"] ["_law_store_here", "_law_many_here"] ["len", "int", "abs", "range", "_law_mixed"] (defScope s_l_take) := .of (by decide +kernel)
theorem sc_l_pick : ScF 2 ["_law_store_here", "_law_row"] ["_law_store_here", "_law_row"] ["_law_take", "len"] (defScope s_l_pick) := .of (by decide +kernel)
theorem sc_l_gcd : ScF 2 ["_law_left", "_law_right"] ["_law_left", "_law_right"] ["abs", "int"] (defScope s_l_gcd) := .of (by decide +kernel)
theorem sc_l_lowest : ScF 3 ["_law_top", "_law_bottom", "_law_common"] ["_law_top", "_law_bottom"] ["_law_gcd"] (defScope s_l_lowest) := .of (by decide +kernel)
theorem sc_l_plus : ScF 2 ["_law_left", "_law_right"] ["_law_left", "_law_right"] ["_law_lowest"] (defScope s_l_plus) := .of (by decide +kernel)
theorem sc_l_minus : ScF 2 ["_law_left", "_law_right"] ["_law_left", "_law_right"] ["_law_lowest"] (defScope s_l_minus) := .of (by decide +kernel)
theorem sc_l_times : ScF 2 ["_law_left", "_law_right"] ["_law_left", "_law_right"] ["_law_lowest"] (defScope s_l_times) := .of (by decide +kernel)
theorem sc_l_over : ScF 2 ["_law_left", "_law_right"] ["_law_left", "_law_right"] ["_law_lowest"] (defScope s_l_over) := .of (by decide +kernel)
theorem sc_l_sign : ScF 3 ["_law_left", "_law_right", "_law_gap"] ["_law_left", "_law_right"] ["int"] (defScope s_l_sign) := .of (by decide +kernel)
theorem sc_l_floor : ScF 1 ["_law_value"] ["_law_value"] [] (defScope s_l_floor) := .of (by decide +kernel)
theorem sc_l_part : ScF 1 ["_law_value"] ["_law_value"] ["_law_lowest", "int"] (defScope s_l_part) := .of (by decide +kernel)
theorem sc_l_offset : ScF 2 ["_law_value", "_law_top"] ["_law_value"] ["int", "_law_lowest"] (defScope s_l_offset) := .of (by decide +kernel)
theorem sc_l_distance : ScF 2 ["_law_value", "_law_offset_here"] ["_law_value"] ["_law_offset", "abs"] (defScope s_l_distance) := .of (by decide +kernel)
theorem sc_l_scale : ScF 3 ["_law_fracs", "_law_scale_here", "_law_value"] ["_law_fracs"] ["_law_gcd"] (defScope s_l_scale) := .of (by decide +kernel)
theorem sc_l_ordered : ScF 4 ["_law_fracs", "_law_scale_here", "_law_out", "_law_value"] ["_law_fracs"] ["_law_scale", "sorted"] (defScope s_l_ordered) := .of (by decide +kernel)
theorem sc_l_whole : ScF 3 ["_law_store_here", "_law_reach", "_law_spot"] ["_law_store_here", "_law_reach"] ["_law_take", "min"] (defScope s_l_whole) := .of (by decide +kernel)
theorem sc_l_frac : ScF 3 ["_law_store_here", "_law_spot", "_law_bottom"] ["_law_store_here"] ["_law_take", "_law_lowest"] (defScope s_l_frac) := .of (by decide +kernel)
theorem sc_l_positive : ScF 3 ["_law_store_here", "_law_spot", "_law_bottom"] ["_law_store_here"] ["_law_take", "_law_lowest"] (defScope s_l_positive) := .of (by decide +kernel)
theorem sc_l_no_zero : ScF 2 ["_law_store_here", "_law_value"] ["_law_store_here"] ["_law_positive", "_law_take"] (defScope s_l_no_zero) := .of (by decide +kernel)
theorem sc_l_place : ScF 3 ["_law_store_here", "_law_spot", "_law_bottom"] ["_law_store_here"] ["_law_take", "_law_lowest"] (defScope s_l_place) := .of (by decide +kernel)
theorem sc_l_moment : ScF 4 ["_law_store_here", "_law_reach", "_law_spot", "_law_bottom"] ["_law_store_here", "_law_reach"] ["_law_take", "_law_whole", "_law_lowest"] (defScope s_l_moment) := .of (by decide +kernel)
theorem sc_l_below : ScF 4 ["_law_store_here", "_law_share", "_law_spot", "_law_size"] ["_law_store_here", "_law_share"] ["_law_take", "_law_lowest"] (defScope s_l_below) := .of (by decide +kernel)
theorem sc_l_many : ScF 3 ["_law_store_here", "_law_limit", "_law_spot"] ["_law_store_here", "_law_limit"] ["_law_take", "min"] (defScope s_l_many) := .of (by decide +kernel)
theorem sc_l_span_over : ScF 9 ["_law_store_here", "_law_first", "_law_interval", "_law_many_here", "_law_begin", "_law_ends", "_law_last", "_law_shares", "_law_before"] ["_law_store_here", "_law_first", "_law_interval", "_law_many_here"] ["_law_plus", "_law_times", "_law_whole", "_law_pick", "_law_minus"] (defScope s_l_span_over) := .of (by decide +kernel)
theorem sc_l_cycle : ScF 1 ["_law_store_here"] ["_law_store_here"] ["_law_take", "_law_place", "_law_frac"] (defScope s_l_cycle) := .of (by decide +kernel)
theorem sc_l_turns : ScF 2 ["_law_row", "_law_moment_here"] ["_law_row", "_law_moment_here"] ["_law_plus", "_law_times"] (defScope s_l_turns) := .of (by decide +kernel)
theorem sc_l_rule : ScF 10 ["_law_rows", "_law_base", "_law_step", "_law_row", "_law_rate", "_law_gap", "_law_move", "_law_left", "_law_need", "_law_count_of"] ["_law_rows"] ["_law_minus", "_law_over", "abs", "_law_times", "_law_plus", "int", "_law_bezout", "_law_floor"] (defScope s_l_rule) := .of (by decide +kernel)
theorem sc_l_near : ScF 5 ["_law_rows", "_law_moment_here", "_law_width", "_law_row", "_law_gap"] ["_law_rows", "_law_moment_here", "_law_width"] ["_law_minus", "_law_turns", "_law_sign", "_law_distance"] (defScope s_l_near) := .of (by decide +kernel)
theorem sc_l_near_many : ScF 6 ["_law_lead", "_law_row", "_law_width", "_law_ends", "_law_pair", "_law_gaps_of"] ["_law_lead", "_law_row", "_law_width", "_law_ends"] ["_law_minus", "int", "_law_near", "_law_ordered", "_law_turns", "_law_floor", "_law_plus"] (defScope s_l_near_many) := .of (by decide +kernel)
theorem sc_l_shade : ScF 5 ["_law_store_here", "_law_light", "_law_cover", "_law_node", "_law_kind"] ["_law_store_here"] ["_law_cycle", "_law_plus", "_law_no_zero", "_law_place", "_law_take", "_law_lowest", "_law_below"] (defScope s_l_shade) := .of (by decide +kernel)
theorem sc_l_shade_rule : ScF 1 ["_law_shade_here"] ["_law_shade_here"] ["_law_rule"] (defScope s_l_shade_rule) := .of (by decide +kernel)
theorem sc_l_alike : ScF 3 ["_law_told", "_law_due", "_law_k"] ["_law_told", "_law_due"] ["isinstance", "list", "tuple", "len", "range", "_law_alike", "bool", "int", "str"] (defScope s_l_alike) := .of (by decide +kernel)
theorem sc_l_answer : ScF 4 ["_law_call", "e", "_law_others", "_law_rows"] ["_law_call"] ["SkyError", "isinstance", "Mismatch", "Still", "Endless", "NoName", "Taken", "Locked", "Looped", "Broken", "ReadError", "BadValue", "TooMany", "len", "ValueError"] (defScope s_l_answer) := .of (by decide +kernel)
theorem sc_l_numbers_in : ScF 4 ["_law_rule_here", "_law_ends", "_law_low", "_law_high"] ["_law_rule_here", "_law_ends"] ["_law_over", "_law_minus", "_law_floor"] (defScope s_l_numbers_in) := .of (by decide +kernel)
theorem sc_l_darkened : ScF 15 ["_law_store_here", "_law_shade_here", "_law_rule_here", "_law_ends", "_law_light", "_law_cover", "_law_node", "_law_width", "_law_low", "_law_high", "_law_rate", "_law_offset_here", "_law_moment_here", "_law_there", "_law_start"] ["_law_store_here", "_law_shade_here", "_law_rule_here", "_law_ends"] ["_law_numbers_in", "_law_take", "_law_plus", "_law_over", "_law_lowest", "_law_times", "_law_pick", "max", "_law_turns", "_law_part", "_law_minus"] (defScope s_l_darkened) := .of (by decide +kernel)
theorem sc_l_roll_due : ScF 10 ["_law_shade_here", "_law_rule_here", "_law_ends", "_law_low", "_law_high", "_law_out", "_law_number", "_law_moment_here", "_law_offset_here", "_law_dark"] ["_law_shade_here", "_law_rule_here", "_law_ends"] ["_law_numbers_in", "range", "_law_plus", "_law_times", "_law_offset", "_law_minus", "_law_turns", "_law_sign", "abs"] (defScope s_l_roll_due) := .of (by decide +kernel)
theorem sc_l_near_right : ScF 13 ["_law_store_here", "_law_shade_here", "_law_cycles", "_law_ends", "_law_rows", "_law_light", "_law_cover", "_law_node", "_law_row", "_law_near_here", "_law_spot", "_law_due", "_law_spans", "_law_span"] ["_law_store_here", "_law_shade_here", "_law_cycles", "_law_ends", "_law_rows"] ["is_near", "_law_alike", "_law_plus", "_law_moment", "_law_near", "_law_near_many", "near_spans", "Span", "len"] (defScope s_l_near_right) := .of (by decide +kernel)
theorem sc_l_shade_right : ScF 7 ["_law_thing", "_law_shade_here", "_law_rule_here", "_law_rows", "_law_gain", "_law_row", "_law_told"] ["_law_thing", "_law_shade_here", "_law_rule_here", "_law_rows"] ["_law_times", "_law_minus", "_law_alike"] (defScope s_l_shade_right) := .of (by decide +kernel)
theorem sc_l_form_right : ScF 8 ["_law_store_here", "_law_thing", "_law_span", "_law_rows", "_law_row", "_law_spots", "_law_spot", "_law_told"] ["_law_store_here", "_law_thing", "_law_span", "_law_rows"] ["_law_take", "_law_pick", "_law_answer", "_law_alike", "min"] (defScope s_l_form_right) := .of (by decide +kernel)
theorem sc_law : ScF 15 ["_law_script", "_law_store_here", "_law_shade_here", "_law_rule_here", "_law_start", "_law_ends", "_law_due", "_law_cycles", "_law_thing", "_law_span", "_law_told", "_law_rows", "_law_moments", "_law_pair", "_law_twin", "_law_row"] ["_law_script"] ["_law_store", "_law_shade", "_law_shade_rule", "_law_take", "_law_plus", "_law_times", "_law_whole", "_law_span_over", "_law_many", "_law_darkened", "_law_roll_due", "Shade", "Span", "_law_answer", "_law_alike", "len", "_law_near_right", "_law_shade_right", "_law_form_right"] (defScope s_law) := .of (by decide +kernel)
abbrev FnP (K : PySem.W.Frag) (x q : Str) (st : Stmt) (f : Addr) (fd : FuncData) : Prop := FunD K x q (defArgs st) (defBody st) (defScope st) [] [] f fd
/-- a def of the module, where it stands: x the module's name that holds it, n its own -/
structure DefAt (K : PySem.W.Frag) (mg : Str → Option Value) (x n q : Str) (st : Stmt) : Prop where
  ex : ∃ (f : Addr) (fd : FuncData), mg x = some (.ref f) ∧ FnP K n q st f fd
theorem DefAt.kn {P : Program} {w : World} {K : PySem.W.Frag} {mg : Str → Option Value} {base : Heap} {CX : CXT} {x n q : Str} {st : Stmt} {ps : List Str} {k : Nat} {sp : Sp} (d : DefAt K mg x n q st)
    (hb : ∀ (kV doc pm : Value) (an : Option Addr) (cdv ct : Value) (us : List Value), us.length = ps.length → bindArgs (PySem.W.fnOf n q (defArgs st) (defBody st) (defScope st) .none kV doc pm an cdv ct) ⟨us, []⟩ = pure (ps.zip us))
    (h : ∀ (f : Addr) (fd : FuncData), FnP K n q st f fd → FnOk P w K mg base CX k f fd ps sp) : Kn P w K mg base CX x k sp := by
  obtain ⟨f, fd, hm, F⟩ := d.ex
  exact ⟨f, fd, ps, hm, F.kp, F.bindsN hb, h f fd F⟩
/-- a name is read -/
theorem nm_id {X : Cx} {E : Ent} {ω : List Cell} {δ : DE} {x : Str} {pos : Pos} {R : DL.D → Prop} (h : EV X E ω δ (.Name x pos) R) : EV X E ω δ (.Name x pos) R := h
end Wh

set_option Elab.async false
set_option linter.all false
set_option maxRecDepth 100000
set_option maxHeartbeats 4000000
/-! What is looked at where the top has run. -/
namespace Wh
open PySem L2 PyProof.Rows DL
def nine : List Str := ["Mismatch", "Still", "Endless", "NoName", "Taken", "Locked", "Looped", "Broken", "ReadError"]
def fas : List He.Fa := [.glo "whole_number_aid_exact", .glo "common_divisor", .glo "lowest", .glo "precedes", .glo "weighted_divisor", .glo "joint_measure", .glo "fraction", .glo "is_fraction", .glo "check_pair", .glo "check_value", .glo "plus", .glo "minus", .glo "times", .glo "over", .glo "compare", .glo "floor_of", .glo "part_of", .glo "offset_of", .glo "check_values", .glo "measure_paper", .glo "need_fraction", .glo "need_place", .glo "need_span", .glo "next_step", .glo "steps_within", .glo "need_cycles", .glo "weighed", .glo "meeting_rule", .glo "meeting_paper", .glo "meetings", .glo "whole_number_darkening", .glo "check_whole", .glo "check_shade", .glo "check_span_darkening", .glo "check_width_darkening", .glo "offset_is_dark", .glo "roll_bounds", .glo "roll", .glo "check_cycles", .glo "check_moment", .glo "check_span_nearness", .glo "check_width_nearness", .glo "lines_of", .glo "turns_on", .glo "is_within", .glo "whole_near", .glo "line_is_near", .glo "lines_are_near", .glo "is_earlier", .glo "turned_bounds", .glo "wholes_met", .glo "line_spans", .glo "all_line_spans", .glo "shared_rows", .glo "is_near", .glo "near_spans", .glo "_law_mixed", .glo "_law_store", .glo "_law_take", .glo "_law_pick", .glo "_law_gcd", .glo "_law_lowest", .glo "_law_plus", .glo "_law_minus", .glo "_law_times", .glo "_law_over", .glo "_law_sign", .glo "_law_floor", .glo "_law_part", .glo "_law_offset", .glo "_law_distance", .glo "_law_scale", .glo "_law_ordered", .glo "_law_whole", .glo "_law_frac", .glo "_law_positive", .glo "_law_no_zero", .glo "_law_place", .glo "_law_moment", .glo "_law_below", .glo "_law_many", .glo "_law_span_over", .glo "_law_cycle", .glo "_law_turns", .glo "_law_rule", .glo "_law_near", .glo "_law_near_many", .glo "_law_shade", .glo "_law_shade_rule", .glo "_law_alike", .glo "_law_answer", .glo "_law_numbers_in", .glo "_law_darkened", .glo "_law_roll_due", .glo "_law_near_right", .glo "_law_shade_right", .glo "_law_form_right", .glo "law", .free "isinstance", .free "int", .free "bool", .free "abs", .free "tuple", .free "len", .free "list", .free "all", .free "zip", .free "enumerate", .free "range", .free "min", .free "max", .free "sorted", .free "str", .free "ValueError", .int "MOST_VALUES" 12, .int "MOST_MOMENTS" 400, .int "LEAST_CYCLES" 2, .int "MOST_CYCLES" 6, .int "ROLL_LIMIT" 400, .int "MOST_NEAR" 200, .glo "Mismatch", .glo "Still", .glo "Endless", .glo "NoName", .glo "Taken", .glo "Locked", .glo "Looped", .glo "Broken", .glo "ReadError", .glo "SkyError", .glo "Cycle", .glo "Span", .glo "Shade", .glo "BadValue", .glo "TooMany", .cls "Cycle", .mkr "Cycle", .cls "Span", .mkr "Span", .cls "Shade", .mkr "Shade", .meth "Span" "__contains__", .meth "Cycle" "turns", .meth "Cycle" "place", .meth "Shade" "moment_of", .meth "Shade" "offset", .meth "Shade" "is_dark", .meth "Shade" "number_from", .noat "Span" "first", .noat "Span" "last", .noat "Span" "length", .noat "Cycle" "rate", .noat "Cycle" "start", .noat "Cycle" "period", .noat "Shade" "light", .noat "Shade" "cover", .noat "Shade" "node", .noat "Shade" "width", .noat "Shade" "zero_moment", .noat "Shade" "interval", .noat "Shade" "gain", .noat "Shade" "zero_offset", .noat "BadValue" "what", .noat "TooMany" "limit", .exm "BadValue" "SkyError" true, .exm "TooMany" "SkyError" true]
def fns : List He.DefD := [⟨("BadValue", some "__init__"), "__init__", "BadValue.__init__", defArgs s_BadValue_init, defBody s_BadValue_init, defScope s_BadValue_init, [], []⟩,
  ⟨("TooMany", some "__init__"), "__init__", "TooMany.__init__", defArgs s_TooMany_init, defBody s_TooMany_init, defScope s_TooMany_init, [], []⟩,
  ⟨("whole_number_aid_exact", none), "whole_number", "whole_number", defArgs s_whole_number_aid_exact, defBody s_whole_number_aid_exact, defScope s_whole_number_aid_exact, [], []⟩,
  ⟨("common_divisor", none), "common_divisor", "common_divisor", defArgs s_common_divisor, defBody s_common_divisor, defScope s_common_divisor, [], []⟩,
  ⟨("lowest", none), "lowest", "lowest", defArgs s_lowest, defBody s_lowest, defScope s_lowest, [], []⟩,
  ⟨("precedes", none), "precedes", "precedes", defArgs s_precedes, defBody s_precedes, defScope s_precedes, [], []⟩,
  ⟨("weighted_divisor", none), "weighted_divisor", "weighted_divisor", defArgs s_weighted_divisor, defBody s_weighted_divisor, defScope s_weighted_divisor, [], []⟩,
  ⟨("joint_measure", none), "joint_measure", "joint_measure", defArgs s_joint_measure, defBody s_joint_measure, defScope s_joint_measure, [], []⟩,
  ⟨("fraction", none), "fraction", "fraction", defArgs s_fraction, defBody s_fraction, defScope s_fraction, [.int 1], []⟩,
  ⟨("is_fraction", none), "is_fraction", "is_fraction", defArgs s_is_fraction, defBody s_is_fraction, defScope s_is_fraction, [], []⟩,
  ⟨("check_pair", none), "check_pair", "check_pair", defArgs s_check_pair, defBody s_check_pair, defScope s_check_pair, [], []⟩,
  ⟨("check_value", none), "check_value", "check_value", defArgs s_check_value, defBody s_check_value, defScope s_check_value, [], []⟩,
  ⟨("plus", none), "plus", "plus", defArgs s_plus, defBody s_plus, defScope s_plus, [], []⟩,
  ⟨("minus", none), "minus", "minus", defArgs s_minus, defBody s_minus, defScope s_minus, [], []⟩,
  ⟨("times", none), "times", "times", defArgs s_times, defBody s_times, defScope s_times, [], []⟩,
  ⟨("over", none), "over", "over", defArgs s_over, defBody s_over, defScope s_over, [], []⟩,
  ⟨("compare", none), "compare", "compare", defArgs s_compare, defBody s_compare, defScope s_compare, [], []⟩,
  ⟨("floor_of", none), "floor_of", "floor_of", defArgs s_floor_of, defBody s_floor_of, defScope s_floor_of, [], []⟩,
  ⟨("part_of", none), "part_of", "part_of", defArgs s_part_of, defBody s_part_of, defScope s_part_of, [], []⟩,
  ⟨("offset_of", none), "offset_of", "offset_of", defArgs s_offset_of, defBody s_offset_of, defScope s_offset_of, [], []⟩,
  ⟨("check_values", none), "check_values", "check_values", defArgs s_check_values, defBody s_check_values, defScope s_check_values, [], []⟩,
  ⟨("measure_paper", none), "measure_paper", "measure_paper", defArgs s_measure_paper, defBody s_measure_paper, defScope s_measure_paper, [], []⟩,
  ⟨("Span", some "__init__"), "__init__", "Span.__init__", defArgs s_Span_init, defBody s_Span_init, defScope s_Span_init, [], []⟩,
  ⟨("Span", some "__contains__"), "__contains__", "Span.__contains__", defArgs s_Span_contains, defBody s_Span_contains, defScope s_Span_contains, [], []⟩,
  ⟨("need_fraction", none), "need_fraction", "need_fraction", defArgs s_need_fraction, defBody s_need_fraction, defScope s_need_fraction, [], []⟩,
  ⟨("need_place", none), "need_place", "need_place", defArgs s_need_place, defBody s_need_place, defScope s_need_place, [], []⟩,
  ⟨("need_span", none), "need_span", "need_span", defArgs s_need_span, defBody s_need_span, defScope s_need_span, [], []⟩,
  ⟨("next_step", none), "next_step", "next_step", defArgs s_next_step, defBody s_next_step, defScope s_next_step, [], []⟩,
  ⟨("steps_within", none), "steps_within", "steps_within", defArgs s_steps_within, defBody s_steps_within, defScope s_steps_within, [], []⟩,
  ⟨("Cycle", some "__init__"), "__init__", "Cycle.__init__", defArgs s_Cycle_init, defBody s_Cycle_init, defScope s_Cycle_init, [.adr (He.dflAt ("Cycle", some "__init__") 0)], []⟩,
  ⟨("Cycle", some "turns"), "turns", "Cycle.turns", defArgs s_Cycle_turns, defBody s_Cycle_turns, defScope s_Cycle_turns, [], []⟩,
  ⟨("Cycle", some "place"), "place", "Cycle.place", defArgs s_Cycle_place, defBody s_Cycle_place, defScope s_Cycle_place, [], []⟩,
  ⟨("need_cycles", none), "need_cycles", "need_cycles", defArgs s_need_cycles, defBody s_need_cycles, defScope s_need_cycles, [], []⟩,
  ⟨("weighed", none), "weighed", "weighed", defArgs s_weighed, defBody s_weighed, defScope s_weighed, [], []⟩,
  ⟨("meeting_rule", none), "meeting_rule", "meeting_rule", defArgs s_meeting_rule, defBody s_meeting_rule, defScope s_meeting_rule, [], []⟩,
  ⟨("meeting_paper", none), "meeting_paper", "meeting_paper", defArgs s_meeting_paper, defBody s_meeting_paper, defScope s_meeting_paper, [], []⟩,
  ⟨("meetings", none), "meetings", "meetings", defArgs s_meetings, defBody s_meetings, defScope s_meetings, [], []⟩,
  ⟨("whole_number_darkening", none), "whole_number", "whole_number", defArgs s_whole_number_darkening, defBody s_whole_number_darkening, defScope s_whole_number_darkening, [], []⟩,
  ⟨("check_whole", none), "check_whole", "check_whole", defArgs s_check_whole, defBody s_check_whole, defScope s_check_whole, [], []⟩,
  ⟨("check_shade", none), "check_shade", "check_shade", defArgs s_check_shade, defBody s_check_shade, defScope s_check_shade, [], []⟩,
  ⟨("check_span_darkening", none), "check_span", "check_span", defArgs s_check_span_darkening, defBody s_check_span_darkening, defScope s_check_span_darkening, [], []⟩,
  ⟨("check_width_darkening", none), "check_width", "check_width", defArgs s_check_width_darkening, defBody s_check_width_darkening, defScope s_check_width_darkening, [], []⟩,
  ⟨("offset_is_dark", none), "offset_is_dark", "offset_is_dark", defArgs s_offset_is_dark, defBody s_offset_is_dark, defScope s_offset_is_dark, [], []⟩,
  ⟨("Shade", some "__init__"), "__init__", "Shade.__init__", defArgs s_Shade_init, defBody s_Shade_init, defScope s_Shade_init, [], []⟩,
  ⟨("Shade", some "moment_of"), "moment_of", "Shade.moment_of", defArgs s_Shade_moment_of, defBody s_Shade_moment_of, defScope s_Shade_moment_of, [], []⟩,
  ⟨("Shade", some "offset"), "offset", "Shade.offset", defArgs s_Shade_offset, defBody s_Shade_offset, defScope s_Shade_offset, [], []⟩,
  ⟨("Shade", some "is_dark"), "is_dark", "Shade.is_dark", defArgs s_Shade_is_dark, defBody s_Shade_is_dark, defScope s_Shade_is_dark, [], []⟩,
  ⟨("Shade", some "number_from"), "number_from", "Shade.number_from", defArgs s_Shade_number_from, defBody s_Shade_number_from, defScope s_Shade_number_from, [], []⟩,
  ⟨("roll_bounds", none), "roll_bounds", "roll_bounds", defArgs s_roll_bounds, defBody s_roll_bounds, defScope s_roll_bounds, [], []⟩,
  ⟨("roll", none), "roll", "roll", defArgs s_roll, defBody s_roll, defScope s_roll, [], []⟩,
  ⟨("check_cycles", none), "check_cycles", "check_cycles", defArgs s_check_cycles, defBody s_check_cycles, defScope s_check_cycles, [], []⟩,
  ⟨("check_moment", none), "check_moment", "check_moment", defArgs s_check_moment, defBody s_check_moment, defScope s_check_moment, [], []⟩,
  ⟨("check_span_nearness", none), "check_span", "check_span", defArgs s_check_span_nearness, defBody s_check_span_nearness, defScope s_check_span_nearness, [], []⟩,
  ⟨("check_width_nearness", none), "check_width", "check_width", defArgs s_check_width_nearness, defBody s_check_width_nearness, defScope s_check_width_nearness, [], []⟩,
  ⟨("lines_of", none), "lines_of", "lines_of", defArgs s_lines_of, defBody s_lines_of, defScope s_lines_of, [], []⟩,
  ⟨("turns_on", none), "turns_on", "turns_on", defArgs s_turns_on, defBody s_turns_on, defScope s_turns_on, [], []⟩,
  ⟨("is_within", none), "is_within", "is_within", defArgs s_is_within, defBody s_is_within, defScope s_is_within, [], []⟩,
  ⟨("whole_near", none), "whole_near", "whole_near", defArgs s_whole_near, defBody s_whole_near, defScope s_whole_near, [], []⟩,
  ⟨("line_is_near", none), "line_is_near", "line_is_near", defArgs s_line_is_near, defBody s_line_is_near, defScope s_line_is_near, [], []⟩,
  ⟨("lines_are_near", none), "lines_are_near", "lines_are_near", defArgs s_lines_are_near, defBody s_lines_are_near, defScope s_lines_are_near, [], []⟩,
  ⟨("is_earlier", none), "is_earlier", "is_earlier", defArgs s_is_earlier, defBody s_is_earlier, defScope s_is_earlier, [], []⟩,
  ⟨("turned_bounds", none), "turned_bounds", "turned_bounds", defArgs s_turned_bounds, defBody s_turned_bounds, defScope s_turned_bounds, [], []⟩,
  ⟨("wholes_met", none), "wholes_met", "wholes_met", defArgs s_wholes_met, defBody s_wholes_met, defScope s_wholes_met, [], []⟩,
  ⟨("line_spans", none), "line_spans", "line_spans", defArgs s_line_spans, defBody s_line_spans, defScope s_line_spans, [], []⟩,
  ⟨("all_line_spans", none), "all_line_spans", "all_line_spans", defArgs s_all_line_spans, defBody s_all_line_spans, defScope s_all_line_spans, [], []⟩,
  ⟨("shared_rows", none), "shared_rows", "shared_rows", defArgs s_shared_rows, defBody s_shared_rows, defScope s_shared_rows, [], []⟩,
  ⟨("is_near", none), "is_near", "is_near", defArgs s_is_near, defBody s_is_near, defScope s_is_near, [], []⟩,
  ⟨("near_spans", none), "near_spans", "near_spans", defArgs s_near_spans, defBody s_near_spans, defScope s_near_spans, [], []⟩,
  ⟨("_law_mixed", none), "_law_mixed", "_law_mixed", defArgs s_l_mixed, defBody s_l_mixed, defScope s_l_mixed, [], []⟩,
  ⟨("_law_store", none), "_law_store", "_law_store", defArgs s_l_store, defBody s_l_store, defScope s_l_store, [], []⟩,
  ⟨("_law_take", none), "_law_take", "_law_take", defArgs s_l_take, defBody s_l_take, defScope s_l_take, [], []⟩,
  ⟨("_law_pick", none), "_law_pick", "_law_pick", defArgs s_l_pick, defBody s_l_pick, defScope s_l_pick, [], []⟩,
  ⟨("_law_gcd", none), "_law_gcd", "_law_gcd", defArgs s_l_gcd, defBody s_l_gcd, defScope s_l_gcd, [], []⟩,
  ⟨("_law_lowest", none), "_law_lowest", "_law_lowest", defArgs s_l_lowest, defBody s_l_lowest, defScope s_l_lowest, [], []⟩,
  ⟨("_law_plus", none), "_law_plus", "_law_plus", defArgs s_l_plus, defBody s_l_plus, defScope s_l_plus, [], []⟩,
  ⟨("_law_minus", none), "_law_minus", "_law_minus", defArgs s_l_minus, defBody s_l_minus, defScope s_l_minus, [], []⟩,
  ⟨("_law_times", none), "_law_times", "_law_times", defArgs s_l_times, defBody s_l_times, defScope s_l_times, [], []⟩,
  ⟨("_law_over", none), "_law_over", "_law_over", defArgs s_l_over, defBody s_l_over, defScope s_l_over, [], []⟩,
  ⟨("_law_sign", none), "_law_sign", "_law_sign", defArgs s_l_sign, defBody s_l_sign, defScope s_l_sign, [], []⟩,
  ⟨("_law_floor", none), "_law_floor", "_law_floor", defArgs s_l_floor, defBody s_l_floor, defScope s_l_floor, [], []⟩,
  ⟨("_law_part", none), "_law_part", "_law_part", defArgs s_l_part, defBody s_l_part, defScope s_l_part, [], []⟩,
  ⟨("_law_offset", none), "_law_offset", "_law_offset", defArgs s_l_offset, defBody s_l_offset, defScope s_l_offset, [], []⟩,
  ⟨("_law_distance", none), "_law_distance", "_law_distance", defArgs s_l_distance, defBody s_l_distance, defScope s_l_distance, [], []⟩,
  ⟨("_law_scale", none), "_law_scale", "_law_scale", defArgs s_l_scale, defBody s_l_scale, defScope s_l_scale, [], []⟩,
  ⟨("_law_ordered", none), "_law_ordered", "_law_ordered", defArgs s_l_ordered, defBody s_l_ordered, defScope s_l_ordered, [], []⟩,
  ⟨("_law_whole", none), "_law_whole", "_law_whole", defArgs s_l_whole, defBody s_l_whole, defScope s_l_whole, [], []⟩,
  ⟨("_law_frac", none), "_law_frac", "_law_frac", defArgs s_l_frac, defBody s_l_frac, defScope s_l_frac, [], []⟩,
  ⟨("_law_positive", none), "_law_positive", "_law_positive", defArgs s_l_positive, defBody s_l_positive, defScope s_l_positive, [], []⟩,
  ⟨("_law_no_zero", none), "_law_no_zero", "_law_no_zero", defArgs s_l_no_zero, defBody s_l_no_zero, defScope s_l_no_zero, [], []⟩,
  ⟨("_law_place", none), "_law_place", "_law_place", defArgs s_l_place, defBody s_l_place, defScope s_l_place, [], []⟩,
  ⟨("_law_moment", none), "_law_moment", "_law_moment", defArgs s_l_moment, defBody s_l_moment, defScope s_l_moment, [], []⟩,
  ⟨("_law_below", none), "_law_below", "_law_below", defArgs s_l_below, defBody s_l_below, defScope s_l_below, [], []⟩,
  ⟨("_law_many", none), "_law_many", "_law_many", defArgs s_l_many, defBody s_l_many, defScope s_l_many, [], []⟩,
  ⟨("_law_span_over", none), "_law_span_over", "_law_span_over", defArgs s_l_span_over, defBody s_l_span_over, defScope s_l_span_over, [], []⟩,
  ⟨("_law_cycle", none), "_law_cycle", "_law_cycle", defArgs s_l_cycle, defBody s_l_cycle, defScope s_l_cycle, [], []⟩,
  ⟨("_law_turns", none), "_law_turns", "_law_turns", defArgs s_l_turns, defBody s_l_turns, defScope s_l_turns, [], []⟩,
  ⟨("_law_rule", none), "_law_rule", "_law_rule", defArgs s_l_rule, defBody s_l_rule, defScope s_l_rule, [], []⟩,
  ⟨("_law_near", none), "_law_near", "_law_near", defArgs s_l_near, defBody s_l_near, defScope s_l_near, [], []⟩,
  ⟨("_law_near_many", none), "_law_near_many", "_law_near_many", defArgs s_l_near_many, defBody s_l_near_many, defScope s_l_near_many, [], []⟩,
  ⟨("_law_shade", none), "_law_shade", "_law_shade", defArgs s_l_shade, defBody s_l_shade, defScope s_l_shade, [], []⟩,
  ⟨("_law_shade_rule", none), "_law_shade_rule", "_law_shade_rule", defArgs s_l_shade_rule, defBody s_l_shade_rule, defScope s_l_shade_rule, [], []⟩,
  ⟨("_law_alike", none), "_law_alike", "_law_alike", defArgs s_l_alike, defBody s_l_alike, defScope s_l_alike, [], []⟩,
  ⟨("_law_answer", none), "_law_answer", "_law_answer", defArgs s_l_answer, defBody s_l_answer, defScope s_l_answer, [], []⟩,
  ⟨("_law_numbers_in", none), "_law_numbers_in", "_law_numbers_in", defArgs s_l_numbers_in, defBody s_l_numbers_in, defScope s_l_numbers_in, [], []⟩,
  ⟨("_law_darkened", none), "_law_darkened", "_law_darkened", defArgs s_l_darkened, defBody s_l_darkened, defScope s_l_darkened, [], []⟩,
  ⟨("_law_roll_due", none), "_law_roll_due", "_law_roll_due", defArgs s_l_roll_due, defBody s_l_roll_due, defScope s_l_roll_due, [], []⟩,
  ⟨("_law_near_right", none), "_law_near_right", "_law_near_right", defArgs s_l_near_right, defBody s_l_near_right, defScope s_l_near_right, [], []⟩,
  ⟨("_law_shade_right", none), "_law_shade_right", "_law_shade_right", defArgs s_l_shade_right, defBody s_l_shade_right, defScope s_l_shade_right, [], []⟩,
  ⟨("_law_form_right", none), "_law_form_right", "_law_form_right", defArgs s_l_form_right, defBody s_l_form_right, defScope s_l_form_right, [], []⟩,
  ⟨("law", none), "law", "law", defArgs s_law, defBody s_law, defScope s_law, [], []⟩]
def tfs : List He.Defn := [("law", none), ("_law_ordered", none), ("_law_form_right", none)]
def oexB (K : PySem.W.Frag) (C : Addr) : Bool := match K.lookup C with
  | some ⟨.type t, _, .cls cd, ⟨[_, _, _, _, some (.builtin b), _]⟩⟩ => (match cd.mro with
    | .ref c :: bm => decide (c = C) && PySem.HandSPX.refsVE bm
    | _ => false) && (decide (t = "type") && (cd.hasDict && (!cd.hasDel && decide (b = "ValueError.__new__"))))
  | _ => false
theorem oexB_ok {K : PySem.W.Frag} {C : Addr} (h : oexB K C = true) : ∃ nm q N bs bm sn sub ab col dd k0 k1 k2 k3 k5, K.lookup C = some (excClassObj nm q C N bs bm true sn sub ab col dd k0 k1 k2 k3 k5 "ValueError.__new__") ∧ PySem.HandSPX.refsVE bm = true := by
  unfold oexB at h
  split at h
  · rename_i t dd cd k0 k1 k2 k3 b k5 hl
    obtain ⟨h1, h2⟩ := Bool.and_eq_true_iff.mp h
    obtain ⟨h3, h4⟩ := Bool.and_eq_true_iff.mp h2
    obtain ⟨h5, h6⟩ := Bool.and_eq_true_iff.mp h4
    obtain ⟨h7, h8⟩ := Bool.and_eq_true_iff.mp h6
    obtain ⟨nm, bs, mr, ns, q, hd, sn, sub, ab, col, hdl⟩ := cd
    split at h1
    · rename_i c bm hm
      obtain ⟨h9, h10⟩ := Bool.and_eq_true_iff.mp h1
      have e1 := of_decide_eq_true h3
      have e2 := of_decide_eq_true h8
      have e3 := of_decide_eq_true h9
      dsimp only at hm h5 h7
      have e4 : hdl = false := by cases hdl; rfl; cases h7
      subst e1 e2 e3 hm h5 e4
      exact ⟨nm, q, ns, bs, bm, sn, sub, ab, col, dd, k0, k1, k2, k3, k5, hl, h10⟩
    · cases h1
  · cases h
def bAll (l : List Bool) : Bool := l.all id
theorem bAll_get {l : List Bool} (h : bAll l = true) (i : Nat) {b : Bool} (e : l[i]? = some b := by rfl) : b = true := List.all_eq_true.mp h b (List.mem_of_getElem? e)
theorem bAll_map {α : Type} {f : α → Bool} {l : List α} (h : bAll (l.map f) = true) {y : α} (hy : y ∈ l) : f y = true := List.all_eq_true.mp h _ (List.mem_map.mpr ⟨y, hy, rfl⟩)
def sq (a b : Option Bool) : Bool := decide (a = b)
theorem sq_ok {a b : Option Bool} (h : sq a b = true) : a = b := of_decide_eq_true h
def insL (K : PySem.W.Frag) (x : Str) : List Bool := [He.eqO (PySem.W.findIn K (.ref (He.ga K x)) "__class__") (some (some (.builtin "object.__class__"))), sq (PySem.W.mroIn K (He.ga K x) (.type "object")) (some true),
  bAll ((["NoneType", "int", "str", "tuple", "list"] : List String).map fun t => sq (PySem.W.kitOne K (.type t) (.ref (He.ga K x))) (some false))]
def errL (K : PySem.W.Frag) (x : Str) : List Bool := [oexB K (He.ga K x), He.eqO (PySem.W.findIn K (.ref (He.ga K x)) "__setattr__") (some (some (.builtin "object.__setattr__"))), sq (PySem.W.subIn K (.ref (He.ga K x)) (.type "BaseException")) (some true),
  decide (PySem.W.typeIn K (.ref (He.ga K x)) = some (.type "type")), PySem.W.keepIn K (.ref (He.ga K x)), He.eqO (PySem.W.findIn K (.ref (He.ga K x)) "__init__") (some (some (.ref (He.ma K (He.ga K x) "__init__")))), decide (PySem.W.typeIn K (.ref (He.ma K (He.ga K x) "__init__")) = some (.type "function")),
  bAll (nine.map fun y => sq (PySem.W.kitOne K (.ref (He.ga K x)) (.ref (He.ga K y))) (some false)), sq (PySem.W.kitOne K (.ref (He.ga K x)) (.type "ValueError")) (some true),
  He.eqO (PySem.W.findIn K (.ref (He.ga K x)) "__getattribute__") (some (some (.builtin "BaseException.__getattribute__"))), He.eqO (PySem.W.findIn K (.ref (He.ga K x)) "__getattr__") (some none), PySem.W.hasDictIn K (He.ga K x),
  He.eqO (PySem.W.findIn K (.ref (He.ga K x)) "__class__") (some (some (.builtin "object.__class__"))), sq (PySem.W.mroIn K (He.ga K x) (.type "object")) (some true)]
def exB (K : PySem.W.Frag) : Bool := bAll [bAll (insL K "Cycle"), bAll (insL K "Span"), bAll (insL K "Shade"), bAll (errL K "BadValue"), bAll (errL K "TooMany"),
  He.eqO (PySem.W.specialIn K (.builtin "object.__class__") "__get__") (some (some (.builtin "getset_descriptor.__get__"))), sq (PySem.W.takesIn K (.builtin "object.__class__")) (some true),
  sq (PySem.W.kitOne K (.ref (He.ga K "BadValue")) (.ref (He.ga K "TooMany"))) (some false), sq (PySem.W.kitOne K (.ref (He.ga K "TooMany")) (.ref (He.ga K "BadValue"))) (some false),
  !decide ((He.cT K ("law", none)).2 = (He.cT K ("_law_ordered", none)).2), !decide ((He.cT K ("law", none)).2 = (He.cT K ("_law_form_right", none)).2), !decide ((He.cT K ("_law_ordered", none)).2 = (He.cT K ("_law_form_right", none)).2)]
/-! ### the look -/
/-- the objects that are looked at, the last first -/
def adW : List Addr := [465, 466, 251, 105, 50, 691, 417, 564, 30, 205, 186, 174, 162, 143, 124, 86, 74, 62, 106, 51, 692, 418, 565, 31, 206, 187, 175, 163, 144, 125, 87, 75, 63, 1131, 1126, 1119, 1112, 1107, 1100, 1093, 1086, 1079, 1072, 1065, 1058, 1051, 1044, 1037, 1030, 1023, 1016, 1009, 1002, 995, 988, 981, 974, 967, 960, 953, 946, 939, 932, 925, 918, 911, 904, 897, 890, 883, 871, 864, 857, 850, 843, 836, 831, 824, 817, 805, 800, 793, 786, 779, 772, 765, 758, 751, 744, 737, 730, 723, 716, 709, 702, 688, 681, 674, 667, 660, 646, 639, 632, 625, 618, 611, 604, 597, 592, 580, 573, 526, 519, 472, 456, 449, 442, 435, 428, 386, 372, 344, 339, 334, 327, 320, 313, 306, 299, 292, 285, 278, 271, 264, 257, 249, 242, 235, 228, 221, 214, 102, 47, 1132, 1127, 1120, 1113, 1108, 1101, 1094, 1087, 1080, 1073, 1066, 1059, 1052, 1045, 1038, 1031, 1024, 1017, 1010, 1003, 996, 989, 982, 975, 968, 961, 954, 947, 940, 933, 926, 919, 912, 905, 898, 891, 884, 872, 865, 858, 851, 844, 837, 832, 825, 818, 806, 801, 794, 787, 780, 773, 766, 759, 752, 745, 738, 731, 724, 717, 710, 703, 689, 682, 675, 668, 661, 647, 640, 633, 626, 619, 612, 605, 598, 593, 581, 574, 527, 520, 473, 457, 450, 443, 436, 429, 387, 373, 345, 340, 335, 328, 321, 314, 307, 300, 293, 286, 279, 272, 265, 258, 250, 243, 236, 229, 222, 215, 103, 48, 3]
/-- these objects but empty tables, as a written list -/
def colL {α : Type} (g : Addr → Option Obj) (k : PySem.W.Frag → α) : List Addr → PySem.W.Frag → α
  | [], acc => k acc
  | m :: r, acc => match g m with
    | some ⟨c, d, dt, sl⟩ => (match He.emptyTab ⟨c, d, dt, sl⟩ with
      | true => colL g k r acc
      | false => colL g k r ((m, ⟨c, d, dt, sl⟩) :: acc))
    | none => colL g k r acc
theorem colL_eq {α : Type} (g : Addr → Option Obj) (k : PySem.W.Frag → α) : ∀ l acc, colL g k l acc = k (colL g id l acc)
  | [], acc => rfl
  | m :: r, acc => by
    unfold colL
    split
    · split
      · exact colL_eq g k r acc
      · exact colL_eq g k r _
    · exact colL_eq g k r acc
theorem colL_mem {g : Addr → Option Obj} : ∀ (l : List Addr) (acc : PySem.W.Frag), (∀ q ∈ acc, g q.1 = some q.2 ∧ He.emptyTab q.2 = false) → ∀ q ∈ colL g id l acc, g q.1 = some q.2 ∧ He.emptyTab q.2 = false
  | [], acc, h => h
  | m :: r, acc, h => by
    unfold colL
    split
    · rename_i c d dt sl ho
      split
      · exact colL_mem r acc h
      · rename_i he
        refine colL_mem r _ fun q hq => ?_
        rcases List.mem_cons.mp hq with rfl | hq
        · exact ⟨ho, he⟩
        · exact h q hq
    · exact colL_mem r acc h
def frW (g : Addr → Option Obj) : PySem.W.Frag := colL g id adW []
theorem frW_get {g : Addr → Option Obj} {a : Addr} {o : Obj} (h : (frW g).lookup a = some o) : g a = some o ∧ He.emptyTab o = false := colL_mem adW [] (fun q hq => (List.not_mem_nil hq).elim) _ (He.lookup_mem h)
def obW (g : Addr → Option Obj) : He.AlX := colL g (fun K => (He.obsT fas fns [] K, exB K && He.tabsB g tfs K)) adW []
theorem obW_eq (g : Addr → Option Obj) : obW g = (He.obsT fas fns [] (frW g), exB (frW g) && He.tabsB g tfs (frW g)) := by
  unfold obW
  rw [colL_eq]
  rfl
theorem tabs_ok {h : Heap} {K : PySem.W.Frag} (hK : ∀ a o, K.lookup a = some o → h.get? a = some o ∧ He.emptyTab o = false) (e : He.tabsB h.get? tfs K = true) {p : He.Defn} (hp : p ∈ tfs) :
    PySem.W.codeHdIn K (He.cT K p).1 (He.cT K p).2 = true ∧ K.lookup (He.cT K p).2 = none ∧ h.get? (He.cT K p).2 = some { cls := .none, data := .fields #[] } := by
  have q := Bool.and_eq_true_iff.mp (List.all_eq_true.mp e p hp)
  cases hg : h.get? (He.cT K p).2 with
  | none => have q2 := q.2; rw [hg] at q2; cases q2
  | some o =>
    have q2 := q.2
    rw [hg] at q2
    have q3 : He.emptyTab o = true := q2
    refine ⟨q.1, ?_, by rw [He.emptyTab_eq q3]⟩
    cases hl : K.lookup (He.cT K p).2 with
    | none => rfl
    | some u =>
      obtain ⟨z1, z2⟩ := hK _ _ hl
      rw [hg] at z1
      cases z1
      rw [q3] at z2
      cases z2
def hkW : PySem.W.Hook where
  α := He.AlX
  obs := fun s => obW s.heap.get?
  val := fun w => He.valX fns [] w
  says := fun w h => ∃ K : PySem.W.Frag, K.In h ∧ He.SaysX fas fns [] tfs exB w h K
  of := fun w s e => by
    rw [obW_eq] at e
    have e1 : He.obsT fas fns [] (frW s.heap.get?) = He.valT fns [] w := congrArg (fun z : He.AlX => z.1) e
    have e2 := Bool.and_eq_true_iff.mp (show (exB (frW s.heap.get?) && He.tabsB s.heap.get? tfs (frW s.heap.get?)) = true from congrArg (fun z : He.AlX => z.2) e)
    have hK : ∀ a o, (frW s.heap.get?).lookup a = some o → s.heap.get? a = some o ∧ He.emptyTab o = false := fun a o h => frW_get h
    exact ⟨_, fun a o h => (hK a o h).1, ⟨e1, e2.1, fun p hp => (tabs_ok hK e2.2 hp).1, fun p hp => (tabs_ok hK e2.2 hp).2.1, fun p hp => (tabs_ok hK e2.2 hp).2.2⟩⟩
  keeps := fun _ _ _ z k => z.elim fun K q => ⟨K, PySem.W.Frag.In.keeps q.1 k, ⟨q.2.t, q.2.more, q.2.hd, q.2.out, fun p hp => k _ _ (q.2.empty p hp)⟩⟩end Wh

set_option Elab.async false
set_option linter.all false
set_option maxRecDepth 100000
set_option maxHeartbeats 0
namespace Wh
open PySem L2 PyProof.Rows DL
abbrev Rw : PySem.W.OpenRow := PySem.W.OpenLaw.row PySem.Challenge.rw_wheelsky_k97_dark_meetings_are_near_whol
abbrev qW : Program := PySem.W.view Rw.prog [139]
def nmW : List Str := PySem.Challenge.pw_wheelsky_k97_dark_meetings_are_near_whol.main.scope.names.map (·.1)
def looseW : List Str := nmW.filter fun x => !(x == "law") && !(x == "__name__")
def xa (K : PySem.W.Frag) : Bool × List He.FnW × Bool := ((fns.take 55).all fun d => d.ok K, (fns.take 55).map fun d => He.fnW K d.at_, (fas.take 43).all fun f => f.ok K)
def xb (K : PySem.W.Frag) : Bool × List He.FnW × Bool := ((fns.drop 55).all fun d => d.ok K, (fns.drop 55).map fun d => He.fnW K d.at_, ((fas.drop 43).take 55).all fun f => f.ok K)
def xc (g : Addr → Option Obj) (K : PySem.W.Frag) : Bool × Bool × Bool := (((fas.drop 43).drop 55).all fun f => f.ok K, exB K, He.tabsB g tfs K)
theorem all_cut {α : Type} (n : Nat) {l : List α} {f : α → Bool} (h1 : (l.take n).all f = true) (h2 : (l.drop n).all f = true) : l.all f = true := by
  have e : l.all f = (l.take n ++ l.drop n).all f := by rw [List.take_append_drop]
  rw [e, List.all_append, h1, h2]
  rfl
theorem map_cut {α β : Type} (n : Nat) {l : List α} {f g : α → β} (h1 : (l.take n).map f = (l.take n).map g) (h2 : (l.drop n).map f = (l.drop n).map g) : l.map f = l.map g := by
  have e : ∀ k : α → β, l.map k = (l.take n ++ l.drop n).map k := fun k => by rw [List.take_append_drop]
  rw [e f, e g, List.map_append, List.map_append, h1, h2]
theorem obW_of {g : Addr → Option Obj} {w : World} (a : colL g xa adW [] = (true, (fns.take 55).map He.DefD.val, true)) (b : colL g xb adW [] = (true, (fns.drop 55).map He.DefD.val, true)) (c : colL g (xc g) adW [] = (true, true, true)) : obW g = hkW.val w := by
  rw [colL_eq] at a b c
  have a : xa (frW g) = (true, (fns.take 55).map He.DefD.val, true) := a
  have b : xb (frW g) = (true, (fns.drop 55).map He.DefD.val, true) := b
  have c : xc g (frW g) = (true, true, true) := c
  have a1 := (Prod.mk.inj a).1
  have a2 := (Prod.mk.inj (Prod.mk.inj a).2).1
  have a3 := (Prod.mk.inj (Prod.mk.inj a).2).2
  have b1 := (Prod.mk.inj b).1
  have b2 := (Prod.mk.inj (Prod.mk.inj b).2).1
  have b3 := (Prod.mk.inj (Prod.mk.inj b).2).2
  have c1 := (Prod.mk.inj c).1
  have c2 := (Prod.mk.inj (Prod.mk.inj c).2).1
  have c3 := (Prod.mk.inj (Prod.mk.inj c).2).2
  have f := all_cut 43 a3 (all_cut 55 b3 c1)
  have d := all_cut 55 a1 b1
  have m := map_cut (f := fun d : He.DefD => He.fnW (frW g) d.at_) (g := He.DefD.val) 55 a2 b2
  rw [obW_eq]
  show ((((fas.all fun f => f.ok (frW g)) && fns.all fun d => d.ok (frW g), fns.map fun d => He.fnW (frW g) d.at_), []), exB (frW g) && He.tabsB g tfs (frW g)) = He.valX fns [] w
  rw [f, d, m, c2, c3]
  rfl
def lookW (s : PySem.W.SharedT) : He.AlX := obW (HandSHeadRun.getT s)
theorem lookW_eq (s : PySem.W.SharedT) : lookW s = hkW.obs s.abs := by
  have e : HandSHeadRun.getT s = s.abs.heap.get? := funext fun a => HandSHeadRun.getT_eq s a
  show obW (HandSHeadRun.getT s) = obW s.abs.heap.get?
  rw [e]
end Wh
namespace Whd
open PySem PySem.W HandSHeadRun Wh
theorem head1 (w : World) (os : OsState) : (endF (stepQ (denQ tabQ) Rw.prog w) 20000 Rw.prog w os).map (fun s => looksF Rw.prog (boot_heap w.params) s.abs) = some true := by
  kernel_rfl
theorem head2 (w : World) (os : OsState) : (endF (stepQ (denQ tabQ) Rw.prog w) 20000 Rw.prog w os).map (fun s => seenQ qW looseW (importedModules Rw.prog.main.body) (fun s => xlAt qW [] s && recOk Rw.toRowW.records s) s.abs) = some (openGood qW looseW) := by
  kernel_rfl
theorem head3 (w : World) (os : OsState) : (endF (stepQ (denQ tabQ) Rw.prog w) 20000 Rw.prog w os).map (fun s => colL (getT s) xa adW []) = some (true, (fns.take 55).map He.DefD.val, true) := by
  kernel_rfl
theorem head4 (w : World) (os : OsState) : (endF (stepQ (denQ tabQ) Rw.prog w) 20000 Rw.prog w os).map (fun s => colL (getT s) xb adW []) = some (true, (fns.drop 55).map He.DefD.val, true) := by
  kernel_rfl
theorem head5 (w : World) (os : OsState) : (endF (stepQ (denQ tabQ) Rw.prog w) 20000 Rw.prog w os).map (fun s => colL (getT s) (xc (getT s)) adW []) = some (true, true, true) := by
  kernel_rfl
theorem headW (w : World) : RunEq Rw qW hkW lookW 20000 looseW w := by
  intro os
  have a := head1 w os
  have a2 := head2 w os
  have b := head3 w os
  have c := head4 w os
  have d := head5 w os
  cases e : (endF (stepQ (denQ tabQ) Rw.prog w) 20000 Rw.prog w os) with
  | none => rw [e] at a; cases a
  | some s =>
    rw [e] at a a2 b c d
    exact congrArg some (Prod.ext (Option.some.inj a) (Prod.ext (Option.some.inj a2) (obW_of (w := w) (Option.some.inj b) (Option.some.inj c) (Option.some.inj d))))
theorem bareW : Rw.prog.bare := ⟨rfl, rfl, rfl, rfl, rfl, by decide +kernel⟩
theorem saidW (h : Rw.wellSaid = true → Rw.Holds) : PySem.Challenge.rw_wheelsky_k97_dark_meetings_are_near_whol.Holds := by
  w_on; o_law
  exact h (by assumption)
end Whd

set_option Elab.async false
set_option linter.all false
set_option maxRecDepth 100000
set_option maxHeartbeats 2000000
/-! Instances: made, their methods, their fields; calls with a keyword. -/
namespace DL
open PySem L2 PyProof.Rows

/-! ### an own instance -/
theorem RepF.put {K : PySem.W.Frag} {G : Hp} {f : Str} {d : D} {v : V} (h : Rep K G d v) : ∀ {fs : List (Str × D)} {gs : List (Str × V)}, RepF K G fs gs → RepF K G (putD f d fs) (putF f v gs)
  | _, _, .nil => .cons h .nil
  | _, _, .cons (n := n) q r => by
    unfold putD putF
    by_cases e : n = f
    · rw [if_pos e, if_pos e]; exact .cons h r
    · rw [if_neg e, if_neg e]; exact .cons q (RepF.put h r)
section
variable {X : Cx} {E : Ent} {ω : List Cell} {δ : DE} {R : D → Prop} {a b c e o : Expr} {pos : Pos}
/-- self.f = e, self the def's own instance -/
theorem sv_fld {Φ : Outs} {f : Str} {p' : Pos} {p A dx : Addr} {fs : List (Str × D)} {ω2 : List Cell} (cl : Cls X.K A) (na : NoAttr X.K A f) (hl : fs.length < 1000) (e1 : ω = Cell.inst X.K p A dx fs :: ω2)
    (h : EV X E ω δ e fun d => EV X E ω δ o fun x => x = .s (.ref p) ∧ Φ.nx (Cell.inst X.K p A dx (putD f d fs) :: ω2) δ)
    (hs : swapsWith e (some (.Attribute o f p')) pos.line X.env = pure false := by rfl) : SV X E ω δ (.Assign [.Attribute o f p'] e pos) Φ :=
  sv_of (ps_fld wE_pe wE_pe hs) fun σ G H D ok en k => h σ G H _ ok en fun v d G1 H1 q ok1 s1 r1 => q σ G1 H1 _ ok1 (en.mono s1) fun w x G2 H2 q2 ok2 s2 r2 => by
    obtain ⟨ex, hq⟩ := q2
    subst ex
    cases r2
    subst e1
    obtain ⟨g0, ob, ho, gs, eo, rf⟩ := ok2.cs _ List.mem_cons_self
    subst eo
    refine ⟨p, A, dx, gs, rfl, ho, cl, na, by rw [← rf.length]; exact hl, ?_⟩
    exact k.nx _ _ σ G2 _ hq (ok2.put (ω1 := []) (c := Cell.inst X.K p A dx fs) (c' := Cell.inst X.K p A dx (putD f d fs)) rfl rfl ⟨_, rfl, RepF.put (r1.mono s2) rf⟩) (s1.trans s2) (en.mono (s1.trans s2))
/-- .. as a target -/
def gFld (K : PySem.W.Frag) (to : TE) (f : Str) : TG := fun y σ H Q => to σ H fun x H2 => ∃ a C dx fs, x = .ref a ∧ H2 a = some (.ins C dx fs) ∧ Cls K C ∧ NoAttr K C f ∧ fs.length < 1000 ∧ Q σ (upd H2 a (.ins C dx (putF f y fs)))
theorem pg_fld {f : Str} {to : TE} (ho : PE X o to) : PG X (.Attribute o f pos) (gFld X.K to f) := by
  refine ⟨fun pins s σ H y u Q I r hw => ?_⟩
  refine PySem.W.kas_attr (thn (ho.run pins s σ H _ I hw) fun ov s2 ⟨x, H2, I2, rx, a, C, dx, fs, ex, ea, c, n, l, q2⟩ => ?_)
  subst ex
  obtain rfl : ov = Value.ref a := rx
  exact setattr_ok I2 ea c n l r fun s3 I3 => ⟨σ, _, I3, q2⟩
/-- self.f, self.g = a pair -/
theorem sv_fld2 {Φ : Outs} {o2 : Expr} {f g : Str} {j : Nat} {p' p2 pt : Pos} {p A dx : Addr} {fs : List (Str × D)} {ω2 : List Cell} (hc : X.calm = true) (cl : Cls X.K A) (na : NoAttr X.K A f) (nb : NoAttr X.K A g) (hl : fs.length < 998) (e1 : ω = Cell.inst X.K p A dx fs :: ω2)
    (h : EV X E ω δ e fun d => ∃ d1 d2, d = .tup [d1, d2] ∧ EV X E ω δ o fun x => x = .s (.ref p) ∧ EV X E (Cell.inst X.K p A dx (putD f d1 fs) :: ω2) δ o2 fun x2 => x2 = .s (.ref p) ∧ Φ.nx (Cell.inst X.K p A dx (putD g d2 (putD f d1 fs)) :: ω2) δ)
    (hl2 : ∀ d1 : D, (putD f d1 fs).length < 1000)
    (hs : swapsWithSole [.Tuple [.Attribute o f p', .Attribute o2 g p2] j pt] e pos.line X.env = pure false := by rfl) (hw : swappedStores [.Tuple [.Attribute o f p', .Attribute o2 g p2] j pt] e X.env = pure none := by rfl) :
    SV X E ω δ (.Assign [.Tuple [.Attribute o f p', .Attribute o2 g p2] j pt] e pos) Φ :=
  sv_of (ps_asg wE_pe (pg_tup hc (pgs_cons (pg_fld wE_pe) (pgs_cons (pg_fld wE_pe) pgs_nil)) rfl rfl) hs hw rfl) fun σ G H D ok en k => h σ G H _ ok en fun v d G1 H1 q ok1 s1 r1 => by
    obtain ⟨d1, d2, ed, q⟩ := q
    subst ed
    cases r1 with
    | @tup pt vs _ hq rl =>
      cases rl with
      | @cons _ v1 _ _ r1 rl =>
        cases rl with
        | @cons _ v2 _ _ r2 rl =>
          cases rl
          refine ⟨pt, [v1, v2], rfl, sqT_mono ok1.gh hq, rfl, v1, [v2], rfl, ?_⟩
          refine q σ G1 H1 _ ok1 (en.mono s1) fun w x G2 H2 q2 ok2 s2 rx => ?_
          obtain ⟨ex, hq2⟩ := q2
          subst ex
          cases rx
          subst e1
          obtain ⟨g0, ob, ho, gs, eo, rf⟩ := ok2.cs _ List.mem_cons_self
          subst eo
          have ok3 := ok2.put (ω1 := []) (ω2 := ω2) (c := Cell.inst X.K p A dx fs) (c' := Cell.inst X.K p A dx (putD f d1 fs)) rfl rfl ⟨putF f v1 gs, rfl, RepF.put (r1.mono s2) rf⟩
          refine ⟨p, A, dx, gs, rfl, ho, cl, na, by rw [← rf.length]; omega, v2, [], rfl, ?_⟩
          refine hq2 σ G2 _ _ ok3 (en.mono (s1.trans s2)) fun w2 x2 G3 H3 q3 ok4 s3 rx2 => ?_
          obtain ⟨ex2, hq3⟩ := q3
          subst ex2
          cases rx2
          obtain ⟨g1, ob2, ho2, gs2, eo2, rf2⟩ := ok4.cs _ List.mem_cons_self
          subst eo2
          refine ⟨p, A, dx, gs2, rfl, ho2, cl, nb, by rw [← rf2.length]; exact hl2 d1, rfl, ?_⟩
          exact k.nx _ _ σ G3 _ hq3 (ok4.put (ω1 := []) (c := Cell.inst X.K p A dx (putD f d1 fs)) (c' := Cell.inst X.K p A dx (putD g d2 (putD f d1 fs))) rfl rfl ⟨_, rfl, RepF.put ((r2.mono s2).mono s3) rf2⟩) ((s1.trans s2).trans s3) (en.mono ((s1.trans s2).trans s3))
end

/-! ### making -/
abbrev SpecI := List D → (List (Str × D) → Prop) → Prop
/-- the promise of an __init__ -/
def spI (K : PySem.W.Frag) (A : Addr) (spec : SpecI) : Sp := fun vs H Q _ =>
  ∃ (p dx : Addr) (vs' : List V) (G : Hp) (ds : List D) (R : List (Str × D) → Prop), vs = .ref p :: vs' ∧ SOk (ent G H [Cell.inst K p A dx []] []) [Cell.inst K p A dx []] G H ∧ RepL K G ds vs' ∧ spec ds R ∧
    ∀ fs G' H', R fs → Same G G' → SOk (ent G H [Cell.inst K p A dx []] []) [Cell.inst K p A dx fs] G' H' → Q .non H'
section
variable {P : Program} {w : World} {K : PySem.W.Frag} {mg : Str → Option Value} {base : Heap} {x qual : Str} {params : Arguments} {body : List Stmt} {scope : Scope} {dvs : List V} {kws : List (Str × V)} {f : Addr} {fd : FuncData}
theorem def_okI {nv : Nat} {N ps Gs : List Str} {k : Nat} {A : Addr} {spec : SpecI} (F : FunD K x qual params body scope dvs kws f fd) (S : ScF nv N ps Gs scope) (len : ∀ ds R, spec ds R → ds.length + 1 = ps.length)
    (hb : ∀ (X : Cx) [XOk X ⟨P, w, K, mg, base, nv, N, Gs, k, none⟩] (sc : X.env.scope = scope) (p dx : Addr) (E : Ent) (ds : List D) (R : List (Str × D) → Prop), spec ds R →
      BV X E [Cell.inst K p A dx []] (zipN N (.s (.ref p) :: ds)) body ⟨fun ω _ => ∃ fs, ω = [Cell.inst K p A dx fs] ∧ R fs, fun _ _ => False, fun _ _ => False, fun _ _ => False⟩) :
    FnOk P w K mg base CX0 (k + 1) f fd ps (spI K A spec) := by
  have hpl : ps.length ≤ N.length := by have := congrArg List.length S.fs.pre; rw [List.length_take] at this; omega
  refine F.ok S.fs (fun vs H Q E h => ?_) (fun cdv A1 outer s H vs Q E hr h => ?_)
  · obtain ⟨p, dx, vs', G, ds, R, rfl, _, r, hs, _⟩ := h
    rw [List.length_cons, ← r.length]
    exact len ds R hs
  · obtain ⟨p, dx, vs', G, ds, R, rfl, ok, r, hs, k⟩ := h
    haveI := cx0_ok (P := P) (w := w) (K := K) (mg := mg) (base := base) (outer := outer) (H := H) (E := E) S hr
    refine ⟨_, PSs.nox (wSs_ps (X := cx0 P w K mg base N qual scope f cdv A1 outer s H E)), ?_⟩
    have hl := len ds R hs
    refine hb (cx0 P w K mg base N qual scope f cdv A1 outer s H E) rfl p dx (ent G H [Cell.inst K p A dx []] []) ds R hs _ G H _ ok (EnvR.start (.cons (.s _) r) (by rw [List.length_cons, hl]; exact hpl)) ⟨fun ω δ σ G' H' q ok' s' _ => ?_, fun ω d v G' H' q _ _ _ => q.elim, fun _ _ _ _ _ q => q.elim, fun _ _ _ _ _ q => q.elim⟩
    obtain ⟨fs, rfl, hR⟩ := q
    exact k fs G' H' hR s' ok'
end
/-- a class that is made by its __init__ -/
structure KnI (P : Program) (w : World) (K : PySem.W.Frag) (mg : Str → Option Value) (base : Heap) (x : Str) (A : Addr) (k : Nat) (spec : SpecI) : Prop where
  ex : ∃ (f : Addr) (fd : FuncData) (ps : List Str), mg x = some (.ref A) ∧ Mk K A f ∧ Binds K fd ps [] ∧ FnOk P w K mg base CX0 k f fd ps (spI K A spec)
/-- the same, the last parameter by a keyword -/
structure KnIK (P : Program) (w : World) (K : PySem.W.Frag) (mg : Str → Option Value) (base : Heap) (x kw : Str) (A : Addr) (n k : Nat) (spec : SpecI) : Prop where
  ex : ∃ (f : Addr) (fd : FuncData) (ps : List Str), mg x = some (.ref A) ∧ Mk K A f ∧ KBn K fd ps (n + 1) [kw] (fun us ws => us ++ ws) (fun vs zs => vs ++ zs) ∧ FnOk P w K mg base CX0 k f fd ps (spI K A spec)
structure KnM (P : Program) (w : World) (K : PySem.W.Frag) (mg : Str → Option Value) (base : Heap) (CX : CXT) (A : Addr) (m : Str) (k : Nat) (sp : Sp) : Prop where
  ex : ∃ (f : Addr) (fd : FuncData) (ps : List Str), Cls K A ∧ Meth K A m f ∧ Binds K fd ps [] ∧ FnOk P w K mg base CX k f fd ps sp
structure KnK (P : Program) (w : World) (K : PySem.W.Frag) (mg : Str → Option Value) (base : Heap) (CX : CXT) (x kw : Str) (n k : Nat) (sp : Sp) : Prop where
  ex : ∃ (f : Addr) (fd : FuncData) (ps : List Str), mg x = some (.ref f) ∧ PySem.W.keepIn K (.ref f) = true ∧ KBn K fd ps n [kw] (fun us ws => us ++ ws) (fun vs zs => vs ++ zs) ∧ FnOk P w K mg base CX k f fd ps sp
section
variable {E : Ent} {ω : List Cell} {G H G' H' : Hp} {T : List (Addr × Str)}
theorem SOk.step_new (k : SOk E ω G H) {p : Addr} {o : HO} (hp : H p = none) : SOk E ω G (upd H p o) := by
  have sH : Same H (upd H p o) := fun b u e => by rw [upd_ne (ne_of_none e hp)]; exact e
  refine ⟨fun b u e => sH _ _ (k.gh b u e), k.nt, k.nd, fun c hc => ?_, k.cf, k.tb.ext sH, k.tm, k.fr, fun b u hm hn e => sH _ _ (k.kp b u hm hn e), fun b e => ?_⟩
  · obtain ⟨g, u, e, q⟩ := k.cs c hc
    exact ⟨g, u, sH _ _ e, q⟩
  · by_cases hb : b = p
    · subst hb; rw [upd_same] at e; cases e
    · rw [upd_ne hb] at e; exact k.al b e
theorem SOk.back1 {c c' : Cell} (k : SOk E (c :: ω) G H) (ea : c'.a = c.a) (s : Same G G') (k2 : SOk (ent G H [c] []) [c'] G' H') : SOk E (c' :: ω) G' H' := by
  have nd := k.nd
  have keep : ∀ x, x ∈ ω → ∀ o, H x.a = some o → H' x.a = some o := fun x hx o e => by
    refine k2.kp _ _ (fun z => ?_) (fun z => absurd rfl z) e
    rcases z with ⟨c1, hc1, e1⟩ | ⟨t, ht, _⟩
    · rw [List.mem_singleton] at hc1
      subst hc1
      rw [List.map_cons, List.nodup_cons] at nd
      exact nd.1 (List.mem_map.mpr ⟨x, hx, e1.symm⟩)
    · cases ht
  have notM : ∀ p, (ent G H [c] []).M0 p → p = c.a := fun p z => by
    rcases z with ⟨c1, hc1, e1⟩ | ⟨t, ht, _⟩
    · rw [List.mem_singleton] at hc1
      subst hc1
      exact e1.symm
    · cases ht
  have frE : ∀ p, (ent G H [c] []).Fr p → E.Fr p := fun p z => by
    rcases z with z | z | ⟨hn, _⟩
    · rw [notM p z]; exact k.cf c List.mem_cons_self
    · exact k.al p z
    · exact absurd rfl hn
  refine ⟨k2.gh, k2.nt, by rw [List.map_cons, ea]; exact nd, fun x hx => ?_, fun x hx => ?_, fun t ht => ?_, k.tm, fun p o e => ?_, fun p o hm hn e => ?_, fun p e => frE p (k2.al p e)⟩
  · rcases List.mem_cons.mp hx with rfl | hx
    · exact k2.cs _ List.mem_cons_self
    · obtain ⟨g, o, e, q⟩ := k.cs x (List.mem_cons_of_mem _ hx)
      refine ⟨?_, o, keep x hx o e, x.mono s q⟩
      cases q2 : G' x.a with
      | none => rfl
      | some u =>
        rcases k2.fr x.a u q2 with z | z | z | ⟨hn, _⟩
        · rw [show G x.a = _ from z] at g; cases g
        · rw [List.map_cons, List.nodup_cons] at nd
          exact absurd (List.mem_map.mpr ⟨x, hx, notM _ z⟩) nd.1
        · rw [show H x.a = _ from z] at e; cases e
        · exact absurd rfl hn
  · rcases List.mem_cons.mp hx with rfl | hx
    · rw [ea]; exact k.cf c List.mem_cons_self
    · exact k.cf x (List.mem_cons_of_mem _ hx)
  · obtain ⟨g, o, e, q⟩ := k.cs c List.mem_cons_self
    obtain ⟨ps, h1, h2, h3⟩ := k.tb t ht
    refine ⟨ps, k2.kp _ _ (fun z => ?_) (fun z => absurd rfl z) h1, h2, fun pos cv hc => ?_⟩
    · rw [notM _ z, e] at h1
      exact Cell.ntbl q ps (Option.some.inj h1)
    · obtain ⟨c', e1, e2⟩ := h3 pos cv hc
      refine ⟨c', e1, k2.kp _ _ (fun z => ?_) (fun z => absurd rfl z) e2⟩
      rw [notM _ z, e] at e2
      exact Cell.ncode q _ _ (Option.some.inj e2)
  · rcases k2.fr p o e with z | z
    · exact k.fr p o z
    · exact .inr (frE p z)
  · refine k2.kp p o (fun z => ?_) (fun z => absurd rfl z) (k.kp p o hm hn e)
    have := notM p z
    subst this
    rcases k.cf c List.mem_cons_self with w | w | ⟨w1, ps, w⟩
    · exact hm w
    · rw [w] at e; cases e
    · rw [w] at e; cases e; exact hn w1 ps rfl
end
section
variable {X : Cx} {E : Ent} {ω : List Cell} {δ : DE} {R : D → Prop} {a b c e o : Expr} {pos : Pos}
/-- what a making asks: the instance is known from then on -/
theorem make_core {A : Addr} {spec : SpecI} {G1 H1 : Hp} {vs : List V} {ds : List D} {Q : VK} {Ex : XK} (ok1 : SOk E ω G1 H1) (r1 : RepL X.K G1 ds vs) (hs : spec ds fun fs => R (.ins A fs)) (k : ∀ v d G' H', R d → SOk E ω G' H' → Same G1 G' → Rep X.K G' d v → Q v H') :
    ∀ x dx, H1 x = none → H1 dx = none → dx ≠ x → spI X.K A spec (.ref x :: vs) (upd (upd H1 dx (.own x)) x (.ins A dx [])) (fun v H2 => v = .non ∧ Q (.ref x) H2) Ex := by
  intro x dx hx hdx hne
  have ok2 := (ok1.step_new (o := .own x) hdx).cell (c := Cell.inst X.K x A dx []) (o := .ins A dx []) (show upd H1 dx (.own x) x = none by rw [upd_ne (Ne.symm hne)]; exact hx) ⟨[], rfl, .nil⟩
  refine ⟨x, dx, vs, G1, ds, fun fs => R (.ins A fs), rfl, ok2.enter (ωc := [Cell.inst X.K x A dx []]) (List.Sublist.cons₂ _ (List.nil_sublist _)) (.inl rfl), r1, hs, fun fs G' H' hR s' ok3 => ⟨rfl, ?_⟩⟩
  have ok4 := ok2.back1 (c' := Cell.inst X.K x A dx fs) rfl s' ok3
  obtain ⟨ob, G2, ho, hP, g2, s2, ok5⟩ := ok4.freeze (ω1 := []) (c := Cell.inst X.K x A dx fs) rfl (ok1.al x hx)
  obtain ⟨gs, eo, rf⟩ := hP
  subst eo
  exact k _ _ G2 H' hR ok5 (s'.trans s2) (.ins g2 (rf.mono s2))
variable {C : CtxI} [hx : XOk X C]
theorem w_make (j : Nat) {x : Str} {A : Addr} {k0 : Nat} {spec : SpecI} {es : List Expr} {p : Pos} (M : KnI C.P C.w C.K C.mg C.base x A k0 spec) (hk : Nat.ble (k0 + 1) C.k = true) (hj : C.Gs[j]? = some x) (h : EA X E ω δ (e :: es) fun ds => spec ds fun fs => R (.ins A fs))
    (he : starEach (e :: es) X.env = (false, eval e X.env) :: starEach es X.env := by rfl) (hpl : (backTo pos (starEach es X.env)).any (·.1) = false := by rfl) : EV X E ω δ (.Call (.Name x p) (e :: es) [] pos) R := by
  obtain ⟨f, fd, ps, h1, h2, h3, h4⟩ := M.ex
  refine ev_of (pe_make (E := E0) (sp := spI X.K A spec) (by rw [hx.K]; exact h2) (by rw [hx.prog, hx.w, hx.K, hx.mg, hx.base]; exact h4) (hx.room.mono (Nat.le_of_ble_eq_true hk)) (hx.gl.g hj) (by rw [hx.mg]; exact h1) (by rw [hx.K]; exact h3) .nil pass0 wA_pa (hx.gl.gl j x hj).2 he hpl) ?_
  intro σ G H Q ok en k
  refine h σ G H _ ok en fun vs ds G1 H1 q ok1 s1 r1 => ?_
  rw [List.append_nil]
  exact make_core ok1 r1 q fun v d G' H' hR ok' s' r' => k v d G' H' hR ok' (s1.trans s') r'
theorem w_makeK (j : Nat) {x kw : Str} {A : Addr} {n k0 : Nat} {spec : SpecI} {es : List Expr} {p pk : Pos} (M : KnIK C.P C.w C.K C.mg C.base x kw A n k0 spec) (hk : Nat.ble (k0 + 1) C.k = true) (hj : C.Gs[j]? = some x)
    (h : EA X E ω δ (e :: es) fun ds => ds.length = n ∧ EV X E ω δ a fun d => spec (ds ++ [d]) fun fs => R (.ins A fs))
    (hall : (backToKw pos (keywordEach [⟨some kw, a, pk⟩] X.env)).all (·.1.isSome) = true := by rfl) (hks : (backToKw pos (keywordEach [⟨some kw, a, pk⟩] X.env)).filterMap (·.1) = [kw] := by rfl)
    (he : starEach (e :: es) X.env = (false, eval e X.env) :: starEach es X.env := by rfl) (hpl : ((backTo pos (starEach (e :: es) X.env)).any (·.1) || (backToKw pos (keywordEach [⟨some kw, a, pk⟩] X.env)).any (·.1.isNone)) = false := by rfl) :
    EV X E ω δ (.Call (.Name x p) (e :: es) [⟨some kw, a, pk⟩] pos) R := by
  obtain ⟨f, fd, ps, h1, h2, h3, h4⟩ := M.ex
  refine ev_of (pe_makeK (E := E0) (sp := spI X.K A spec) (by rw [hx.K]; exact h2) (by rw [hx.prog, hx.w, hx.K, hx.mg, hx.base]; exact h4) (hx.room.mono (Nat.le_of_ble_eq_true hk)) (hx.gl.g hj) (by rw [hx.mg]; exact h1) (by rw [hx.K]; exact h3) pass0 wA_pa (pk_cons wE_pe pk_nil) hall hks (hx.gl.gl j x hj).2 he hpl) ?_
  intro σ G H Q ok en k
  refine h σ G H _ ok en fun vs ds G1 H1 q ok1 s1 r1 => ?_
  refine q.2 σ G1 H1 _ ok1 (en.mono s1) fun v d G2 H2 q2 ok2 s2 r2 => ?_
  refine ⟨by rw [← r1.length]; exact q.1, rfl, ?_⟩
  exact make_core (ds := ds ++ [d]) (vs := vs ++ [v]) ok2 ((r1.mono s2).append (.one r2)) q2 fun v d G' H' hR ok' s' r' => k v d G' H' hR ok' ((s1.trans s2).trans s') r'
theorem w_callK (j : Nat) {x kw : Str} {n k0 : Nat} {spec : SpecD} {es : List Expr} {p pk : Pos} (M : KnK C.P C.w C.K C.mg C.base CX0 x kw n k0 (spP C.K spec)) (hk : Nat.ble k0 C.k = true) (hj : C.Gs[j]? = some x)
    (h : EA X E ω δ (e :: es) fun ds => ds.length = n ∧ EV X E ω δ a fun d => spec (ds ++ [d]) R)
    (hall : (backToKw pos (keywordEach [⟨some kw, a, pk⟩] X.env)).all (·.1.isSome) = true := by rfl) (hks : (backToKw pos (keywordEach [⟨some kw, a, pk⟩] X.env)).filterMap (·.1) = [kw] := by rfl)
    (he : starEach (e :: es) X.env = (false, eval e X.env) :: starEach es X.env := by rfl) (hpl : ((backTo pos (starEach (e :: es) X.env)).any (·.1) || (backToKw pos (keywordEach [⟨some kw, a, pk⟩] X.env)).any (·.1.isNone)) = false := by rfl) :
    EV X E ω δ (.Call (.Name x p) (e :: es) [⟨some kw, a, pk⟩] pos) R := by
  obtain ⟨f, fd, ps, h1, h2, h3, h4⟩ := M.ex
  refine ev_of (pe_callN (E := E0) (sp := spP X.K spec) (by rw [hx.prog, hx.w, hx.K, hx.mg, hx.base]; exact h4) (hx.room.mono (Nat.le_of_ble_eq_true hk)) (hx.gl.g hj) (by rw [hx.mg]; exact h1) (by rw [hx.K]; exact h2) (by rw [hx.K]; exact h3) pass0 wA_pa (pk_cons wE_pe pk_nil) hall hks (hx.gl.gl j x hj).2 he hpl) ?_
  intro σ G H Q ok en k
  refine h σ G H _ ok en fun vs ds G1 H1 q ok1 s1 r1 => ?_
  refine q.2 σ G1 H1 _ ok1 (en.mono s1) fun v d G2 H2 q2 ok2 s2 r2 => ?_
  refine ⟨by rw [← r1.length]; exact q.1, rfl, ?_⟩
  exact ⟨G2, ds ++ [d], R, ok2.enter (List.nil_sublist _) (.inl rfl), (r1.mono s2).append (.one r2), q2, fun v d G3 H3 hR s3 k3 r3 => k v d G3 H3 hR (ok2.back (List.nil_sublist _) (.inl rfl) s3 k3) ((s1.trans s2).trans s3) r3⟩
/-- a method -/
theorem w_meth {m : Str} {A : Addr} {k0 : Nat} {spec : SpecD} {es : List Expr} {apos : Pos} {pl : Sem Bool} (M : KnM C.P C.w C.K C.mg C.base CX0 A m k0 (spP C.K spec)) (hk : Nat.ble k0 C.k = true)
    (h : EV X E ω δ a fun x => ∃ fs, x = .ins A fs ∧ fs.lookup m = none ∧ EA X E ω δ (e :: es) fun ds => spec (x :: ds) R)
    (he : starEach (e :: es) X.env = (false, eval e X.env) :: starEach es X.env := by rfl) (hpl : (backTo pos (starEach es X.env)).any (·.1) = false := by rfl)
    (ht : eval (.Call (.Attribute a m apos) (e :: es) [] pos) X.env = (do
      let ov ← eval a X.env
      standAt apos.atName
      let (f, first) ← holding [ov] (getMethod ov m pl)
      callWith pos f first (backTo pos (starEach (e :: es) X.env)) (backToKw pos (keywordEach [] X.env))) := by rfl) :
    EV X E ω δ (.Call (.Attribute a m apos) (e :: es) [] pos) R := by
  obtain ⟨f, fd, ps, h1, h2, h3, h4⟩ := M.ex
  refine ev_of (pe_meth (E := E0) (sp := spP X.K spec) wE_pe (by rw [hx.K]; exact h1) (by rw [hx.K]; exact h2) (by rw [hx.prog, hx.w, hx.K, hx.mg, hx.base]; exact h4) (hx.room.mono (Nat.le_of_ble_eq_true hk)) (by rw [hx.K]; exact h3) .nil pass0 wA_pa he hpl ht) ?_
  intro σ G H Q ok en k
  refine h σ G H _ ok en fun v d G1 H1 q ok1 s1 r1 => ?_
  obtain ⟨fs, e1, hl, q⟩ := q
  subst e1
  cases r1 with
  | @ins p0 _ dx gs _ hp rf =>
    refine ⟨p0, dx, gs, rfl, ok1.gh _ _ hp, rf.lookup_none hl, q σ G1 H1 _ ok1 (en.mono s1) fun vs ds G2 H2 q2 ok2 s2 r2 => ?_⟩
    rw [List.append_nil]
    exact ⟨G2, .ins A fs :: ds, R, ok2.enter (List.nil_sublist _) (.inl rfl), .cons (.ins (s2 _ _ hp) (rf.mono s2)) r2, q2, fun v d G3 H3 hR s3 k3 r3 => k v d G3 H3 hR (ok2.back (List.nil_sublist _) (.inl rfl) s3 k3) ((s1.trans s2).trans s3) r3⟩
end
end DL

set_option Elab.async false
set_option linter.all false
set_option maxRecDepth 100000
set_option maxHeartbeats 2000000
/-! Defs that may raise. -/
namespace DL
open PySem L2 PyProof.Rows

/-- nothing old may change -/
structure Ent.Pu (E : Ent) : Prop where
  m : ∀ p, ¬ E.M0 p
  t : E.T = []
theorem SOk.same {E : Ent} {ω : List Cell} {G H : Hp} (k : SOk E ω G H) (hM : E.Pu) : Same E.H0 H := fun b u z => k.kp b u (hM.m b) (fun z => absurd hM.t z) z
theorem Ent.Fr.none {E : Ent} {p : Addr} (h : E.Fr p) (hM : E.Pu) : E.H0 p = none := by
  rcases h with z | z | ⟨z, _⟩
  · exact absurd z (hM.m p)
  · exact z
  · exact absurd hM.t z
theorem ent_pu {G H : Hp} : (ent G H [] []).Pu := ⟨fun p z => by rcases z with ⟨c, hc, _⟩ | ⟨t, ht, _⟩ <;> contradiction, rfl⟩
/-- what is told of an exception: its class and its fields -/
abbrev RxT := Addr → List (Str × V) → Prop
abbrev SpecX := List D → (D → Prop) → RxT → Prop
def WXd (H0 : Hp) (Rx : RxT) : WX := fun cls d _ H => ∃ C fs dx, cls = .ref C ∧ d = some dx ∧ Rx C fs ∧ Same H0 H ∧ H0 dx = none ∧ H dx = some (.xd fs)
def spX (K : PySem.W.Frag) (spec : SpecX) : Sp := fun vs H Q E =>
  ∃ (G : Hp) (ds : List D) (R : D → Prop) (Rx : RxT), SOk (ent G H [] []) [] G H ∧ RepL K G ds vs ∧ spec ds R Rx ∧ (∀ v d G' H', R d → Same G G' → SOk (ent G H [] []) [] G' H' → Rep K G' d v → Q v H') ∧ ∀ cls d σ H', WXd H Rx cls d σ H' → E cls d H'
section
variable {X : Cx} {E : Ent} {ω : List Cell} {δ : DE} {R : D → Prop} {a b c e o : Expr} {pos : Pos} {C : CtxI} [hx : XOk X C]
theorem w_callX (j : Nat) {x : Str} {k0 : Nat} {spec : SpecX} {es : List Expr} {p : Pos} {Rx : RxT} (F : Kn C.P C.w C.K C.mg C.base (L2.CX C.P C.w) x k0 (spX C.K spec)) (hk : Nat.ble k0 C.k = true) (hj : C.Gs[j]? = some x) (tk : Takes X (WXd E.H0 Rx)) (hM : E.Pu)
    (h : EA X E ω δ (e :: es) fun ds => spec ds R Rx)
    (he : starEach (e :: es) X.env = (false, eval e X.env) :: starEach es X.env := by rfl) (hpl : (backTo pos (starEach es X.env)).any (·.1) = false := by rfl) : EV X E ω δ (.Call (.Name x p) (e :: es) [] pos) R := by
  have F' : Kn X.prog X.w X.K X.mg X.base (L2.CX X.prog X.w) x k0 (spX X.K spec) := by rw [hx.prog, hx.w, hx.K, hx.mg, hx.base]; exact F
  obtain ⟨f, fd, ps, h1, h2, h3, h4⟩ := F'.ex
  refine ev_of (pe_call (E := fun cls d H => WXd E.H0 Rx cls d [] H) h4 (hx.room.mono (Nat.le_of_ble_eq_true hk)) (hx.gl.g hj) h1 h2 h3 .nil (passes_call tk fun cls d σ H z => z) wA_pa (hx.gl.gl j x hj).2 he hpl) ?_
  intro σ G H Q ok en k
  refine h σ G H _ ok en fun vs ds G1 H1 q ok1 s1 r1 => ?_
  rw [List.append_nil]
  have s0 : Same E.H0 H1 := ok1.same hM
  exact ⟨G1, ds, R, Rx, ok1.enter (List.nil_sublist _) (.inl rfl), r1, q, fun v d G2 H2 hr s2 k2 r2 => k v d G2 H2 hr (ok1.back (List.nil_sublist _) (.inl rfl) s2 k2) (s1.trans s2) r2,
    fun cls d σ' H' ⟨A, fs, dx, e1, e2, hr, s2, hd, hd2⟩ => ⟨A, fs, dx, e1, e2, hr, s0.trans s2, s0.free hd, hd2⟩⟩
/-- a def that may raise, called where nothing is let out: the way of the raise is shut -/
theorem w_callN (j : Nat) {x : Str} {k0 : Nat} {spec : SpecX} {es : List Expr} {p : Pos} (F : Kn C.P C.w C.K C.mg C.base (L2.CX C.P C.w) x k0 (spX C.K spec)) (hk : Nat.ble k0 C.k = true) (hj : C.Gs[j]? = some x)
    (h : EA X E ω δ (e :: es) fun ds => spec ds R fun _ _ => False)
    (he : starEach (e :: es) X.env = (false, eval e X.env) :: starEach es X.env := by rfl) (hpl : (backTo pos (starEach es X.env)).any (·.1) = false := by rfl) : EV X E ω δ (.Call (.Name x p) (e :: es) [] pos) R := by
  have F' : Kn X.prog X.w X.K X.mg X.base (L2.CX X.prog X.w) x k0 (spX X.K spec) := by rw [hx.prog, hx.w, hx.K, hx.mg, hx.base]; exact F
  obtain ⟨f, fd, ps, h1, h2, h3, h4⟩ := F'.ex
  refine ev_of (pe_call (E := fun _ _ _ => False) h4 (hx.room.mono (Nat.le_of_ble_eq_true hk)) (hx.gl.g hj) h1 h2 h3 .nil passL wA_pa (hx.gl.gl j x hj).2 he hpl) ?_
  intro σ G H Q ok en k
  refine h σ G H _ ok en fun vs ds G1 H1 q ok1 s1 r1 => ?_
  rw [List.append_nil]
  exact ⟨G1, ds, R, fun _ _ => False, ok1.enter (List.nil_sublist _) (.inl rfl), r1, q, fun v d G2 H2 hr s2 k2 r2 => k v d G2 H2 hr (ok1.back (List.nil_sublist _) (.inl rfl) s2 k2) (s1.trans s2) r2, fun cls d σ' H' ⟨A, fs, dx, e1, e2, hr, s2, hd, hd2⟩ => hr⟩
/-! ### an own error -/
def spEx (K : PySem.W.Frag) (A : Addr) (f : Str) : Sp := fun vs H Q _ => ∃ (a : Addr) (v : V), vs = [.ref a, v] ∧ H a = some (exo a A none) ∧ ∀ dx, H dx = none → dx ≠ a → Q .non (upd (upd H dx (exd dx [(f, v)])) a (exo a A (some dx)))
structure KnE (P : Program) (w : World) (K : PySem.W.Frag) (mg : Str → Option Value) (base : Heap) (x : Str) (A : Addr) (f : Str) (k : Nat) : Prop where
  ex : ∃ (fI : Addr) (fd : FuncData) (ps : List Str), mg x = some (.ref A) ∧ OexC K A ∧ PySem.W.findIn K (.ref A) "__init__" = some (some (.ref fI)) ∧ PySem.W.typeIn K (.ref fI) = some (.type "function") ∧ Binds K fd ps [] ∧ FnOk P w K mg base CX0 k fI fd ps (spEx K A f)
theorem w_raise (j : Nat) {Φ : Outs} {x f : Str} {A : Addr} {k0 : Nat} {p p2 : Pos} {Rx : RxT} (M : KnE C.P C.w C.K C.mg C.base x A f k0) (hk : Nat.ble (k0 + 1) C.k = true) (hj : C.Gs[j]? = some x) (tk : Takes X (WXd E.H0 Rx)) (hM : E.Pu)
    (h : EV X E ω δ e fun d => ∃ v, d = .s v ∧ Rx A [(f, v)])
    (he : starEach [e] X.env = (false, eval e X.env) :: starEach [] X.env := by rfl) (hpl : (backTo pos (starEach [] X.env)).any (·.1) = false := by rfl) : SV X E ω δ (.Raise (some (.Call (.Name x p) [e] [] pos)) none p2) Φ := by
  obtain ⟨fI, fd, ps, h1, h2, h3, h4, h5, h6⟩ := M.ex
  refine sv_of (ps_raise hx.calm tk (pmk_oex (sp := spEx X.K A f) (by rw [hx.K]; exact h2) (by rw [hx.K]; exact h3) (by rw [hx.K]; exact h4) (by rw [hx.prog, hx.w, hx.K, hx.mg, hx.base]; exact h6) (hx.room.mono (Nat.le_of_ble_eq_true hk)) (by rw [hx.K]; exact h5) .nil pass0 (hx.gl.g hj) (by rw [hx.mg]; exact h1) (pa_cons wE_pe pa_nil he) (hx.gl.gl j x hj).2 he hpl)) ?_
  intro σ G H D ok en k
  refine h σ G H _ ok en fun v d G1 H1 q ok1 s1 r1 => ?_
  obtain ⟨v0, e1, hR⟩ := q
  subst e1
  cases r1
  refine ⟨by show 1 ≤ 1000; decide, fun a ha => ⟨a, _, rfl, upd_same, fun dx hdx hne => ⟨rfl, dx, [(f, v)], upd_same, ?_, ?_, ?_⟩⟩⟩
  · rw [upd_ne hne, upd_same]
  · rw [upd_ne hne] at hdx; exact hdx
  · have hd1 : H1 dx = none := by rw [upd_ne hne] at hdx; exact hdx
    refine ⟨A, [(f, v)], dx, rfl, rfl, hR, fun b u z => ?_, (ok1.al dx hd1).none hM, upd_same⟩
    have z1 := ok1.same hM b u z
    rw [upd_ne (ne_of_none z1 hd1)]
    rw [del_ne (ne_of_none z1 ha), upd_ne (ne_of_none z1 ha), upd_ne (ne_of_none z1 hd1), upd_ne (ne_of_none z1 ha)]
    exact z1
end
section
variable {P : Program} {w : World} {K : PySem.W.Frag} {mg : Str → Option Value} {base : Heap} {x qual : Str} {params : Arguments} {body : List Stmt} {scope : Scope} {dvs : List V} {kws : List (Str × V)} {f : Addr} {fd : FuncData}
theorem cxX_ok {nv : Nat} {N ps Gs : List Str} {k : Nat} (S : ScF nv N ps Gs scope) {cdv : Value} {A : Around} {outer : List Env} {s : Shared} {H : Hp} {E : XK} (hr : Room k (A.deeper (envOfC qual scope s.heap.objs.size f cdv))) :
    XOk (cxOf (L2.CX P w) P w K mg base N qual scope f cdv A outer s H E) ⟨P, w, K, mg, base, nv, N, Gs, k, none⟩ where
  prog := rfl
  w := rfl
  K := rfl
  mg := rfl
  base := rfl
  N := rfl
  calm := rfl
  nm := fun i x h hv => S.nm.vis i x hv h
  gl := S.gl
  room := hr
  lo := fun _ => S.lo
  fn := fun _ _ => rfl
  kind := fun _ => S.fs.kind
  ps := passes_of rfl
theorem def_okX {nv : Nat} {N ps Gs : List Str} {k : Nat} {spec : SpecX} (F : FunD K x qual params body scope dvs kws f fd) (S : ScF nv N ps Gs scope) (len : ∀ ds R Rx, spec ds R Rx → ds.length = ps.length)
    (hb : ∀ (X : Cx) [XOk X ⟨P, w, K, mg, base, nv, N, Gs, k, none⟩] (sc : X.env.scope = scope) (G H : Hp) (ds : List D) (R : D → Prop) (Rx : RxT) (tk : Takes X (WXd H Rx)), spec ds R Rx →
      BV X (ent G H [] []) [] (zipN N ds) body ⟨fun _ _ => R .non, fun _ d => R d, fun _ _ => False, fun _ _ => False⟩) :
    FnOk P w K mg base (L2.CX P w) (k + 1) f fd ps (spX K spec) := by
  have hpl : ps.length ≤ N.length := by have := congrArg List.length S.fs.pre; rw [List.length_take] at this; omega
  refine F.ok S.fs (fun vs H Q E h => ?_) (fun cdv A outer s H vs Q E hr h => ?_)
  · obtain ⟨G, ds, R, Rx, _, r, hs, _⟩ := h
    rw [← r.length]
    exact len ds R Rx hs
  · obtain ⟨G, ds, R, Rx, ok, r, hs, k, kx⟩ := h
    haveI := cxX_ok (P := P) (w := w) (K := K) (mg := mg) (base := base) (outer := outer) (H := H) (E := E) S hr
    refine ⟨_, wSs_ps (X := cxOf (L2.CX P w) P w K mg base N qual scope f cdv A outer s H E), ?_⟩
    have hl := len ds R Rx hs
    have tk : Takes (cxOf (L2.CX P w) P w K mg base N qual scope f cdv A outer s H E) (WXd H Rx) := (takes_of (X := cxOf (L2.CX P w) P w K mg base N qual scope f cdv A outer s H E) rfl rfl rfl rfl).imp fun cls d σ H' z => kx cls d σ H' z
    refine hb (cxOf (L2.CX P w) P w K mg base N qual scope f cdv A outer s H E) rfl G H ds R Rx tk hs _ G H _ ok (EnvR.start r (by rw [hl]; exact hpl)) ⟨fun ω δ σ G' H' p ok' s' _ => ?_, fun ω d v G' H' p ok' s' r' => ?_, fun _ _ _ _ _ p => p.elim, fun _ _ _ _ _ p => p.elim⟩
    · exact k .non .non G' H' p s' (ok'.drop (List.nil_sublist _)) (.s _)
    · exact k v d G' H' p s' (ok'.drop (List.nil_sublist _)) r'
/-- an exception's __init__ that stores one field -/
theorem def_okE {nv : Nat} {N Gs : List Str} {k : Nat} {A : Addr} {f1 a0 a1 : Str} {p1 p2 p3 p4 : Pos} (T : OexC K A) (no : PySem.W.findIn K (.ref A) f1 = some none) (F : FunD K x qual params [.Assign [.Attribute (.Name a0 p1) f1 p2] (.Name a1 p3) p4] scope dvs kws f fd) (S : ScF nv N [a0, a1] Gs scope)
    (hv : Nat.ble 2 nv = true) (h0 : N[0]? = some a0) (h1 : N[1]? = some a1) (hl : N.length = 2) : FnOk P w K mg base CX0 (k + 1) f fd [a0, a1] (spEx K A f1) := by
  refine F.ok S.fs (fun vs H Q E h => ?_) (fun cdv A1 outer s H vs Q E hr h => ?_)
  · obtain ⟨a, v, rfl, _⟩ := h
    rfl
  · obtain ⟨a, v, rfl, ha, k⟩ := h
    have hv0 : Nat.blt 0 nv = true := Nat.blt_eq.mpr (by have := Nat.le_of_ble_eq_true hv; omega)
    have hv1 : Nat.blt 1 nv = true := Nat.blt_eq.mpr (by have := Nat.le_of_ble_eq_true hv; omega)
    refine ⟨_, PSs.nox (pss_one (ps_ost (X := cx0 P w K mg base N qual scope f cdv A1 outer s H E) (pe_var (i := 0) h0 (S.nm.vis 0 a0 hv0 h0).1 (S.nm.vis 0 a0 hv0 h0).2.1 (S.nm.vis 0 a0 hv0 h0).2.2) (pe_var (i := 1) h1 (S.nm.vis 1 a1 hv1 h1).1 (S.nm.vis 1 a1 hv1 h1).2.1 (S.nm.vis 1 a1 hv1 h1).2.2))), ?_⟩
    have est : start N [.ref a, v] = [some (.ref a), some v] := by
      unfold L2.start
      rw [hl]
      rfl
    rw [est]
    exact ⟨v, rfl, .ref a, rfl, a, A, rfl, T, no, .inl ⟨ha, fun dx hdx hne => k dx hdx hne⟩⟩
end
end DL

set_option Elab.async false
set_option linter.all false
set_option maxRecDepth 100000
set_option maxHeartbeats 2000000
/-! What is walked over, told as data; loops and comprehensions over it. -/
namespace DL
open PySem L2 PyProof.Rows

/-! ### range of any two ints -/
theorem turn_long {P : Program} {w : World} {K : PySem.W.Frag} {tg : Expr} (it : Addr) (lo : Int) (n : Nat) : Turn P w K tg (Itr lo n) [it] it (fun i h => IsLongIter h it (lo + (i : Nat) * 1) ((n : Int) - (i : Nat)) 1) where
  mem := by simp
  obj := fun i h st b hb => by
    have e : b = it := by simpa using hb
    subst e
    exact ⟨_, st, fun v z => by
      have z' : Data.fields _ = Data.cell v := z
      cases z'⟩
  keep := fun i h h' st k => k it (by simp) _ st
  item := by
    intro X hP hw hK hc i pins s σ H E I hf st hg
    subst hP hw hK
    obtain ⟨f0, f1, f2, f3, f4, f5⟩ := hf it (by simp)
    have W := Walks.longrange (prog := X.prog) (w := X.w) (I.ok.hd hc) it lo 1 n
    refine W.item i s _ _ hg st fun v h' tk hv st' kk => ?_
    obtain ⟨t, rfl⟩ := hv
    have I1 : Inv X pins σ H { s with heap := h', toks := tk } := I.turned (fun b o hb e => kk b o (by simpa using hb) e) f0 f1 f3 f4 f5
    refine ⟨_, rfl, go_of (s := { s with heap := h', toks := tk }) (n := "longrange_iterator") st' rfl rfl (by decide) ⟨.int (lo + i), H, I1, ⟨t, ?_⟩, ⟨rfl, rfl⟩, st', fun b hb => (hf b hb).1⟩⟩
    rw [Int.mul_one]
  done := by
    intro X hP hw hK hc i pins s σ H E I hf st hg
    subst hP hw hK
    obtain ⟨f0, f1, f2, f3, f4, f5⟩ := hf it (by simp)
    exact wpAny_pyNext_long_end (I.ok.hd hc) st (by have : n ≤ i := hg; omega) fun h' eb => ⟨rfl, I.turned (t' := s.toks) (fun b o hb e => eb b o hb e) f0 f1 f3 f4 f5⟩
  self := fun _ _ _ _ _ st h => wpAny_pyIter_longiter st h
section
variable {X : Cx} {tg : Expr}
theorem range_itX {pins : List (Addr × Obj)} {σ : L2.St} {H : Hp} {s : Shared} {R : It → Hp → Prop} {E : Value → Shared → Prop} {lo hi : Int} {t u v : Tok} {tk : Nat} (I : Inv X pins σ H s)
    (q : R (Itr lo (hi - lo).toNat) H) : wpAny (model X.prog X.w) X.A (pyIter (.ref s.heap.objs.size)) (PIE X pins σ tg R) E { s with heap := s.heap.push { cls := .type "range", data := .fields #[.int lo t, .int hi u, .int 1 v] }, toks := tk } := by
  have I1 : Inv X pins σ H { s with heap := s.heap.push { cls := .type "range", data := .fields #[.int lo t, .int hi u, .int 1 v] }, toks := tk } := I.kept fun b o e => Heap.get?_push_of_some _ e
  have e1 : lo + ((0 : Nat) : Int) * 1 = lo := by simp
  have e2 : (((hi - lo).toNat : Nat) : Int) - ((0 : Nat) : Int) = Builtin.Range.rangeSize lo hi 1 := by rw [rangeSize_one]; split <;> omega
  have fp : ∀ b ∈ [(s.heap.push { cls := .type "range", data := .fields #[.int lo t, .int hi u, .int 1 v] }).objs.size], FpOk X pins H b := fun b hb => by
    have e : b = (s.heap.push { cls := .type "range", data := .fields #[.int lo t, .int hi u, .int 1 v] }).objs.size := by simpa using hb
    subst e
    exact I1.fpOk (Nat.le_refl _) (I1.hok.fresh (Nat.le_refl _))
  cases hs : Builtin.Range.small lo hi 1 with
  | true =>
    refine wpAny_pyIter_range (IsRange.new ..) hs ?_
    refine ⟨(s.heap.push { cls := .type "range", data := .fields #[.int lo t, .int hi u, .int 1 v] }).objs.size, [(s.heap.push { cls := .type "range", data := .fields #[.int lo t, .int hi u, .int 1 v] }).objs.size], _, _, H, rfl,
      I1.kept (t' := tk) fun b o e => Heap.get?_push_of_some _ e, turn_range _ lo (hi - lo).toNat, ?_, fp, q⟩
    show IsRangeIter _ _ (lo + ((0 : Nat) : Int) * 1) ((((hi - lo).toNat : Nat) : Int) - ((0 : Nat) : Int)) 1
    rw [e1, e2]
    exact Heap.get?_push_size _ rfl
  | false =>
    refine wpAny_pyIter_longrange (IsRange.new ..) hs ?_
    refine ⟨(s.heap.push { cls := .type "range", data := .fields #[.int lo t, .int hi u, .int 1 v] }).objs.size, [(s.heap.push { cls := .type "range", data := .fields #[.int lo t, .int hi u, .int 1 v] }).objs.size], _, _, H, rfl,
      I1.kept (t' := tk) fun b o e => Heap.get?_push_of_some _ e, turn_long _ lo (hi - lo).toNat, ?_, fp, q⟩
    show IsLongIter _ _ (lo + ((0 : Nat) : Int) * 1) ((((hi - lo).toNat : Nat) : Int) - ((0 : Nat) : Int)) 1
    rw [e1, e2]
    exact Heap.get?_push_size _ rfl
def iRngX (ta : TA) : TI := fun σ H R => ta σ H fun vs H1 => ∃ i j : Int, vs = [.int i, .int j] ∧ R (Itr i (j - i).toNat) H1
theorem pi_rangeX {a b : Expr} {ta : TA} {p pos : Pos} (hg : Gl X "range") (hm : X.mg "range" = none) (ha : PA X [a, b] ta) (hs : starEach [a, b] X.env = [(false, eval a X.env), (false, eval b X.env)] := by rfl) (hs2 : starEach [b] X.env = [(false, eval b X.env)] := by rfl) :
    PI X tg (.Call (.Name "range" p) [a, b] [] pos) (iRngX ta) := by
  refine ⟨fun pins s σ H R I h => ?_⟩
  refine Call_ (ld_blt I hg hm boot_range (PyProof.Rows.callWith_type1 (thn (ha.run pos pins s σ H _ I h) fun us s1 ⟨vs, H1, I1, r1, q1⟩ => ?_) (by rw [hs, hs2]) (by rw [hs2]; rfl)))
  obtain ⟨i, j, e, q⟩ := q1
  subst e
  cases r1 with
  | cons r rr =>
    cases rr with
    | cons r' rr =>
      cases rr
      obtain ⟨t, rfl⟩ := r
      obtain ⟨t', rfl⟩ := r'
      exact call_range_2 (range_itX I1 q)
def iRngX1 (ta : TA) : TI := fun σ H R => ta σ H fun vs H1 => ∃ j : Int, vs = [.int j] ∧ R (Itr 0 j.toNat) H1
theorem pi_rangeX1 {a : Expr} {ta : TA} {p pos : Pos} (hg : Gl X "range") (hm : X.mg "range" = none) (ha : PA X [a] ta) (hs : starEach [a] X.env = [(false, eval a X.env)] := by rfl) : PI X tg (.Call (.Name "range" p) [a] [] pos) (iRngX1 ta) := by
  refine ⟨fun pins s σ H R I h => ?_⟩
  refine Call_ (ld_blt I hg hm boot_range (PyProof.Rows.callWith_type1 (thn (ha.run pos pins s σ H _ I h) fun us s1 ⟨vs, H1, I1, r1, q1⟩ => ?_) hs rfl))
  obtain ⟨j, e, q⟩ := q1
  subst e
  cases r1 with
  | cons r rr =>
    cases rr
    obtain ⟨t, rfl⟩ := r
    exact call_range_1 (range_itX I1 (by simpa using q))
end

/-! ### zip of a tuple and a list -/
def ItzTL (K : PySem.W.Frag) (a b : Addr) : It :=
  ⟨fun i H => ∃ (xs ys : List V) (x y : V), SqT K H a xs ∧ SqL K H b ys ∧ xs[i]? = some x ∧ ys[i]? = some y,
    fun i H v H' => ∃ T x y, v = .ref T ∧ H T = none ∧ H' = upd H T (.tup [x, y]) ∧ (∀ xs, SqT K H a xs → xs[i]? = some x) ∧ ∀ ys, SqL K H b ys → ys[i]? = some y,
    fun i H => ∃ xs ys : List V, SqT K H a xs ∧ SqL K H b ys ∧ xs.length = i ∧ ys.length = i⟩
theorem turn_zipTL {P : Program} {w : World} {K : PySem.W.Frag} {elts : List Expr} {kk : Nat} {tpos : Pos} {a b z TI TO i1 i2 : Addr} (S : ZipSep2 z TI TO i1 i2 [i1, a] [i2, b]) (n1 : a ≠ i1) (n2 : b ≠ i2) :
    Turn P w K (.Tuple elts kk tpos) (ItzTL K a b) [z, TI, TO, i1, i2] z (fun i h => IsZip h z TI TO .none ∧ IsTupOf2 h TI (.ref i1) (.ref i2) ∧ (∃ x y, IsTupOf2 h TO x y) ∧ h.IsTupleIter i1 a i ∧ h.IsListIter i2 b i) where
  mem := by simp
  obj := fun i h st c hc => by
    obtain ⟨hz, hTI, ⟨x, y, hTO⟩, ⟨o1, e1, _, d1⟩, ⟨o2, e2, _, d2⟩⟩ := st
    have e' : c = z ∨ c = TI ∨ c = TO ∨ c = i1 ∨ c = i2 := by simpa using hc
    rcases e' with q | q | q | q | q
    · rw [q]; exact ⟨_, hz, fun v q => nomatch q⟩
    · rw [q]; exact ⟨_, hTI, fun v q => nomatch q⟩
    · rw [q]; exact ⟨_, hTO, fun v q => nomatch q⟩
    · rw [q]; exact ⟨o1, e1, fun v q => by rw [d1] at q; cases q⟩
    · rw [q]; exact ⟨o2, e2, fun v q => by rw [d2] at q; cases q⟩
  keep := fun i h h' st k => by
    obtain ⟨hz, hTI, ⟨x, y, hTO⟩, h1, h2⟩ := st
    exact ⟨k z (by simp) _ hz, k TI (by simp) _ hTI, ⟨x, y, k TO (by simp) _ hTO⟩, h1.at fun o q => k i1 (by simp) o q, h2.at fun o q => k i2 (by simp) o q⟩
  item := by
    intro X hP hw hK hc i pins s σ H E I hf st hg
    subst hP hw hK
    obtain ⟨hz, hTI, ⟨x0, y0, hTO⟩, h1, h2⟩ := st
    obtain ⟨xs, ys, x, y, hqx, hqy, hx, hy⟩ := hg
    obtain ⟨its, rv, p, _⟩ := I.tuple hqx
    obtain ⟨its2, rv2, p2, _⟩ := I.list hqy
    obtain ⟨u, hu, ru⟩ := rv.get hx
    obtain ⟨u2, hu2, ru2⟩ := rv2.get hy
    have l1 := rv.length
    have l2 := rv2.length
    have hi1 := (List.getElem?_eq_some_iff.mp hx).1
    have hi2 := (List.getElem?_eq_some_iff.mp hy).1
    have hzl : z < s.heap.objs.size := Heap.lt_size hz
    have D1 := Draws.tuple (prog := X.prog) (w := X.w) (A := X.A.in1) (I.ok.hd hc) i1 a n1 its.toArray
    have D2 := Draws.list (prog := X.prog) (w := X.w) (A := X.A.in1) (I.ok.hd hc) i2 b n2 its2.toArray
    refine wpAny_pyNext_zipD2_item S D1 D2 hz hTI hTO ⟨h1, p⟩ ⟨h2, p2.isList⟩ (by simp; omega) (by simp; omega) fun x1 x2 h' tk y1 y2 z' TO' st1' st2' hT hsz hk => ?_
    have ex1 : x1 = u := by
      have : its[i]? = some x1 := by simpa using y1
      rw [hu] at this
      exact (Option.some.inj this).symm
    have ex2 : x2 = u2 := by
      have : its2[i]? = some x2 := by simpa using y2
      rw [hu2] at this
      exact (Option.some.inj this).symm
    subst ex1 ex2
    refine ⟨_, rfl, wpAny_letOwnedTupleGo_zip (s := { s with heap := h', toks := tk }) z' fun h'' z'' sb => ?_⟩
    have hT2 : h''.get? s.heap.objs.size = some { cls := .type "tuple", data := .seq #[x1, x2] } := (sb.2 _ (Nat.ne_of_gt hzl)).trans hT
    have new : ObjOk X.prog X.w (upd H s.heap.objs.size (.tup [x, y])) h'' s.heap.objs.size (.tup [x, y]) :=
      ⟨by show 2 ≤ sizeLine; decide, [x1, x2], .cons ru (.cons ru2 .nil), ⟨_, hT2, rfl, _, rfl⟩⟩
    have I1 : Inv X pins σ (upd H s.heap.objs.size (.tup [x, y])) { s with heap := h'', toks := tk } :=
      I.turnedNew (t' := tk) (ch := [z, TI, TO, i1, i2]) (fun c o hb q => (sb.2 c (fun q' => hb (by simp [q']))).trans (hk c o (fun q' => hb (by simp [q'])) (fun q' => hb (by simp [q'])) (fun q' => hb (by simp [q'])) (fun q' => hb (by simp [q'])) q)) hf (Nat.le_refl _) new
    refine ⟨.ref s.heap.objs.size, _, I1, rfl, ⟨_, x, y, rfl, I.hok.fresh (Nat.le_refl _), rfl, fun l hl => by rw [I.tuple_inj hl hqx]; exact hx, fun l hl => by rw [I.list_inj hl hqy]; exact hy⟩, ⟨z'', ?_, ⟨x1, x2, ?_⟩, ?_, ?_⟩, fun c hcm => ?_⟩
    · exact (sb.2 _ S.TIz).trans (hk _ _ S.TIz S.TITO S.TIi1 S.TIi2 hTI)
    · exact (sb.2 _ S.TOz).trans TO'
    · exact st1'.1.at fun o q => (sb.2 _ (Ne.symm S.zi1)).trans q
    · exact st2'.1.at fun o q => (sb.2 _ (Ne.symm S.zi2)).trans q
    · have hlt : c < s.heap.objs.size := by
        have e' : c = z ∨ c = TI ∨ c = TO ∨ c = i1 ∨ c = i2 := by simpa using hcm
        rcases e' with q | q | q | q | q
        · rw [q]; exact hzl
        · rw [q]; exact Heap.lt_size hTI
        · rw [q]; exact Heap.lt_size hTO
        · rw [q]; obtain ⟨_, e1, _⟩ := h1; exact Heap.lt_size e1
        · rw [q]; obtain ⟨_, e2, _⟩ := h2; exact Heap.lt_size e2
      rw [upd_ne (Nat.ne_of_lt hlt)]
      exact (hf c hcm).1
  done := by
    intro X hP hw hK hc i pins s σ H E I hf st hg
    subst hP hw hK
    obtain ⟨hz, hTI, ⟨x0, y0, hTO⟩, h1, h2⟩ := st
    obtain ⟨xs, ys, hqx, hqy, e1, e2⟩ := hg
    obtain ⟨its, rv, p, _⟩ := I.tuple hqx
    obtain ⟨its2, rv2, p2, _⟩ := I.list hqy
    have l1 := rv.length
    have l2 := rv2.length
    have D1 := Draws.tuple (prog := X.prog) (w := X.w) (A := X.A.in1) (I.ok.hd hc) i1 a n1 its.toArray
    have D2 := Draws.list (prog := X.prog) (w := X.w) (A := X.A.in1) (I.ok.hd hc) i2 b n2 its2.toArray
    exact wpAny_pyNext_zipD2_end S D1 D2 hz hTI hTO ⟨h1, p⟩ ⟨h2, p2.isList⟩ (by simp; omega) (by simp; omega) (.inl (by simp; omega)) fun h' tk hk => ⟨rfl, I.turnedL (t' := tk) (ch := [z, TI, TO, i1, i2]) (fun c o hb q =>
      hk c o (fun q' => hb (by simp [q'])) (fun q' => hb (by simp [q'])) (fun q' => hb (by simp [q'])) (fun q' => hb (by simp [q'])) q) hf⟩
  self := fun A i s Q E st h => wpAny_pyIter_zip st.1 h
def iZipTL (K : PySem.W.Frag) (ta : TA) : TI := fun σ H R => ta σ H fun vs H1 => ∃ a b xs ys, vs = [.ref a, .ref b] ∧ SqT K H1 a xs ∧ SqL K H1 b ys ∧ R (ItzTL K a b) H1
theorem sep5 {n a b : Nat} (ha : a < n) (hb : b < n) : ZipSep2 (n + 4) (n + 2) (n + 3) n (n + 1) [n, a] [n + 1, b] := by
  have ne : ∀ {x y : Nat}, (x < y ∨ y < x) → (x : Addr) ≠ y := fun h e => by
    have e : (_ : Nat) = _ := e
    rcases h with h | h <;> (rw [e] at h; exact Nat.lt_irrefl _ h)
  have nm : ∀ {x y z : Nat}, (x < y ∨ y < x) → (x < z ∨ z < x) → (x : Addr) ∉ [y, z] := fun h1 h2 m => by
    rcases List.mem_cons.mp m with m | m
    · exact ne h1 m
    · exact ne h2 (List.mem_singleton.mp m)
  have ha' : (a : Nat) < n := ha
  have hb' : (b : Nat) < n := hb
  exact ⟨ne (by omega), ne (by omega), ne (by omega), ne (by omega), List.mem_cons_self, nm (by omega) (by omega), nm (by omega) (by omega), ne (by omega), List.mem_cons_self, nm (by omega) (by omega), nm (by omega) (by omega), nm (by omega) (by omega), nm (by omega) (by omega)⟩
theorem pi_zipTL {X : Cx} {e e2 : Expr} {ta : TA} {p pos tpos : Pos} {elts : List Expr} {kk : Nat} (hg : Gl X "zip") (hm : X.mg "zip" = none) (ha : PA X [e, e2] ta)
    (hs : starEach [e, e2] X.env = (false, eval e X.env) :: starEach [e2] X.env := by rfl) (hpl : (backTo pos (starEach [e2] X.env)).any (·.1) = false := by rfl) :
    PI X (.Tuple elts kk tpos) (.Call (.Name "zip" p) [e, e2] [] pos) (iZipTL X.K ta) := by
  refine ⟨fun pins s σ H R I h => ?_⟩
  refine Call_ (ld_blt I hg hm PyProof.Rows.boot_zip (PyProof.Rows.callWith_type1 (thn (ha.run pos pins s σ H _ I h) fun us s1 ⟨vs, H1, I1, r1, q1⟩ => ?_) hs hpl))
  obtain ⟨a, b, xs, ys, ex, hqx, hqy, q⟩ := q1
  subst ex
  cases r1 with
  | cons r rr =>
    cases rr with
    | cons r' rr =>
      cases rr
      cases r
      cases r'
      obtain ⟨its, rv, p1, _⟩ := I1.tuple hqx
      obtain ⟨its2, rv2, p2, _⟩ := I1.list hqy
      obtain ⟨o1, ho1, _⟩ := id p1
      have la : a < s1.heap.objs.size := Heap.lt_size ho1
      have lb : b < s1.heap.objs.size := p2.lt
      refine zip_begins2 (begins_tuple a its.toArray) (begins_list b its2.toArray) p1 p2.isList fun h' hz hTI hTO h1 h2 hsz hk => wpAny_pyIter_zip hz ?_
      have I2 : Inv X pins σ H1 { s1 with heap := h' } := I1.kept (t' := s1.toks) hk
      refine ⟨s1.heap.objs.size + 4, [s1.heap.objs.size + 4, s1.heap.objs.size + 2, s1.heap.objs.size + 3, s1.heap.objs.size, s1.heap.objs.size + 1], _, _, H1, rfl, I2, turn_zipTL (sep5 la lb) (Nat.ne_of_lt la) (Nat.ne_of_lt (Nat.lt_succ_of_lt lb)), ⟨hz, hTI, ⟨_, _, hTO⟩, ⟨_, h1, rfl, rfl⟩, ⟨_, h2, rfl, rfl⟩⟩, fun c hcm => ?_, q⟩
      have e' : c = s1.heap.objs.size + 4 ∨ c = s1.heap.objs.size + 2 ∨ c = s1.heap.objs.size + 3 ∨ c = s1.heap.objs.size ∨ c = s1.heap.objs.size + 1 := by simpa using hcm
      have hle : s1.heap.objs.size ≤ c := by
        rcases e' with z | z | z | z | z <;> rw [z] <;> omega
      exact I1.fpOk hle (I1.hok.fresh hle)
end DL

set_option Elab.async false
set_option linter.all false
set_option maxRecDepth 100000
set_option maxHeartbeats 2000000
/-! Loops and comprehensions over whatever is walked over. -/
namespace DL
open PySem L2 PyProof.Rows

/-- an iterator's items told as data -/
structure ItD (K : PySem.W.Frag) (G1 : Hp) (J : It) (ds : List D) : Prop where
  go : ∀ i H, Same G1 H → i < ds.length → J.go i H
  stop : ∀ H, Same G1 H → J.stop ds.length H
  yld : ∀ i H v H' d, Same G1 H → J.yld i H v H' → ds[i]? = some d → (H' = H ∧ Rep K G1 d v) ∨ ∃ T vs es, v = .ref T ∧ H T = none ∧ H' = upd H T (.tup vs) ∧ d = .tup es ∧ RepL K G1 es vs
def RI (K : PySem.W.Frag) (E : Ent) (ω : List Cell) (δ : DE) (wi : TI) (R : List D → Prop) : Prop :=
  ∀ (σ : L2.St) (G H : Hp) (RR : It → Hp → Prop), SOk E ω G H → EnvR K G δ σ → (∀ J ds G' H', R ds → SOk E ω G' H' → Same G G' → ItD K G' J ds → RR J H') → wi σ H RR
/-- walking over e gives the items that R tells -/
structure IV (X : Cx) (E : Ent) (ω : List Cell) (δ : DE) (tg e : Expr) (R : List D → Prop) : Prop where
  ex : ∃ wi, PI X tg e wi ∧ RI X.K E ω δ wi R
section
variable {X : Cx} {E : Ent} {ω : List Cell} {δ : DE} {tg e e2 a b : Expr} {pos : Pos} {R : List D → Prop} {K : PySem.W.Frag} {G1 : Hp}
theorem ItD.list {p : Addr} {vs : List V} {ds : List D} (hq : SqL K G1 p vs) (r : RepL K G1 ds vs) : ItD K G1 (Itl K p) ds where
  go := fun i H s hi => by
    rw [r.length] at hi
    exact ⟨vs, vs[i], s.seq hq, List.getElem?_eq_getElem hi⟩
  stop := fun H s => ⟨vs, s.seq hq, by rw [r.length]; exact Nat.le_refl _⟩
  yld := fun i H v H' d s y hd => by
    obtain ⟨e, y⟩ := y
    obtain ⟨v0, e0, r0⟩ := r.get hd
    have := y vs (s.seq hq)
    rw [e0] at this
    cases this
    exact .inl ⟨e, r0⟩
theorem ItD.tup {p : Addr} {vs : List V} {ds : List D} (hq : SqT K G1 p vs) (r : RepL K G1 ds vs) : ItD K G1 (Itt K p) ds where
  go := fun i H s hi => by
    rw [r.length] at hi
    exact ⟨vs, vs[i], sqT_mono s hq, List.getElem?_eq_getElem hi⟩
  stop := fun H s => ⟨vs, sqT_mono s hq, by rw [r.length]; exact Nat.le_refl _⟩
  yld := fun i H v H' d s y hd => by
    obtain ⟨e, y⟩ := y
    obtain ⟨v0, e0, r0⟩ := r.get hd
    have := y vs (sqT_mono s hq)
    rw [e0] at this
    cases this
    exact .inl ⟨e, r0⟩
def intsD (lo : Int) (n : Nat) : List D := (List.range n).map fun (i : Nat) => D.int (lo + (i : Int))
theorem intsD_length (lo : Int) (n : Nat) : (intsD lo n).length = n := by simp [intsD]
theorem intsD_get {lo : Int} {n i : Nat} {d : D} (h : (intsD lo n)[i]? = some d) : i < n ∧ d = .int (lo + (i : Int)) := by
  have hi : i < n := by
    have := (List.getElem?_eq_some_iff.mp h).1
    rwa [intsD_length] at this
  refine ⟨hi, ?_⟩
  unfold intsD at h
  rw [List.getElem?_map, List.getElem?_range hi] at h
  exact (Option.some.inj h).symm
theorem ItD.range (lo : Int) (n : Nat) : ItD K G1 (Itr lo n) (intsD lo n) where
  go := fun i H s hi => by rw [intsD_length] at hi; exact hi
  stop := fun H s => by rw [intsD_length]; exact Nat.le_refl _
  yld := fun i H v H' d s y hd => by
    obtain ⟨e, y⟩ := y
    obtain ⟨_, rfl⟩ := intsD_get hd
    exact .inl ⟨e, by rw [y]; exact .s _⟩
theorem ItD.enum {p : Addr} {vs : List V} {ds : List D} (hq : SqL K G1 p vs) (r : RepL K G1 ds vs) : ItD K G1 (Ite K p) (ds.zipIdx.map fun x => .tup [.int (x.2 : Int), x.1]) where
  go := fun i H s hi => by
    rw [List.length_map, List.length_zipIdx, r.length] at hi
    exact ⟨vs, vs[i], s.seq hq, List.getElem?_eq_getElem hi⟩
  stop := fun H s => ⟨vs, s.seq hq, by rw [List.length_map, List.length_zipIdx, r.length]; exact Nat.le_refl _⟩
  yld := fun i H v H' d s y hd => by
    obtain ⟨T, x, e, hT, eH, y⟩ := y
    rw [List.getElem?_map, List.getElem?_zipIdx] at hd
    cases hq2 : ds[i]? with
    | none => rw [hq2] at hd; cases hd
    | some d0 =>
      rw [hq2] at hd
      have hd : D.tup [.int ((0 + i : Nat) : Int), d0] = d := by simpa using hd
      subst hd
      obtain ⟨v0, e0, r0⟩ := r.get hq2
      have := y vs (s.seq hq)
      rw [e0] at this
      cases this
      exact .inr ⟨T, _, _, e, hT, eH, rfl, by rw [Nat.zero_add]; exact .cons (.s _) (.one r0)⟩
def zipD : List D → List D → List D
  | x :: xs, y :: ys => .tup [x, y] :: zipD xs ys
  | _, _ => []
theorem zipD_length : ∀ {xs ys : List D}, xs.length = ys.length → (zipD xs ys).length = xs.length
  | [], [], _ => rfl
  | _ :: _, _ :: _, h => by simp [zipD, zipD_length (Nat.succ.inj h)]
theorem zipD_get : ∀ {xs ys : List D} {i : Nat} {d : D}, (zipD xs ys)[i]? = some d → ∃ x y, xs[i]? = some x ∧ ys[i]? = some y ∧ d = .tup [x, y]
  | [], _, i, d, h => by simp [zipD] at h
  | _ :: _, [], i, d, h => by simp [zipD] at h
  | x :: xs, y :: ys, 0, d, h => ⟨x, y, rfl, rfl, by simpa [zipD, eq_comm] using h⟩
  | x :: xs, y :: ys, i + 1, d, h => by
    obtain ⟨x', y', e1, e2, e3⟩ := zipD_get (xs := xs) (ys := ys) (i := i) (d := d) (by simpa [zipD] using h)
    exact ⟨x', y', by simpa using e1, by simpa using e2, e3⟩
theorem ItD.zipTL {p q : Addr} {vs ws : List V} {ds es : List D} (hl : ds.length = es.length) (hq : SqT K G1 p vs) (r : RepL K G1 ds vs) (hq2 : SqL K G1 q ws) (r2 : RepL K G1 es ws) : ItD K G1 (ItzTL K p q) (zipD ds es) where
  go := fun i H s hi => by
    rw [zipD_length hl] at hi
    have h1 : i < vs.length := by rw [← r.length]; exact hi
    have h2 : i < ws.length := by rw [← r2.length, ← hl]; exact hi
    exact ⟨vs, ws, vs[i], ws[i], sqT_mono s hq, s.seq hq2, List.getElem?_eq_getElem h1, List.getElem?_eq_getElem h2⟩
  stop := fun H s => ⟨vs, ws, sqT_mono s hq, s.seq hq2, by rw [zipD_length hl, r.length], by rw [zipD_length hl, hl, r2.length]⟩
  yld := fun i H v H' d s y hd => by
    obtain ⟨T, x, y0, e, hT, eH, y1, y2⟩ := y
    obtain ⟨x', y', e1, e2, rfl⟩ := zipD_get hd
    obtain ⟨v1, f1, g1⟩ := r.get e1
    obtain ⟨v2, f2, g2⟩ := r2.get e2
    have h1 := y1 vs (sqT_mono s hq)
    have h2 := y2 ws (s.seq hq2)
    rw [f1] at h1
    rw [f2] at h2
    cases h1
    cases h2
    exact .inr ⟨T, _, _, e, hT, eH, rfl, .cons g1 (.one g2)⟩
theorem IV.imp {R' : List D → Prop} (h : IV X E ω δ tg e R) (i : ∀ ds, R ds → R' ds) : IV X E ω δ tg e R' := by
  obtain ⟨wi, h1, h2⟩ := h.ex
  exact ⟨wi, h1, fun σ G H RR ok en k => h2 σ G H RR ok en fun J ds G' H' r => k J ds G' H' (i ds r)⟩
theorem iv_list (h : EV X E ω δ e fun d => ∃ ds, d = .lst ds ∧ R ds) : IV X E ω δ tg e R :=
  ⟨_, pi_list wE_pe, fun σ G H RR ok en k => h σ G H _ ok en fun v d G1 H1 q ok1 s1 r1 => by
    obtain ⟨ds, e1, hr⟩ := q
    subst e1
    cases r1 with
    | lst hq rl => exact ⟨_, rfl, ⟨_, ok1.gh.seq hq⟩, k _ ds G1 H1 hr ok1 s1 (.list hq rl)⟩⟩
theorem iv_tup (h : EV X E ω δ e fun d => ∃ ds, d = .tup ds ∧ R ds) : IV X E ω δ tg e R :=
  ⟨_, pi_tup wE_pe, fun σ G H RR ok en k => h σ G H _ ok en fun v d G1 H1 q ok1 s1 r1 => by
    obtain ⟨ds, e1, hr⟩ := q
    subst e1
    cases r1 with
    | tup hq rl => exact ⟨_, rfl, ⟨_, sqT_mono ok1.gh hq⟩, k _ ds G1 H1 hr ok1 s1 (.tup hq rl)⟩⟩
variable {C : CtxI} [hx : XOk X C]
theorem iv_range1 (j : Nat) {p : Pos} (hm : C.mg "range" = none) (hj : C.Gs[j]? = some "range") (h : EV X E ω δ a fun d => ∃ n : Int, d = .int n ∧ R (intsD 0 n.toNat)) (hs : starEach [a] X.env = [(false, eval a X.env)] := by rfl) : IV X E ω δ tg (.Call (.Name "range" p) [a] [] pos) R :=
  ⟨_, pi_rangeX1 (hx.gl.g hj) (by rw [hx.mg]; exact hm) (pa_cons wE_pe pa_nil hs) hs, fun σ G H RR ok en k => h σ G H _ ok en fun v d G1 H1 q ok1 s1 r1 => by
    obtain ⟨n, e1, hr⟩ := q
    subst e1
    cases r1
    exact ⟨n, rfl, k _ _ G1 H1 hr ok1 s1 (.range _ _)⟩⟩
theorem iv_range2 (j : Nat) {p : Pos} (hm : C.mg "range" = none) (hj : C.Gs[j]? = some "range") (h : EV X E ω δ a fun d => EV X E ω δ b fun d2 => ∃ n m : Int, d = .int n ∧ d2 = .int m ∧ R (intsD n (m - n).toNat))
    (hs : starEach [a, b] X.env = [(false, eval a X.env), (false, eval b X.env)] := by rfl) (hs2 : starEach [b] X.env = [(false, eval b X.env)] := by rfl) : IV X E ω δ tg (.Call (.Name "range" p) [a, b] [] pos) R :=
  ⟨_, pi_rangeX (hx.gl.g hj) (by rw [hx.mg]; exact hm) (pa_cons wE_pe (pa_cons wE_pe pa_nil hs2) (by rw [hs, hs2])) hs hs2, fun σ G H RR ok en k => h σ G H _ ok en fun v d G1 H1 q ok1 s1 r1 => q σ G1 H1 _ ok1 (en.mono s1) fun w d2 G2 H2 q2 ok2 s2 r2 => by
    obtain ⟨n, m, e1, e2, hr⟩ := q2
    subst e1 e2
    cases r1
    cases r2
    exact ⟨n, m, rfl, k _ _ G2 H2 hr ok2 (s1.trans s2) (.range _ _)⟩⟩
theorem iv_enum (j : Nat) {p tpos : Pos} {elts : List Expr} {kk : Nat} (hm : C.mg "enumerate" = none) (hj : C.Gs[j]? = some "enumerate") (h : EV X E ω δ a fun d => ∃ ds, d = .lst ds ∧ R (ds.zipIdx.map fun x => .tup [.int (x.2 : Int), x.1])) (hs : starEach [a] X.env = [(false, eval a X.env)] := by rfl) :
    IV X E ω δ (.Tuple elts kk tpos) (.Call (.Name "enumerate" p) [a] [] pos) R :=
  ⟨_, pi_enum (hx.gl.g hj) (by rw [hx.mg]; exact hm) (pa_cons wE_pe pa_nil hs) hs, fun σ G H RR ok en k => h σ G H _ ok en fun v d G1 H1 q ok1 s1 r1 => by
    obtain ⟨ds, e1, hr⟩ := q
    subst e1
    cases r1 with
    | lst hq rl => exact ⟨_, _, rfl, ok1.gh.seq hq, k _ _ G1 H1 hr ok1 s1 (.enum hq rl)⟩⟩
theorem iv_zipTL (j : Nat) {p tpos : Pos} {elts : List Expr} {kk : Nat} (hm : C.mg "zip" = none) (hj : C.Gs[j]? = some "zip") (h : EV X E ω δ a fun d => EV X E ω δ b fun d2 => ∃ ds es, d = .tup ds ∧ d2 = .lst es ∧ ds.length = es.length ∧ R (zipD ds es))
    (hs : starEach [a, b] X.env = (false, eval a X.env) :: starEach [b] X.env := by rfl) (hs2 : starEach [b] X.env = (false, eval b X.env) :: starEach [] X.env := by rfl) (hpl : (backTo pos (starEach [b] X.env)).any (·.1) = false := by rfl) :
    IV X E ω δ (.Tuple elts kk tpos) (.Call (.Name "zip" p) [a, b] [] pos) R :=
  ⟨_, pi_zipTL (hx.gl.g hj) (by rw [hx.mg]; exact hm) (pa_cons wE_pe (pa_cons wE_pe pa_nil hs2) hs) hs hpl, fun σ G H RR ok en k => h σ G H _ ok en fun v d G1 H1 q ok1 s1 r1 => q σ G1 H1 _ ok1 (en.mono s1) fun w d2 G2 H2 q2 ok2 s2 r2 => by
    obtain ⟨ds, es, e1, e2, hl, hr⟩ := q2
    subst e1 e2
    cases r1 with
    | tup hq rl =>
      cases r2 with
      | lst hq2 rl2 =>
        exact ⟨_, _, _, _, rfl, sqT_mono ok2.gh (sqT_mono s2 hq), ok2.gh.seq hq2, k _ _ G2 H2 hr ok2 (s1.trans s2) (.zipTL hl (sqT_mono s2 hq) (rl.mono s2) hq2 rl2)⟩⟩
end

/-! ### targets -/
theorem wipe_get {i : Nat} : ∀ {vs : List Nat} {σ : L2.St}, (wipe σ vs)[i]? = if i ∈ vs then (σ[i]?).map (fun _ => none) else σ[i]?
  | [], σ => by simp [wipe]
  | v :: vs, σ => by
    unfold wipe
    by_cases h : v = i
    · subst h
      simp only [List.mem_cons, true_or, if_true]
      by_cases hl : v < σ.length
      · rw [List.getElem?_set_self (by rw [wipe_length]; exact hl), List.getElem?_eq_getElem hl]
        rfl
      · rw [List.getElem?_eq_none (by simp [wipe_length]; omega), List.getElem?_eq_none (by omega)]
        rfl
    · rw [List.getElem?_set_ne h, wipe_get]
      simp [List.mem_cons, Ne.symm h]
theorem wipe_set {j : Nat} {x : Option V} {vs : List Nat} {σ : L2.St} (h : j ∈ vs) : wipe (σ.set j x) vs = wipe σ vs := by
  apply List.ext_getElem?
  intro i
  rw [wipe_get, wipe_get]
  by_cases e : j = i
  · subst e
    rw [if_pos h, if_pos h]
    by_cases hl : j < σ.length
    · rw [List.getElem?_set_self hl, List.getElem?_eq_getElem hl]; rfl
    · rw [List.getElem?_eq_none (by simpa using hl), List.getElem?_eq_none (by omega)]
  · rw [List.getElem?_set_ne e]
theorem wipe_wipe {vs : List Nat} {σ : L2.St} : wipe (wipe σ vs) vs = wipe σ vs := by
  apply List.ext_getElem?
  intro i
  rw [wipe_get, wipe_get]
  by_cases h : i ∈ vs
  · rw [if_pos h, if_pos h]
    cases σ[i]? <;> rfl
  · rw [if_neg h, if_neg h]
/-- what a target does to the names; js: the places it sets -/
def RunG (K : PySem.W.Frag) (g : TG) (js : List Nat) (f : DE → D → DE → Prop) : Prop := ∀ (σ : L2.St) (G H : Hp) (d : D) (v : V) (δ δ' : DE) (Q : L2.St → Hp → Prop), Same G H → EnvR K G δ σ → Rep K G d v → f δ d δ' → (∀ σ', EnvR K G δ' σ' → (∀ vs : List Nat, (∀ j ∈ js, j ∈ vs) → wipe σ' vs = wipe σ vs) → Q σ' H) → g v σ H Q
structure TgD (X : Cx) (tg : Expr) (js : List Nat) (f : DE → D → DE → Prop) : Prop where
  ex : ∃ g, PG X tg g ∧ RunG X.K g js f
/-- the same in a comprehension's block -/
structure TgB (X : Cx) (scope : Scope) (tg : Expr) (js : List Nat) (f : DE → D → DE → Prop) : Prop where
  ex : ∃ g, (∀ (s : Shared) (H : Hp) (C : Addr) (cl : List (Str × Addr)) (fp : List Addr), PG (X.blk s H scope (compEnvC scope cl C X.env) fp) tg g) ∧ RunG X.K g js f
def fName (j : Nat) : DE → D → DE → Prop := fun δ d δ' => δ' = δ.set j (some d)
def fTup (js : List Nat) : DE → D → DE → Prop := fun δ d δ' => ∃ ds, d = .tup ds ∧ ds.length = js.length ∧ δ' = setAll δ js ds
theorem gName_run {K : PySem.W.Frag} {σ : L2.St} {G H : Hp} {d : D} {v : V} {δ δ' : DE} {j : Nat} {Q : L2.St → Hp → Prop} (s : Same G H) (en : EnvR K G δ σ) (r : Rep K G d v) (e : fName j δ d δ') (k : ∀ σ', EnvR K G δ' σ' → (∀ vs : List Nat, (∀ j' ∈ [j], j' ∈ vs) → wipe σ' vs = wipe σ vs) → Q σ' H) : gName j v σ H Q := by
  subst e
  exact k _ (en.set r) fun vs hv => wipe_set (hv j List.mem_cons_self)
theorem gNames_run2 {K : PySem.W.Frag} {G H : Hp} {Q : L2.St → Hp → Prop} : ∀ {is : List Nat} {ds : List D} {vs : List V} {δ : DE} {σ : L2.St}, is.length = ds.length → RepL K G ds vs → EnvR K G δ σ → (∀ σ', EnvR K G (setAll δ is ds) σ' → (∀ vs : List Nat, (∀ j ∈ is, j ∈ vs) → wipe σ' vs = wipe σ vs) → Q σ' H) → gNames is vs σ H Q
  | [], [], _, δ, σ, _, .nil, en, q => ⟨rfl, q σ en fun _ _ => rfl⟩
  | i :: is, d :: ds, _, δ, σ, l, .cons (v := v) (vs := vs) h r, en, q => ⟨v, vs, rfl, gNames_run2 (by simpa using l) r (en.set h) fun σ' en' w => q σ' en' fun ws hw => by
    rw [w ws fun j hj => hw j (List.mem_cons_of_mem _ hj), wipe_set (hw i List.mem_cons_self)]⟩
theorem rg_name {K : PySem.W.Frag} {j : Nat} : RunG K (gName j) [j] (fName j) := fun σ G H d v δ δ' Q s en r e k => gName_run s en r e k
theorem rg_tup {K : PySem.W.Frag} {js : List Nat} : RunG K (gTup K js.length (gNames js)) js (fTup js) := fun σ G H d v δ δ' Q s en r e k => by
  obtain ⟨ds, e1, hl, e2⟩ := e
  subst e1 e2
  cases r with
  | tup hq rl => exact ⟨_, _, rfl, sqT_mono s hq, rl.length.symm.trans hl, gNames_run2 hl.symm rl en k⟩
section
variable {X : Cx} {es : List Expr} {pos : Pos} {kk : Nat}
theorem tg_name {j : Nat} {x : Str} (hN : X.N.Nodup) (hj : X.N[j]? = some x) (hl : Loc X.env.scope x) (hf : X.fn x = true ∨ X.env.scope.names.lookup x = some .local) : TgD X (.Name x pos) [j] (fName j) :=
  ⟨_, pg_name hN hj hl hf, rg_name⟩
theorem tg_tup {js : List Nat} (hc : X.calm = true) (h : PGs X es (gNames js)) (hn : (assignEach es X.env).length = js.length) (hst : (assignEach es X.env).findIdx? (·.1) = none) : TgD X (.Tuple es kk pos) js (fTup js) :=
  ⟨_, pg_tup hc h hn hst, rg_tup⟩
end

/-! ### for -/
section
variable {X : Cx} {E : Ent} {ω : List Cell} {δ : DE} {Φ : Outs} {it tg : Expr} {pos : Pos} {body : List Stmt} {js : List Nat} {f : DE → D → DE → Prop}
theorem sv_for (hp : PassesOwn (model X.prog X.w) X.A X.env X.xe) (hc : X.calm = true) (ht : TgD X tg js f)
    (h : IV X E ω δ tg it fun ds => ∃ Pv : Nat → List Cell → DE → Prop, Pv 0 ω δ ∧
      (∀ i d ω' δ', ds[i]? = some d → Pv i ω' δ' → ∃ δ'', f δ' d δ'' ∧ BV X E ω' δ'' body { nx := Pv (i + 1), ct := Pv (i + 1), bk := Φ.nx, rt := Φ.rt }) ∧ (∀ ω' δ', Pv ds.length ω' δ' → Φ.nx ω' δ'))
    (hs : ∀ x, foldedSetIterable it X.env x = pure x := by intro _; rfl) : SV X E ω δ (.For tg it body [] pos) Φ := by
  obtain ⟨wi, hpi, hri⟩ := h.ex
  obtain ⟨g, hpg, hg⟩ := ht.ex
  refine sv_of (ps_for hp hc hpi hpg wSs_ps hs) fun σ G H D ok en k => hri σ G H _ ok en fun J ds G1 H1 q ok1 s1 dj => ?_
  obtain ⟨Pv, p0, ps, pd⟩ := q
  refine ⟨fun i m σ H => m = ds.length - i ∧ i ≤ ds.length ∧ Btw X.K E G1 (Pv i) σ H, ⟨ds.length, rfl, Nat.zero_le _, ω, δ, G1, p0, ok1, Same.refl G1, en.mono s1⟩, ?_⟩
  rintro i m σ' H' ⟨rfl, hi, ω', δ', G', hP, ok', s', en'⟩
  have sH : Same G1 H' := s'.trans ok'.gh
  by_cases hlt : i < ds.length
  · refine .inr ⟨dj.go i H' sH hlt, Btw X.K E G1 (Pv (i + 1)), fun σ' H' p' => ⟨ds.length - (i + 1), by omega, rfl, hlt, p'⟩, fun x H2 y => ?_⟩
    obtain ⟨δ'', hf, hb⟩ := ps i ds[i] ω' δ' (List.getElem?_eq_getElem hlt) hP
    rcases dj.yld i H' x H2 ds[i] sH y (List.getElem?_eq_getElem hlt) with ⟨e, r⟩ | ⟨T, vs, es, e, hT, e2, ed, r⟩
    · subst e
      exact hg _ G' _ _ _ _ _ _ ok'.gh en' (r.mono s') hf fun σ2 en2 _ => hb σ2 G' _ _ ok' en2 ⟨Nx.btw1 s', k.rt.mono (s1.trans s'), k.nx.mono (s1.trans s'), Nx.btw1 s'⟩
    · subst e e2
      obtain ⟨ok3, s3⟩ := ok'.new (o := .tup vs) hT (fun ps z => nomatch z)
      have rd : Rep X.K (upd G' T (.tup vs)) ds[i] (.ref T) := by rw [ed]; exact .tup (SqT.of upd_same) ((r.mono s').mono s3)
      have st := s'.trans s3
      exact hg _ _ _ _ _ _ _ _ ok3.gh (en'.mono s3) rd hf fun σ2 en2 _ => hb σ2 _ _ _ ok3 en2 ⟨Nx.btw1 st, k.rt.mono (s1.trans st), k.nx.mono (s1.trans st), Nx.btw1 st⟩
  · have e : i = ds.length := by omega
    subst e
    exact .inl ⟨dj.stop H' sH, k.nx ω' δ' σ' G' H' (pd ω' δ' hP) ok' (s1.trans s') en'⟩
end

/-! ### comprehensions -/
def cpB (own : List (Str × Nat)) (js vis : List Nat) (N Gs : List Str) (osc scope : Scope) : Bool :=
  blkC N osc scope own && scBlk vis N Gs scope && (js.all fun j => match N[j]? with | some x => (match scope.names.lookup x with | some .local => true | _ => false) | none => false) && (js.all fun j => decide (j ∈ own.map (·.2)))
structure CpOk (own : List (Str × Nat)) (js vis : List Nat) (N Gs : List Str) (osc scope : Scope) : Prop where
  blk : BlkOk N osc scope own
  b : ScB vis N Gs scope
  tl : ∀ j ∈ js, ∃ x, N[j]? = some x ∧ scope.names.lookup x = some .local
  sub : ∀ j ∈ js, j ∈ own.map (·.2)
theorem CpOk.of {own : List (Str × Nat)} {js vis : List Nat} {N Gs : List Str} {osc scope : Scope} (h : cpB own js vis N Gs osc scope = true) : CpOk own js vis N Gs osc scope := by
  unfold cpB at h
  simp only [Bool.and_eq_true, List.all_eq_true, decide_eq_true_eq] at h
  obtain ⟨⟨⟨h1, h2⟩, h3⟩, h4⟩ := h
  refine ⟨blkOk_by h1, .of h2, fun j hj => ?_, h4⟩
  have q := h3 j hj
  cases e : N[j]? with
  | none => rw [e] at q; cases q
  | some x =>
    rw [e] at q
    refine ⟨x, rfl, ?_⟩
    simp only at q
    split at q
    · assumption
    · cases q
theorem lookup_rel {env : Env} {k : NameKind} : ∀ {names : List (Str × NameKind)} {x : Str}, names.lookup x = some k →
    ∃ k', (names.map fun (n, k) => if (k == NameKind.free && env.scope.kind == .function && env.kindOf n == some .cell) then (n, NameKind.cell) else (n, k)).lookup x = some k' ∧ (k' = k ∨ k = .free ∧ k' = .cell)
  | [], _, h => by simp at h
  | (n, k0) :: r, x, h => by
    show ∃ k', List.lookup x ((if (k0 == NameKind.free && env.scope.kind == .function && env.kindOf n == some .cell) = true then (n, NameKind.cell) else (n, k0)) :: _) = _ ∧ _
    cases hx : x == n with
    | true =>
      simp only [List.lookup_cons, hx] at h
      cases h
      by_cases hc : (k == NameKind.free && env.scope.kind == .function && env.kindOf n == some .cell) = true
      · rw [if_pos hc]
        simp only [Bool.and_eq_true] at hc
        have hk : k = .free := by
          have := hc.1.1
          revert this
          cases k <;> decide
        exact ⟨.cell, by simp only [List.lookup_cons, hx], .inr ⟨hk, rfl⟩⟩
      · rw [if_neg hc]
        exact ⟨k, by simp only [List.lookup_cons, hx], .inl rfl⟩
    | false =>
      simp only [List.lookup_cons, hx] at h
      obtain ⟨k', h1, h2⟩ := lookup_rel (env := env) h
      refine ⟨k', ?_, h2⟩
      by_cases hc : (k0 == NameKind.free && env.scope.kind == .function && env.kindOf n == some .cell) = true
      · rw [if_pos hc]; simp only [List.lookup_cons, hx]; exact h1
      · rw [if_neg hc]; simp only [List.lookup_cons, hx]; exact h1
theorem vis_rel {env : Env} {scope : Scope} {cl : List (Str × Addr)} {A : Addr} {x : Str} (h : Vis scope x) : Vis (compEnvC scope cl A env).scope x := by
  rcases h with h | h | h <;> obtain ⟨k', h1, h2⟩ := lookup_rel (env := env) h <;> rcases h2 with e | ⟨e1, e2⟩
  · subst e; exact .inl h1
  · cases e1
  · subst e; exact .inr (.inl h1)
  · cases e1
  · subst e; exact .inr (.inr h1)
  · subst e2; exact .inr (.inl h1)
theorem gl_rel {env : Env} {scope : Scope} {cl : List (Str × Addr)} {A : Addr} {Gs : List Str} (h : GlobOk Gs scope) : GlobOk Gs (compEnvC scope cl A env).scope := ⟨fun j x hj => by
  obtain ⟨h1, h2⟩ := h.gl j x hj
  obtain ⟨k', h3, h4⟩ := lookup_rel (env := env) h1
  rcases h4 with e | ⟨e1, e2⟩
  · subst e; exact ⟨h3, h2⟩
  · cases e1⟩
theorem loc_rel {env : Env} {scope : Scope} {cl : List (Str × Addr)} {A : Addr} {x : Str} (h : scope.names.lookup x = some .local) : (compEnvC scope cl A env).scope.names.lookup x = some .local := lookup_relabel_local h
def wTs (X : Cx) (scope : Scope) (ifs : List Expr) : TT := fun σ H Q => ∀ (s0 : Shared) (H0 : Hp) (C : Addr) (cl : List (Str × Addr)) (fp : List Addr) (pins : List (Addr × Obj)) (s : Shared), Inv (X.blk s0 H0 scope (compEnvC scope cl C X.env) fp) pins σ H s →
  wpAny (model X.prog X.w) X.A (forIn ifs true fun c r => if r = true then do let ok ← isTrue c (compEnvC scope cl C X.env) (eval c (compEnvC scope cl C X.env)); pure (ForInStep.yield ok) else pure (ForInStep.yield r)) (TP (X.blk s0 H0 scope (compEnvC scope cl C X.env) fp) pins σ Q) (X.blk s0 H0 scope (compEnvC scope cl C X.env) fp).xe s
section
variable {X : Cx} {E : Ent} {ω : List Cell} {δ : DE} {R : D → Prop} {it tg elt test : Expr} {pos : Pos} {js vis : List Nat} {f : DE → D → DE → Prop} {scope : Scope} {own : List (Str × Nat)} {Gs : List Str}
theorem filterMap_take (es : List D) : ∀ i, i ≤ es.length → (List.range i).filterMap (fun j => es[j]?) = es.take i
  | 0, _ => rfl
  | i + 1, h => by
    have hi : i < es.length := by omega
    rw [List.range_succ, List.filterMap_append, filterMap_take es i (by omega), List.take_add_one]
    have e : List.filterMap (fun j => es[j]?) [i] = es[i]?.toList := by
      rw [List.getElem?_eq_getElem hi]
      simp [List.getElem?_eq_getElem hi]
    rw [e]
theorem lcO {wi : TI} {g : TG} {tt : TT} {RL : List D → Prop} (sub : ∀ j ∈ js, j ∈ own.map (·.2)) (hg : RunG X.K g js f)
    (hri : RI X.K E ω δ wi fun ds => ∃ res : Nat → Option D, ds.length ≤ 100000 ∧ (∀ (i : Nat) (d : D) (c : Cell), ds[i]? = some d → ∃ δ'', f (wipeD δ (own.map (·.2))) d δ'' ∧
      RT X.K E (c :: ω) δ'' tt fun b => (b = true → RE X.K E (c :: ω) δ'' (wB X scope elt) fun r => res i = some r) ∧ (b = false → res i = none)) ∧ RL ((List.range ds.length).filterMap res)) :
    ∀ (σ : L2.St) (G H : Hp) (Q : VK), SOk E ω G H → EnvR X.K G δ σ → (∀ L es G' H', RL es → E.Fr L → SOk E (Cell.own X.K L es :: ω) G' H' → Same G G' → Q (.ref L) H') → tLc wi g tt (wB X scope elt) (own.map (·.2)) σ H Q := by
  intro σ G H Q ok en k
  refine hri σ G H _ ok en fun J ds G1 H1 q ok1 s1 dj => ?_
  obtain ⟨res, hz, hstep, hr⟩ := q
  intro L hL
  refine ⟨fun i m H => m = ds.length - i ∧ i ≤ ds.length ∧ ∃ G', SOk E (Cell.own X.K L ((List.range i).filterMap res) :: ω) G' H ∧ Same G1 G', ⟨ds.length, rfl, Nat.zero_le _, G1, ok1.cell (c := Cell.own X.K L []) hL ⟨[], rfl, .nil⟩, Same.refl G1⟩, ?_⟩
  rintro i m H2 ⟨rfl, hi, G2, ok2, s2⟩
  have sH : Same G1 H2 := s2.trans ok2.gh
  by_cases hlt : i < ds.length
  · refine .inr ⟨dj.go i H2 sH hlt, fun H => ∃ G', SOk E (Cell.own X.K L ((List.range (i + 1)).filterMap res) :: ω) G' H ∧ Same G1 G', fun H' p' => ⟨ds.length - (i + 1), by omega, rfl, hlt, p'⟩, fun x H3 y => ?_⟩
    obtain ⟨δ'', hf, hb⟩ := hstep i ds[i] (Cell.own X.K L ((List.range i).filterMap res)) (List.getElem?_eq_getElem hlt)
    have hlen : ((List.range i).filterMap res).length ≤ 100000 := Nat.le_trans (List.length_filterMap_le _ _) (by rw [List.length_range]; omega)
    -- the turn from where the item has come
    have turn : ∀ (G3 H3 : Hp) (x : V), SOk E (Cell.own X.K L ((List.range i).filterMap res) :: ω) G3 H3 → Same G2 G3 → Rep X.K G3 ds[i] x → g x (wipe σ (own.map (·.2))) H3 fun σ2 H2 => wipe σ2 (own.map (·.2)) = wipe σ (own.map (·.2)) ∧ tt σ2 H2 fun b H3 =>
        if b = true then wB X scope elt σ2 H3 fun y H4 => ∃ acc, H4 L = some (.lst acc) ∧ acc.length < sizeLine ∧ ∃ G', SOk E (Cell.own X.K L ((List.range (i + 1)).filterMap res) :: ω) G' (upd H4 L (.lst (acc ++ [y]))) ∧ Same G1 G' else ∃ G', SOk E (Cell.own X.K L ((List.range (i + 1)).filterMap res) :: ω) G' H3 ∧ Same G1 G' := by
      intro G3 H3 x ok3 s3 r3
      refine hg _ G3 H3 ds[i] x _ δ'' _ ok3.gh ((en.mono ((s1.trans s2).trans s3)).wipe (own.map (·.2))) r3 hf fun σ' en' hw => ⟨by rw [hw _ sub, wipe_wipe], ?_⟩
      refine hb σ' G3 H3 _ ok3 en' fun b G4 H4 q4 ok4 s4 => ?_
      cases b with
      | true =>
        rw [if_pos rfl]
        refine q4.1 rfl σ' G4 H4 _ ok4 (en'.mono s4) fun w r G5 H5 hr5 ok5 s5 rw5 => ?_
        obtain ⟨g0, o, ho, hP⟩ := ok5.cs _ List.mem_cons_self
        obtain ⟨ws, eo, rws⟩ := hP
        subst eo
        refine ⟨ws, ho, ?_, G5, ?_, ((s2.trans s3).trans s4).trans s5⟩
        · rw [← rws.length]
          exact Nat.lt_of_le_of_lt hlen (by decide)
        · exact ok5.put (ω1 := []) (c := Cell.own X.K L ((List.range i).filterMap res)) (c' := Cell.own X.K L ((List.range (i + 1)).filterMap res)) rfl rfl ⟨_, rfl, by
            rw [List.range_succ, List.filterMap_append]
            have e : List.filterMap res [i] = [r] := by simp [hr5]
            rw [e]
            exact rws.append (.one rw5)⟩
      | false =>
        rw [if_neg (by decide)]
        have e : (List.range (i + 1)).filterMap res = (List.range i).filterMap res := by
          rw [List.range_succ, List.filterMap_append]
          simp [q4.2 rfl]
        rw [e]
        exact ⟨G4, ok4, (s2.trans s3).trans s4⟩
    rcases dj.yld i H2 x H3 ds[i] sH y (List.getElem?_eq_getElem hlt) with ⟨e, r⟩ | ⟨T, vs, es, e, hT, e2, ed, r⟩
    · subst e
      exact turn G2 _ x ok2 (Same.refl _) (r.mono s2)
    · subst e e2
      obtain ⟨ok3, s3⟩ := ok2.new (o := .tup vs) hT (fun ps z => nomatch z)
      exact turn _ _ _ ok3 s3 (by rw [ed]; exact .tup (SqT.of upd_same) ((r.mono s2).mono s3))
  · have e : i = ds.length := by omega
    subst e
    refine .inl ⟨dj.stop H2 sH, ?_⟩
    exact k _ _ G2 H2 hr (ok1.al _ hL) ok2 (s1.trans s2)
theorem lcD {wi : TI} {g : TG} {tt : TT} (sub : ∀ j ∈ js, j ∈ own.map (·.2)) (hg : RunG X.K g js f)
    (hri : RI X.K E ω δ wi fun ds => ∃ res : Nat → Option D, ds.length ≤ 100000 ∧ (∀ (i : Nat) (d : D) (c : Cell), ds[i]? = some d → ∃ δ'', f (wipeD δ (own.map (·.2))) d δ'' ∧
      RT X.K E (c :: ω) δ'' tt fun b => (b = true → RE X.K E (c :: ω) δ'' (wB X scope elt) fun r => res i = some r) ∧ (b = false → res i = none)) ∧ R (.lst ((List.range ds.length).filterMap res))) :
    RE X.K E ω δ (tLc wi g tt (wB X scope elt) (own.map (·.2))) R := fun σ G H Q ok en k =>
  lcO (RL := fun es => R (.lst es)) sub hg hri σ G H Q ok en fun L es G2 H2 hr hf ok2 s2 => by
    obtain ⟨o, G3, ho, hP, g3, s3, ok3⟩ := ok2.freeze (ω1 := []) (c := Cell.own X.K L es) rfl hf
    obtain ⟨ws, eo, rws⟩ := hP
    subst eo
    exact k _ _ G3 H2 hr ok3 (s2.trans s3) (.lst (SqL.of g3) (rws.mono s3))
variable {C : CtxI} [hx : XOk X C]
/-- the frame of the block -/
theorem blk_ok (B : CpOk own js vis C.N Gs X.env.scope scope) (s0 : Shared) (H0 : Hp) (A : Addr) (cl : List (Str × Addr)) (fp : List Addr) : XOk (X.blk s0 H0 scope (compEnvC scope cl A X.env) fp) ⟨C.P, C.w, C.K, C.mg, C.base, C.nv, C.N, Gs, C.k, some vis⟩ where
  prog := hx.prog
  w := hx.w
  K := hx.K
  mg := hx.mg
  base := hx.base
  N := hx.N
  calm := hx.calm
  nm := fun i x h hv => let q := B.b.nm.vis i x (by simpa [CtxI.vis] using hv) h; ⟨vis_rel q.1, q.2⟩
  gl := gl_rel B.b.gl
  room := hx.room
  lo := fun h => nomatch h
  fn := fun h => nomatch h
  kind := fun h => nomatch h
  ps := PassesOwn.never
abbrev CtxI.blk (C : CtxI) (Gs : List Str) (vis : List Nat) : CtxI := ⟨C.P, C.w, C.K, C.mg, C.base, C.nv, C.N, Gs, C.k, some vis⟩
theorem tgb_name {j : Nat} {x : Str} {px : Pos} (nd : C.N.Nodup) (B : CpOk own [j] vis C.N Gs X.env.scope scope) (hj : C.N[j]? = some x) : TgB X scope (.Name x px) [j] (fName j) :=
  ⟨_, fun s H A cl fp => by
    obtain ⟨y, h1, h2⟩ := B.tl j List.mem_cons_self
    rw [hj] at h1
    cases h1
    exact pg_name (X := X.blk s H scope (compEnvC scope cl A X.env) fp) (by rw [show (X.blk s H scope (compEnvC scope cl A X.env) fp).N = X.N from rfl, hx.N]; exact nd) (by rw [show (X.blk s H scope (compEnvC scope cl A X.env) fp).N = X.N from rfl, hx.N]; exact hj) (.inl (loc_rel h2)) (.inr (loc_rel h2)), rg_name⟩
theorem pgs_namesB {Y : Cx} (nd : Y.N.Nodup) : ∀ {es : List Expr} {is : List Nat}, NamesAt 100000 Y.N es is → (∀ j ∈ is, ∃ x, Y.N[j]? = some x ∧ Y.env.scope.names.lookup x = some .local) → PGs Y es (gNames is)
  | _, _, .nil, _ => pgs_nil
  | _, _, .cons (x := x) (i := i) hv h r, hl => by
    obtain ⟨y, h1, h2⟩ := hl i List.mem_cons_self
    rw [h] at h1
    cases h1
    exact pgs_cons (pg_name nd h (.inl h2) (.inr h2)) (pgs_namesB nd r fun j hj => hl j (List.mem_cons_of_mem _ hj))
theorem tgb_tup {es : List Expr} {kk : Nat} {px : Pos} (nd : C.N.Nodup) (B : CpOk own js vis C.N Gs X.env.scope scope) (hn : NamesAt 100000 C.N es js) (hlen : es.length = js.length) (hal : ∀ env, (assignEach es env).length = es.length) (hst : ∀ env, (assignEach es env).findIdx? (·.1) = none) : TgB X scope (.Tuple es kk px) js (fTup js) :=
  ⟨_, fun s H A cl fp => by
    have eN : (X.blk s H scope (compEnvC scope cl A X.env) fp).N = C.N := hx.N
    exact pg_tup (X := X.blk s H scope (compEnvC scope cl A X.env) fp) hx.calm (pgs_namesB (by rw [eN]; exact nd) (by rw [eN]; exact hn) (by rw [eN]; exact fun j hj => let ⟨x, a, b⟩ := B.tl j hj; ⟨x, a, loc_rel b⟩)) ((hal _).trans hlen) (hst _), rg_tup⟩
abbrev LcH (X : Cx) (C : CtxI) (E : Ent) (ω : List Cell) (δ : DE) (R : D → Prop) (tg it elt : Expr) (own : List (Str × Nat)) (vis : List Nat) (Gs : List Str) (f : DE → D → DE → Prop) : Prop :=
  IV X E ω δ tg it fun ds => ∃ es : List D, ds.length ≤ 100000 ∧ es.length = ds.length ∧ (∀ (i : Nat) (d : D) (c : Cell), ds[i]? = some d → ∃ δ'', f (wipeD δ (own.map (·.2))) d δ'' ∧ ∀ (Y : Cx) [XOk Y (C.blk Gs vis)], EV Y E (c :: ω) δ'' elt fun r => es[i]? = some r) ∧ R (.lst es)
theorem lcRE (B : CpOk own js vis C.N Gs X.env.scope scope) {wi : TI} {g : TG} (hg : RunG X.K g js f) (hri : RI X.K E ω δ wi fun ds => ∃ es : List D, ds.length ≤ 100000 ∧ es.length = ds.length ∧ (∀ (i : Nat) (d : D) (c : Cell), ds[i]? = some d → ∃ δ'', f (wipeD δ (own.map (·.2))) d δ'' ∧ ∀ (Y : Cx) [XOk Y (C.blk Gs vis)], EV Y E (c :: ω) δ'' elt fun r => es[i]? = some r) ∧ R (.lst es)) :
    RE X.K E ω δ (tLc wi g tYes (wB X scope elt) (own.map (·.2))) R := by
  refine lcD B.sub hg fun σ G H RR ok en k => hri σ G H RR ok en fun J ds G' H' q => k J ds G' H' ?_
  obtain ⟨es, h1, h2, h3, h4⟩ := q
  refine ⟨fun i => es[i]?, h1, fun i d c hd => ?_, by rw [← h2, filterMap_take es es.length (Nat.le_refl _), List.take_length]; exact h4⟩
  obtain ⟨δ'', hf, he⟩ := h3 i d c hd
  refine ⟨δ'', hf, fun σ2 G2 H2 Q2 ok2 en2 k2 => k2 true G2 H2 ⟨fun _ => ?_, fun z => nomatch z⟩ ok2 (Same.refl _)⟩
  exact fun σ3 G3 H3 Q3 ok3 en3 k3 s0 H0 A cl fp => by
    haveI := blk_ok (X := X) B s0 H0 A cl fp
    exact he (X.blk s0 H0 scope (compEnvC scope cl A X.env) fp) σ3 G3 H3 Q3 ok3 en3 k3
theorem ev_lc (B : CpOk own js vis C.N Gs X.env.scope scope) (nd : C.N.Nodup) (ht : TgB X scope tg js f) (h : LcH X C E ω δ R tg it elt own vis Gs f) (hs : ∀ x, foldedSetIterable it X.env x = pure x := by intro _; rfl) : EV X E ω δ (.ListComp elt [⟨tg, it, [], 0⟩] scope pos) R := by
  obtain ⟨wi, hpi, hri⟩ := h.ex
  obtain ⟨g, hpg, hg⟩ := ht.ex
  exact ev_of (pe_lc (own := own) (te := wB X scope elt) hx.calm (by rw [hx.N]; exact nd) hpi (by rw [hx.N]; exact B.blk) hpg (fun _ _ _ _ _ => pts_nil) (fun s0 H0 A cl fp => ⟨fun pins s σ H Q I hw => hw s0 H0 A cl fp pins s I⟩) hs) (lcRE B hg hri)
variable {nx : List Cell → DE → Prop} {rt : List Cell → D → Prop} {bk ct : List Cell → DE → Prop}
/-- name = [..] -/
theorem sv_lc (i : Nat) {x : Str} {px spos : Pos} (hf : C.is = none) (hi : C.N[i]? = some x) (hxl : X.env.scope.names.lookup x = some .local) (hl : (px.line == pos.line) = true) (hfr : (scope.names.any fun (n, k) => n == x && (k == .local || k == .cell)) = false) (B : CpOk own js vis C.N Gs X.env.scope scope) (ht : TgB X scope tg js f)
    (h : LcH X C E ω δ (fun d => nx ω (δ.set i (some d))) tg it elt own vis Gs f) (hs : ∀ x, foldedSetIterable it X.env x = pure x := by intro _; rfl) : SV X E ω δ (.Assign [.Name x px] (.ListComp elt [⟨tg, it, [], 0⟩] scope pos) spos) ⟨nx, rt, bk, ct⟩ := by
  obtain ⟨wi, hpi, hri⟩ := h.ex
  obtain ⟨g, hpg, hg⟩ := ht.ex
  refine sv_of (ps_setLc (own := own) (te := wB X scope elt) hx.calm (hx.lo hf).nd (by rw [hx.N]; exact hi) hxl (sw_true (hx.kind hf) hxl hl hfr) hpi (by rw [hx.N]; exact B.blk) hpg (fun _ _ _ _ _ => pts_nil) (fun s0 H0 A cl fp => ⟨fun pins s σ H Q I hw => hw s0 H0 A cl fp pins s I⟩) hs) fun σ G H D ok en k => ?_
  exact lcRE B hg hri σ G H _ ok en fun v d G1 H1 q ok1 s1 r1 => k.nx ω _ _ G1 H1 q ok1 s1 ((en.mono s1).set r1)
/-- name = [..], the new list the body's own -/
theorem sv_lcOwn (i : Nat) {x : Str} {px spos : Pos} (hf : C.is = none) (hi : C.N[i]? = some x) (hxl : X.env.scope.names.lookup x = some .local) (hl : (px.line == pos.line) = true) (hfr : (scope.names.any fun (n, k) => n == x && (k == .local || k == .cell)) = false) (B : CpOk own js vis C.N Gs X.env.scope scope) (ht : TgB X scope tg js f)
    (h : IV X E ω δ tg it fun ds => ∃ es : List D, ds.length ≤ 100000 ∧ es.length = ds.length ∧ (∀ (i : Nat) (d : D) (c : Cell), ds[i]? = some d → ∃ δ'', f (wipeD δ (own.map (·.2))) d δ'' ∧ ∀ (Y : Cx) [XOk Y (C.blk Gs vis)], EV Y E (c :: ω) δ'' elt fun r => es[i]? = some r) ∧ ∀ p, E.Fr p → nx (Cell.own X.K p es :: ω) (δ.set i (some (.s (.ref p))))) (hs : ∀ x, foldedSetIterable it X.env x = pure x := by intro _; rfl) : SV X E ω δ (.Assign [.Name x px] (.ListComp elt [⟨tg, it, [], 0⟩] scope pos) spos) ⟨nx, rt, bk, ct⟩ := by
  obtain ⟨wi, hpi, hri⟩ := h.ex
  obtain ⟨g, hpg, hg⟩ := ht.ex
  refine sv_of (ps_setLc (own := own) (te := wB X scope elt) hx.calm (hx.lo hf).nd (by rw [hx.N]; exact hi) hxl (sw_true (hx.kind hf) hxl hl hfr) hpi (by rw [hx.N]; exact B.blk) hpg (fun _ _ _ _ _ => pts_nil) (fun s0 H0 A cl fp => ⟨fun pins s σ H Q I hw => hw s0 H0 A cl fp pins s I⟩) hs) fun σ G H D ok en k => ?_
  refine lcO (RL := fun es => ∀ p, E.Fr p → nx (Cell.own X.K p es :: ω) (δ.set i (some (.s (.ref p))))) B.sub hg (fun σ G H RR ok en k => hri σ G H RR ok en fun J ds G' H' q => k J ds G' H' ?_) σ G H _ ok en fun L es G2 H2 hr hf ok2 s2 => k.nx _ _ _ G2 H2 (hr L hf) ok2 s2 ((en.mono s2).set (.s _))
  obtain ⟨es, h1, h2, h3, h4⟩ := q
  refine ⟨fun i => es[i]?, h1, fun i d c hd => ?_, by rw [← h2, filterMap_take es es.length (Nat.le_refl _), List.take_length]; exact h4⟩
  obtain ⟨δ'', hf, he⟩ := h3 i d c hd
  refine ⟨δ'', hf, fun σ2 G2 H2 Q2 ok2 en2 k2 => k2 true G2 H2 ⟨fun _ => ?_, fun z => nomatch z⟩ ok2 (Same.refl _)⟩
  exact fun σ3 G3 H3 Q3 ok3 en3 k3 s0 H0 A cl fp => by
    haveI := blk_ok (X := X) B s0 H0 A cl fp
    exact he (X.blk s0 H0 scope (compEnvC scope cl A X.env) fp) σ3 G3 H3 Q3 ok3 en3 k3
/-- [.. if test] -/
theorem ev_lcIf (B : CpOk own js vis C.N Gs X.env.scope scope) (nd : C.N.Nodup) (ht : TgB X scope tg js f)
    (h : IV X E ω δ tg it fun ds => ∃ res : Nat → Option D, ds.length ≤ 100000 ∧ (∀ (i : Nat) (d : D) (c : Cell), ds[i]? = some d → ∃ δ'', f (wipeD δ (own.map (·.2))) d δ'' ∧ ∃ b0 : Bool, (∀ (Y : Cx) [XOk Y (C.blk Gs vis)], ET Y E (c :: ω) δ'' test fun b => b = b0) ∧ (b0 = true → ∀ (Y : Cx) [XOk Y (C.blk Gs vis)], EV Y E (c :: ω) δ'' elt fun r => res i = some r) ∧ (b0 = false → res i = none)) ∧ R (.lst ((List.range ds.length).filterMap res)))
    (hs : ∀ x, foldedSetIterable it X.env x = pure x := by intro _; rfl) : EV X E ω δ (.ListComp elt [⟨tg, it, [test], 0⟩] scope pos) R := by
  obtain ⟨wi, hpi, hri⟩ := h.ex
  obtain ⟨g, hpg, hg⟩ := ht.ex
  refine ev_of (pe_lc (own := own) (tt := wTs X scope [test]) (te := wB X scope elt) hx.calm (by rw [hx.N]; exact nd) hpi (by rw [hx.N]; exact B.blk) hpg (fun s0 H0 A cl fp => ⟨fun pins s σ H Q I hw => hw s0 H0 A cl fp pins s I⟩) (fun s0 H0 A cl fp => ⟨fun pins s σ H Q I hw => hw s0 H0 A cl fp pins s I⟩) hs) ?_
  refine lcD B.sub hg fun σ G H RR ok en k => hri σ G H RR ok en fun J ds G' H' q => k J ds G' H' ?_
  obtain ⟨res, h1, h3, h4⟩ := q
  refine ⟨res, h1, fun i d c hd => ?_, h4⟩
  obtain ⟨δ'', hf, b0, he, he1, he2⟩ := h3 i d c hd
  refine ⟨δ'', hf, fun σ2 G2 H2 Q2 ok2 en2 k2 s0 H0 A cl fp pins s I => ?_⟩
  haveI := blk_ok (X := X) B s0 H0 A cl fp
  refine (pts_one (X := X.blk s0 H0 scope (compEnvC scope cl A X.env) fp) wT_pt).run pins s σ2 H2 Q2 I ?_
  refine he (X.blk s0 H0 scope (compEnvC scope cl A X.env) fp) σ2 G2 H2 Q2 ok2 en2 fun b G3 H3 q3 ok3 s3 => k2 b G3 H3 ⟨fun hb => ?_, fun hb => he2 (q3.symm.trans hb)⟩ ok3 s3
  exact fun σ3 G3 H3 Q3 ok3 en3 k3 s1 H1 A1 cl1 fp1 => by
    haveI := blk_ok (X := X) B s1 H1 A1 cl1 fp1
    exact he1 (q3.symm.trans hb) (X.blk s1 H1 scope (compEnvC scope cl1 A1 X.env) fp1) σ3 G3 H3 Q3 ok3 en3 k3
/-- for, told of the frame -/
theorem w_forN (j : Nat) {body : List Stmt} {x : Str} {px : Pos} (hf : C.is = none) (hv : Nat.blt j C.nv = true) (hj : C.N[j]? = some x)
    (h : IV X E ω δ (.Name x px) it fun ds => ∃ Pv : Nat → List Cell → DE → Prop, Pv 0 ω δ ∧
      (∀ i d ω' δ', ds[i]? = some d → Pv i ω' δ' → BV X E ω' (δ'.set j (some d)) body ⟨Pv (i + 1), rt, nx, Pv (i + 1)⟩) ∧ (∀ ω' δ', Pv ds.length ω' δ' → nx ω' δ'))
    (hs : ∀ x, foldedSetIterable it X.env x = pure x := by intro _; rfl) : SV X E ω δ (.For (.Name x px) it body [] pos) ⟨nx, rt, bk, ct⟩ :=
  sv_for hx.ps hx.calm (tg_name (hx.lo hf).nd (by rw [hx.N]; exact hj) ((hx.lo hf).loc j x hv (by rw [hx.N]; exact hj)) (.inl (hx.fn hf x)))
    (h.imp fun ds q => let ⟨Pv, p0, ps, pd⟩ := q; ⟨Pv, p0, fun i d ω' δ' hd hp => ⟨_, rfl, ps i d ω' δ' hd hp⟩, pd⟩) hs
theorem w_forT (js : List Nat) {body : List Stmt} {es : List Expr} {kk : Nat} {px : Pos} (hf : C.is = none) (hn : NamesAt C.nv C.N es js) (hlen : es.length = js.length)
    (h : IV X E ω δ (.Tuple es kk px) it fun ds => ∃ Pv : Nat → List Cell → DE → Prop, Pv 0 ω δ ∧
      (∀ i d ω' δ', ds[i]? = some d → Pv i ω' δ' → ∃ ts, d = .tup ts ∧ ts.length = js.length ∧ BV X E ω' (setAll δ' js ts) body ⟨Pv (i + 1), rt, nx, Pv (i + 1)⟩) ∧ (∀ ω' δ', Pv ds.length ω' δ' → nx ω' δ'))
    (hal : (assignEach es X.env).length = es.length := by rfl) (hst : (assignEach es X.env).findIdx? (·.1) = none := by rfl)
    (hs : ∀ x, foldedSetIterable it X.env x = pure x := by intro _; rfl) : SV X E ω δ (.For (.Tuple es kk px) it body [] pos) ⟨nx, rt, bk, ct⟩ :=
  sv_for hx.ps hx.calm (tg_tup hx.calm (pgs_names (hx.lo hf) (hx.fn hf) (by rw [hx.N]; exact hn)) (hal.trans hlen) hst)
    (h.imp fun ds q => let ⟨Pv, p0, ps, pd⟩ := q; ⟨Pv, p0, fun i d ω' δ' hd hp => let ⟨ts, e1, e2, e3⟩ := ps i d ω' δ' hd hp; ⟨_, ⟨ts, e1, e2, rfl⟩, e3⟩, pd⟩) hs
end
end DL

set_option Elab.async false
set_option linter.all false
set_option maxRecDepth 100000
set_option maxHeartbeats 2000000
/-! Own lists; pairs compared; cells with an invariant. -/
namespace DL
open PySem L2 PyProof.Rows

section
variable {E : Ent} {ω : List Cell} {G G' H H' : Hp}
/-- one look at an own list as if it were known; nothing but a scalar comes back -/
theorem SOk.peek (k : SOk E ω G H) (h2 : SOk (ent G' H [] []) [] G' H') : Same H H' ∧ SOk E ω G H' := by
  have sH : Same H H' := fun p o e => h2.kp p o (fun z => by rcases z with ⟨c, hc, _⟩ | ⟨t, ht, _⟩ <;> contradiction) (fun z => absurd rfl z) e
  refine ⟨sH, ⟨fun p o e => sH _ _ (k.gh p o e), k.nt, k.nd, fun c hc => ?_, k.cf, k.tb.ext sH, k.tm, k.fr, fun p o hm hn e => sH _ _ (k.kp p o hm hn e), fun p e => k.al p ((h2.al p e).none ent_pu)⟩⟩
  obtain ⟨g, o, e, q⟩ := k.cs c hc
  exact ⟨g, o, sH _ _ e, q⟩
theorem SOk.sight {K : PySem.W.Frag} {p : Addr} {ds : List D} (k : SOk E ω G H) (hm : Cell.own K p ds ∈ ω) : ∃ vs, Same G (upd G p (.lst vs)) ∧ H p = some (.lst vs) ∧ RepL K G ds vs ∧ SOk (ent (upd G p (.lst vs)) H [] []) [] (upd G p (.lst vs)) H := by
  obtain ⟨gp, o, ho, vs, eo, r⟩ := k.cs _ hm
  have gp : G p = none := gp
  have ho : H p = some o := ho
  subst eo
  have sG : Same G (upd G p (.lst vs)) := fun b u e => by rw [upd_ne (ne_of_none e gp)]; exact e
  refine ⟨vs, sG, ho, r, ⟨fun b u e => ?_, fun b ps e => ?_, List.Pairwise.nil, fun c hc => (nomatch hc), fun c hc => (nomatch hc), fun t ht => (nomatch ht), fun t ht => (nomatch ht), fun b u e => .inl e, fun b u _ _ e => e, fun b e => .inr (.inl e)⟩⟩
  · by_cases hb : b = p
    · subst hb; rw [upd_same] at e; rw [ho]; exact e
    · rw [upd_ne hb] at e; exact k.gh b u e
  · by_cases hb : b = p
    · subst hb; rw [upd_same] at e; cases e
    · rw [upd_ne hb] at e; exact k.nt b ps e
/-- another view of an own cell -/
theorem SOk.view (k : SOk E ω G H) {c c' : Cell} {ω1 ω2 : List Cell} (e : ω = ω1 ++ c :: ω2) (ea : c'.a = c.a) (q : ∀ o, H c.a = some o → c.P G o → c'.P G o) : SOk E (ω1 ++ c' :: ω2) G H := by
  subst e
  have nd := k.nd
  refine ⟨k.gh, k.nt, by rw [List.map_append, List.map_cons, ea]; rw [List.map_append, List.map_cons] at nd; exact nd, fun x hx => ?_, fun x hx => ?_, k.tb, k.tm, k.fr, k.kp, k.al⟩
  · rcases List.mem_append.mp hx with hx | hx
    · exact k.cs x (List.mem_append_left _ hx)
    · rcases List.mem_cons.mp hx with rfl | hx
      · obtain ⟨g, o, e, r⟩ := k.cs c (List.mem_append_right _ List.mem_cons_self)
        exact ⟨by rw [ea]; exact g, o, by rw [ea]; exact e, q o e r⟩
      · exact k.cs x (List.mem_append_right _ (List.mem_cons_of_mem _ hx))
  · rcases List.mem_append.mp hx with hx | hx
    · exact k.cf x (List.mem_append_left _ hx)
    · rcases List.mem_cons.mp hx with rfl | hx
      · rw [ea]; exact k.cf c (List.mem_append_right _ List.mem_cons_self)
      · exact k.cf x (List.mem_append_right _ (List.mem_cons_of_mem _ hx))
/-- a def gave an own list -/
theorem SOk.backO (k : SOk E ω G H) {c : Cell} (s : Same G G') (k2 : SOk (ent G H [] []) [c] G' H') : SOk E (c :: ω) G' H' := by
  have sH : Same H H' := fun p o e => k2.kp p o (fun z => by rcases z with ⟨c, hc, _⟩ | ⟨t, ht, _⟩ <;> contradiction) (fun z => absurd rfl z) e
  have hf : H c.a = none := (k2.cf c List.mem_cons_self).none ent_pu
  refine ⟨k2.gh, k2.nt, ?_, fun x hx => ?_, fun x hx => ?_, k.tb.ext sH, k.tm, fun p o e => ?_, fun p o hm hn e => sH _ _ (k.kp p o hm hn e), fun p e => k.al p ((k2.al p e).none ent_pu)⟩
  · rw [List.map_cons, List.nodup_cons]
    refine ⟨fun z => ?_, k.nd⟩
    obtain ⟨x, hx, e⟩ := List.mem_map.mp z
    obtain ⟨_, u, e2, _⟩ := k.cs x hx
    rw [e, hf] at e2
    cases e2
  · rcases List.mem_cons.mp hx with rfl | hx
    · exact k2.cs _ List.mem_cons_self
    · obtain ⟨g, o, e, q⟩ := k.cs x hx
      refine ⟨?_, o, sH _ _ e, x.mono s q⟩
      cases q2 : G' x.a with
      | none => rfl
      | some u =>
        rcases k2.fr x.a u q2 with z | z
        · rw [show G x.a = _ from z] at g; cases g
        · rw [show H x.a = _ from z.none ent_pu] at e; cases e
  · rcases List.mem_cons.mp hx with rfl | hx
    · exact k.al _ hf
    · exact k.cf x hx
  · rcases k2.fr p o e with z | z
    · exact k.fr p o z
    · exact .inr (k.al p (z.none ent_pu))
end
section
variable {X : Cx} {E : Ent} {ω : List Cell} {δ δ' : DE} {R : D → Prop} {a b c e : Expr} {pos : Pos} {Φ : Outs}
/-- what an own list's name may be taken for -/
def Seen (K : PySem.W.Frag) (δ δ' : DE) (p : Addr) (ds : List D) : Prop := ∀ (G : Hp) (σ : L2.St) (vs : List V), EnvR K G δ σ → SqL K G p vs → RepL K G ds vs → EnvR K G δ' σ
theorem seen_name {K : PySem.W.Frag} {i : Nat} {p : Addr} {ds : List D} (h : δ[i]? = some (some (.s (.ref p)))) : Seen K δ (δ.set i (some (.lst ds))) p ds := fun G σ vs en hq r => by
  obtain ⟨v, e1, r1⟩ := en.2 i _ h
  cases r1
  refine ⟨by simp [en.1], fun j d q => ?_⟩
  by_cases hj : j = i
  · subst hj
    by_cases hl : j < δ.length
    · rw [List.getElem?_set_self hl] at q
      cases q
      exact ⟨_, e1, .lst hq r⟩
    · rw [List.getElem?_eq_none (by simpa using hl)] at q
      cases q
  · rw [List.getElem?_set_ne (Ne.symm hj)] at q
    exact en.2 j d q
/-- (x, the list) -/
theorem seen_pair {K : PySem.W.Frag} {i : Nat} {p : Addr} {ds : List D} {x : D} (h : δ[i]? = some (some (.tup [x, .s (.ref p)]))) : Seen K δ (δ.set i (some (.tup [x, .lst ds]))) p ds := fun G σ vs en hq r => by
  obtain ⟨v, e1, r1⟩ := en.2 i _ h
  refine ⟨by simp [en.1], fun j d q => ?_⟩
  by_cases hj : j = i
  · subst hj
    by_cases hl : j < δ.length
    · rw [List.getElem?_set_self hl] at q
      cases q
      refine ⟨_, e1, ?_⟩
      cases r1 with
      | tup hq1 rl =>
        cases rl with
        | cons ra rl =>
          cases rl with
          | cons rb rl =>
            cases rl
            cases rb
            exact .tup hq1 (.cons ra (.one (.lst hq r)))
    · rw [List.getElem?_eq_none (by simpa using hl)] at q
      cases q
  · rw [List.getElem?_set_ne (Ne.symm hj)] at q
    exact en.2 j d q
theorem ev_peek {p : Addr} {ds : List D} (hm : Cell.own X.K p ds ∈ ω) (hs : Seen X.K δ δ' p ds) (h : ∀ E' : Ent, EV X E' [] δ' e fun d => ∃ v, d = .s v ∧ R (.s v)) : EV X E ω δ e R := fun σ G H Q ok en k => by
  obtain ⟨vs, sG, hp, r, ok2⟩ := ok.sight hm
  refine h _ σ _ H _ ok2 (hs _ σ vs (en.mono sG) (SqL.of upd_same) (r.mono sG)) fun v d G' H' q ok3 s3 r3 => ?_
  obtain ⟨v0, e, hr⟩ := q
  subst e
  cases r3
  have z : SOk (ent G' H [] []) [] G' H' := ⟨ok3.gh, ok3.nt, ok3.nd, ok3.cs, ok3.cf, fun t ht => (nomatch ht), fun t ht => (nomatch ht), fun p o e => .inl e, ok3.kp, ok3.al⟩
  exact k _ _ G H' hr (ok.peek z).2 (Same.refl G) (.s _)
theorem et_peek {p : Addr} {ds : List D} {R : Bool → Prop} (hm : Cell.own X.K p ds ∈ ω) (hs : Seen X.K δ δ' p ds) (h : ∀ E' : Ent, ET X E' [] δ' e R) : ET X E ω δ e R := fun σ G H Q ok en k => by
  obtain ⟨vs, sG, hp, r, ok2⟩ := ok.sight hm
  refine h _ σ _ H _ ok2 (hs _ σ vs (en.mono sG) (SqL.of upd_same) (r.mono sG)) fun b G' H' q ok3 s3 => ?_
  have z : SOk (ent G' H [] []) [] G' H' := ⟨ok3.gh, ok3.nt, ok3.nd, ok3.cs, ok3.cf, fun t ht => (nomatch ht), fun t ht => (nomatch ht), fun p o e => .inl e, ok3.kp, ok3.al⟩
  exact k _ G H' q (ok.peek z).2 (Same.refl G)
/-- an own list of this body is known from here on -/
theorem bv_freeze {p : Addr} {ds : List D} {ω1 ω2 : List Cell} {st : List Stmt} (e : ω = ω1 ++ Cell.own X.K p ds :: ω2) (hf : E.Fr p) (hs : Seen X.K δ δ' p ds) (h : BV X E (ω1 ++ ω2) δ' st Φ) : BV X E ω δ st Φ := fun σ G H D ok en k => by
  obtain ⟨o, G2, ho, hP, hg, s, ok2⟩ := ok.freeze e hf
  obtain ⟨vs, eo, r⟩ := hP
  subst eo
  exact h σ G2 H D ok2 (hs G2 σ vs (en.mono s) (SqL.of hg) (r.mono s)) (k.mono s)
/-- a cell with an invariant -/
def Cell.inv (K : PySem.W.Frag) (a : Addr) (S : List D → Prop) : Cell := ⟨a, fun G o => ∃ vs, o = .lst vs ∧ ∃ ds, S ds ∧ RepL K G ds vs, fun e h => h.elim fun vs h => h.2.elim fun ds q => ⟨vs, h.1, ds, q.1, q.2.mono e⟩, fun h => h.elim fun vs h => .inl ⟨vs, h.1⟩⟩
theorem bv_open {p : Addr} {S : List D → Prop} {ω1 ω2 : List Cell} {st : List Stmt} (e : ω = ω1 ++ Cell.inv X.K p S :: ω2) (h : ∀ ds, S ds → BV X E (ω1 ++ Cell.own X.K p ds :: ω2) δ st Φ) : BV X E ω δ st Φ := fun σ G H D ok en k => by
  subst e
  obtain ⟨g, o, ho, vs, eo, ds, hS, r⟩ := ok.cs (Cell.inv X.K p S) (List.mem_append_right _ List.mem_cons_self)
  exact h ds hS σ G H D (ok.view (c := Cell.inv X.K p S) (c' := Cell.own X.K p ds) rfl rfl fun o' ho' _ => by
    rw [ho] at ho'
    cases ho'
    exact ⟨vs, eo, r⟩) en k
theorem SOk.close {K : PySem.W.Frag} {G H : Hp} {p : Addr} {S : List D → Prop} {ds : List D} {ω1 ω2 : List Cell} (hS : S ds) (k : SOk E (ω1 ++ Cell.own K p ds :: ω2) G H) : SOk E (ω1 ++ Cell.inv K p S :: ω2) G H :=
  k.view (c := Cell.own K p ds) (c' := Cell.inv K p S) rfl rfl fun o _ q => let ⟨vs, e, r⟩ := q; ⟨vs, e, ds, hS, r⟩
theorem bv_close {p : Addr} {S : List D → Prop} {ds : List D} {ω1 ω2 : List Cell} {st : List Stmt} (e : ω = ω1 ++ Cell.own X.K p ds :: ω2) (hS : S ds) (h : BV X E (ω1 ++ Cell.inv X.K p S :: ω2) δ st Φ) : BV X E ω δ st Φ := fun σ G H D ok en k => by
  subst e
  exact h σ G H D (ok.close hS) en k

/-! ### the truth of a list -/
def tTru (K : PySem.W.Frag) (te : TE) : TT := fun σ H Q => te σ H fun x H1 => ∃ p xs, x = .ref p ∧ SqL K H1 p xs ∧ Q (!xs.isEmpty) H1
theorem pt_list {te : TE} (h : PE X e te) (he : ∀ whole, isTrue e X.env whole = (do let v ← whole; standAt e.pos; holding [v] (truthy v)) := by intro _; rfl) : PT X e (tTru X.K te) := by
  refine ⟨fun pins s σ H Q I hw => ?_⟩
  rw [he]
  refine wpAny_bind (thn (h.run pins s σ H _ I hw) fun v s1 ⟨x, H1, I1, r1, q1⟩ => ?_)
  refine wpAny_bind (wpAny_standAt (wpAny_holding ?_))
  obtain ⟨p, xs, e1, hq, q⟩ := q1
  subst e1
  cases r1
  obtain ⟨its, rv, hp, hz⟩ := I1.list hq
  have hl := rv.length
  refine wpAny_truthy_list hp.isList (by have z := hz; rw [sizeLine_eq] at z; simp; omega) ?_
  refine ⟨H1, I1.tok _, ?_⟩
  have e2 : (!its.toArray.isEmpty) = !xs.isEmpty := by
    cases its <;> cases xs <;> simp at hl ⊢
  first | exact e2 ▸ q | (rw [e2]; exact q)
theorem et_truL {R : Bool → Prop} (he : ∀ whole, isTrue e X.env whole = (do let v ← whole; standAt e.pos; holding [v] (truthy v))) (h : EV X E ω δ e fun d => ∃ ds, d = .lst ds ∧ R (!ds.isEmpty)) : ET X E ω δ e R :=
  et_of (pt_list wE_pe he) fun σ G H Q ok en k => h σ G H _ ok en fun v d G1 H1 q ok1 s1 r1 => by
    obtain ⟨ds, e1, hr⟩ := q
    subst e1
    cases r1 with
    | @lst p vs _ hq rl =>
      refine ⟨p, vs, rfl, ok1.gh.seq hq, k _ G1 H1 ?_ ok1 s1⟩
      have hl := rl.length
      have : vs.isEmpty = ds.isEmpty := by cases vs <;> cases ds <;> simp at hl ⊢
      rw [this]
      exact hr

/-! ### pairs of ints compared -/
theorem dp_pair {K : PySem.W.Frag} {G H : Hp} {v : V} {i j : Int} (s : Same G H) (r : Rep K G (.tup [.int i, .int j]) v) : Dp K H v (.tuple [.int i, .int j]) := by
  cases r with
  | tup hq rl =>
    cases rl with
    | cons r1 rl =>
      cases rl with
      | cons r2 rl =>
        cases rl
        cases r1
        cases r2
        exact .tup (sqT_mono s hq) (.cons (.int i) (.cons (.int j) .nil))
theorem eqv_pair (i j k l : Int) : PyData.eqv (.tuple [.int i, .int j]) (.tuple [.int k, .int l]) = decide (i = k ∧ j = l) := by
  simp [PyData.eqv, PyData.eqvAll]
  by_cases h1 : i = k <;> by_cases h2 : j = l <;> simp [h1, h2]
variable {C : CtxI} [hx : XOk X C]
theorem re_pair {R : D → Prop} {g : Bool → Bool} {op : CmpOp} (h : EV X E ω δ a fun x => EV X E ω δ b fun y => ∃ i j k l : Int, x = .tup [.int i, .int j] ∧ y = .tup [.int k, .int l] ∧ R (.bl (g (decide (i = k ∧ j = l))))) :
    RE X.K E ω δ (tOp (fun x y H Q => ∃ d e, Dp X.K H x d ∧ Dp X.K H y e ∧ SeqAt.shaped d = true ∧ SeqAt.shaped e = true ∧ Q (.bl (g (PyData.eqv d e))) H) (wE X a) (wE X b)) R :=
  fun σ G H Q ok en k => h σ G H _ ok en fun v d G1 H1 q ok1 s1 r1 => q σ G1 H1 _ ok1 (en.mono s1) fun w d2 G2 H2 q2 ok2 s2 r2 => by
    obtain ⟨i, j, k', l, e1, e2, hr⟩ := q2
    subst e1 e2
    refine ⟨_, _, dp_pair (s2.trans ok2.gh) r1, dp_pair ok2.gh r2, rfl, rfl, ?_⟩
    rw [eqv_pair]
    exact k _ _ G2 H2 hr ok2 (s1.trans s2) (.s _)
include hx in
theorem ev_eqP (h : EV X E ω δ a fun x => EV X E ω δ b fun y => ∃ i j k l : Int, x = .tup [.int i, .int j] ∧ y = .tup [.int k, .int l] ∧ R (.bl (decide (i = k ∧ j = l)))) : EV X E ω δ (.Compare a [.Eq] [b] pos) R :=
  ev_of (pe_cmpR (op_eqD hx.room.units) wE_pe wE_pe (nomark _)) (re_pair (g := id) (op := .Eq) h)
include hx in
theorem et_eqP {R : Bool → Prop} (h : EV X E ω δ a fun x => EV X E ω δ b fun y => ∃ i j k l : Int, x = .tup [.int i, .int j] ∧ y = .tup [.int k, .int l] ∧ R (decide (i = k ∧ j = l))) : ET X E ω δ (.Compare a [.Eq] [b] pos) R :=
  et_of (pt_cmpR (op_eqD hx.room.units) wE_pe wE_pe (nomark _)) (rt_test (re_pair (g := id) (op := .Eq) (h.imp fun x q => q.imp fun y ⟨i, j, k, l, e1, e2, hr⟩ => ⟨i, j, k, l, e1, e2, _, rfl, hr⟩)))
include hx in
theorem et_neP {R : Bool → Prop} (h : EV X E ω δ a fun x => EV X E ω δ b fun y => ∃ i j k l : Int, x = .tup [.int i, .int j] ∧ y = .tup [.int k, .int l] ∧ R (!decide (i = k ∧ j = l))) : ET X E ω δ (.Compare a [.NotEq] [b] pos) R :=
  et_of (pt_cmpR (op_neD hx.room.units) wE_pe wE_pe (nomark _)) (rt_test (re_pair (g := not) (op := .NotEq) (h.imp fun x q => q.imp fun y ⟨i, j, k, l, e1, e2, hr⟩ => ⟨i, j, k, l, e1, e2, _, rfl, hr⟩)))

/-! ### statements that make and change own lists -/
variable {nx : List Cell → DE → Prop} {rt : List Cell → D → Prop} {bk ct : List Cell → DE → Prop}
/-- x = [..], an own list -/
theorem w_newL (i : Nat) {x : Str} {pos' lp : Pos} {es : List Expr} (hf : C.is = none) (hv : Nat.blt i C.nv = true) (hi : C.N[i]? = some x)
    (h : EA X E ω δ es fun ds => ds.length ≤ 100000 ∧ ∀ p, E.Fr p → nx (Cell.own X.K p ds :: ω) (δ.set i (some (.s (.ref p)))))
    (hs : swapsWith (.List es lp) (some (.Name x pos')) pos.line X.env = pure false := by rfl) : SV X E ω δ (.Assign [.Name x pos'] (.List es lp) pos) ⟨nx, rt, bk, ct⟩ :=
  sv_of (ps_set (hx.lo hf).nd (by rw [hx.N]; exact hi) ((hx.lo hf).loc i x hv (by rw [hx.N]; exact hi)) (pe_lst wA_pa) hs (.inl (hx.fn hf x))) fun σ G H D ok en k =>
    h σ G H _ ok en fun vs ds G1 H1 q ok1 s1 r1 => by
      refine ⟨by rw [← r1.length]; exact Nat.le_trans q.1 (by decide), fun p hp => ?_⟩
      have ok2 := ok1.cell (c := Cell.own X.K p ds) (o := .lst vs) hp ⟨vs, rfl, r1⟩
      exact k.nx _ _ _ G1 _ (q.2 p (ok1.al p hp)) ok2 s1 ((en.mono s1).set (.s _))
/-- return [..], an own list -/
theorem w_retL {lp : Pos} {es : List Expr} (h : EA X E ω δ es fun ds => ds.length ≤ 100000 ∧ ∀ p, E.Fr p → rt (Cell.own X.K p ds :: ω) (.s (.ref p))) : SV X E ω δ (.Return (some (.List es lp)) pos) ⟨nx, rt, bk, ct⟩ :=
  sv_of (ps_ret (pe_lst wA_pa)) fun σ G H D ok en k => h σ G H _ ok en fun vs ds G1 H1 q ok1 s1 r1 => by
    refine ⟨by rw [← r1.length]; exact Nat.le_trans q.1 (by decide), fun p hp => ?_⟩
    have ok2 := ok1.cell (c := Cell.own X.K p ds) (o := .lst vs) hp ⟨vs, rfl, r1⟩
    exact k.rt _ _ _ G1 _ (q.2 p (ok1.al p hp)) ok2 s1 (.s _)
/-- x.append(e) -/
theorem w_append {o : Expr} {apos cpos : Pos} {p : Addr} {ds : List D} {ω1 ω2 : List Cell} (e1 : ω = ω1 ++ Cell.own X.K p ds :: ω2) (hl : ds.length < 100000)
    (h : EV X E ω δ o fun x => x = .s (.ref p) ∧ EV X E ω δ e fun d => nx (ω1 ++ Cell.own X.K p (ds ++ [d]) :: ω2) δ)
    (hs : swapsWith (.Call (.Attribute o "append" apos) [e] [] cpos) none pos.line X.env = pure false := by rfl)
    (hbase : attributeBase o "append" X.env (eval o X.env) = eval o X.env := by rfl)
    (hfew : ((backTo cpos (starEach [e] X.env)).all (fun x => !x.1) && (backToKw cpos (keywordEach [] X.env)).all (fun x => x.1.isSome)
      && decide ([e].length + ([] : List Keyword).length + (if ([] : List Keyword).isEmpty then 0 else 1) < 30)) = true := by rfl)
    (hline : (apos.endLine == cpos.line) = true := by rfl) (hst : starEach [e] X.env = (false, eval e X.env) :: starEach [] X.env := by rfl) (hplain : (backTo cpos (starEach [] X.env)).any (·.1) = false := by rfl) :
    SV X E ω δ (.Expr (.Call (.Attribute o "append" apos) [e] [] cpos) pos) ⟨nx, rt, bk, ct⟩ := by
  refine sv_of (ps_expr (pe_bm F.plainAttrs_list F.slot_list_append F.type_list_append mt_append wE_pe (pa_cons wE_pe pa_nil hst) hbase hfew hline hst hplain) hs) fun σ G H D ok en k => ?_
  refine h σ G H _ ok en fun v d G1 H1 q ok1 s1 r1 => ?_
  obtain ⟨ed, q⟩ := q
  subst ed
  cases r1
  subst e1
  obtain ⟨g1, o1, ho1, vs1, eo1, rl1⟩ := ok1.cs (Cell.own X.K p ds) (List.mem_append_right _ List.mem_cons_self)
  subst eo1
  refine ⟨.inl ⟨rfl, vs1, SqL.of ho1⟩, ?_⟩
  refine q σ G1 H1 _ ok1 (en.mono s1) fun w d G2 H2 q2 ok2 s2 r2 => ?_
  obtain ⟨g2, o2, ho2, vs2, eo2, rl2⟩ := ok2.cs (Cell.own X.K p ds) (List.mem_append_right _ List.mem_cons_self)
  subst eo2
  refine ⟨p, vs2, w, rfl, rfl, ho2, by rw [← rl2.length]; exact Nat.lt_of_lt_of_le hl (by decide), ?_⟩
  exact k.nx _ _ σ G2 _ q2 (ok2.put (c := Cell.own X.K p ds) (c' := Cell.own X.K p (ds ++ [d])) rfl rfl ⟨_, rfl, rl2.append (.one r2)⟩) (s1.trans s2) ((en.mono s1).mono s2)
/-- x[i] = e -/
theorem w_setix {o ie : Expr} {ip : Pos} {p : Addr} {ds : List D} {ω1 ω2 : List Cell} (e1 : ω = ω1 ++ Cell.own X.K p ds :: ω2)
    (h : EV X E ω δ e fun d => EV X E ω δ o fun x => x = .s (.ref p) ∧ EV X E ω δ ie fun y => ∃ (i : Int) (j : Nat), y = .int i ∧ ixN ds.length i = some j ∧ nx (ω1 ++ Cell.own X.K p (ds.set j d) :: ω2) δ)
    (ha : ∀ v, assign (.Subscript o ie ip) X.env v = (do
      let ov ← holding [v] (eval o X.env)
      let iv ← holding [v, ov] (eval ie X.env)
      standAt ip
      holding [v, ov, iv] (setItem ov iv v)
      release [v, ov, iv] []) := by intro _; rfl)
    (hs : swapsWithSole [.Subscript o ie ip] e pos.line X.env = pure false := by rfl) (hw : swappedStores [.Subscript o ie ip] e X.env = pure none := by rfl)
    (h1 : (assignEach [.Subscript o ie ip] X.env).map (·.2) = [assign (.Subscript o ie ip) X.env] := by rfl) : SV X E ω δ (.Assign [.Subscript o ie ip] e pos) ⟨nx, rt, bk, ct⟩ :=
  sv_of (ps_asg wE_pe (pg_sub wE_pe wE_pe set_list ha) hs hw h1) fun σ G H D ok en k => h σ G H _ ok en fun v d G1 H1 q ok1 s1 r1 => q σ G1 H1 _ ok1 (en.mono s1) fun w d2 G2 H2 q2 ok2 s2 r2 => by
    obtain ⟨e2, q2⟩ := q2
    subst e2
    cases r2
    refine q2 σ G2 H2 _ ok2 (en.mono (s1.trans s2)) fun u d3 G3 H3 q3 ok3 s3 r3 => ?_
    obtain ⟨i, j, e3, hij, hn⟩ := q3
    subst e3
    cases r3
    subst e1
    obtain ⟨g1, o1, ho1, vs1, eo1, rl1⟩ := ok3.cs (Cell.own X.K p ds) (List.mem_append_right _ List.mem_cons_self)
    subst eo1
    refine ⟨p, vs1, i, j, rfl, rfl, ho1, by rw [← rl1.length]; exact hij, ?_⟩
    exact k.nx _ _ σ G3 _ hn (ok3.put (c := Cell.own X.K p ds) (c' := Cell.own X.K p (ds.set j d)) rfl rfl ⟨_, rfl, RepL.set ((r1.mono s2).mono s3) j rl1⟩) ((s1.trans s2).trans s3) (en.mono ((s1.trans s2).trans s3))
end

/-! ### defs that give an own list -/
abbrev SpecO := List D → (List D → Prop) → Prop
def spO (K : PySem.W.Frag) (spec : SpecO) : Sp := fun vs H Q _ =>
  ∃ (G : Hp) (ds : List D) (R : List D → Prop), SOk (ent G H [] []) [] G H ∧ RepL K G ds vs ∧ spec ds R ∧ ∀ p es G' H', R es → Same G G' → SOk (ent G H [] []) [Cell.own K p es] G' H' → Q (.ref p) H'
section
variable {P : Program} {w : World} {K : PySem.W.Frag} {mg : Str → Option Value} {base : Heap} {x qual : Str} {params : Arguments} {body : List Stmt} {scope : Scope} {dvs : List V} {kws : List (Str × V)} {f : Addr} {fd : FuncData}
theorem def_okO {nv : Nat} {N ps Gs : List Str} {k : Nat} {spec : SpecO} (F : FunD K x qual params body scope dvs kws f fd) (S : ScF nv N ps Gs scope) (len : ∀ ds R, spec ds R → ds.length = ps.length)
    (hb : ∀ (X : Cx) [XOk X ⟨P, w, K, mg, base, nv, N, Gs, k, none⟩] (sc : X.env.scope = scope) (G H : Hp) (ds : List D) (R : List D → Prop), spec ds R →
      BV X (ent G H [] []) [] (zipN N ds) body ⟨fun _ _ => False, fun ω d => ∃ p es, d = .s (.ref p) ∧ [Cell.own K p es].Sublist ω ∧ R es, fun _ _ => False, fun _ _ => False⟩) :
    FnOk P w K mg base CX0 (k + 1) f fd ps (spO K spec) := by
  have hpl : ps.length ≤ N.length := by have := congrArg List.length S.fs.pre; rw [List.length_take] at this; omega
  refine F.ok S.fs (fun vs H Q E h => ?_) (fun cdv A1 outer s H vs Q E hr h => ?_)
  · obtain ⟨G, ds, R, _, r, hs, _⟩ := h
    rw [← r.length]
    exact len ds R hs
  · obtain ⟨G, ds, R, ok, r, hs, k⟩ := h
    haveI := cx0_ok (P := P) (w := w) (K := K) (mg := mg) (base := base) (outer := outer) (H := H) (E := E) S hr
    refine ⟨_, PSs.nox (wSs_ps (X := cx0 P w K mg base N qual scope f cdv A1 outer s H E)), ?_⟩
    have hl := len ds R hs
    refine hb (cx0 P w K mg base N qual scope f cdv A1 outer s H E) rfl G H ds R hs _ G H _ ok (EnvR.start r (by rw [hl]; exact hpl)) ⟨fun ω δ σ G' H' p ok' s' _ => p.elim, fun ω d v G' H' q ok' s' r' => ?_, fun _ _ _ _ _ p => p.elim, fun _ _ _ _ _ p => p.elim⟩
    obtain ⟨p, es, rfl, hsub, hR⟩ := q
    cases r'
    exact k p es G' H' hR s' (ok'.drop hsub)
end
section
variable {X : Cx} {C : CtxI} [hx : XOk X C] {E : Ent} {ω : List Cell} {δ : DE} {e : Expr} {pos : Pos} {nx : List Cell → DE → Prop} {rt : List Cell → D → Prop} {bk ct : List Cell → DE → Prop}
/-- x = f(..), f gives an own list -/
theorem w_asgO (i j : Nat) {x y : Str} {k0 : Nat} {spec : SpecO} {es : List Expr} {p px cpos : Pos} (F : Kn C.P C.w C.K C.mg C.base CX0 y k0 (spO C.K spec)) (hk : Nat.ble k0 C.k = true) (hj : C.Gs[j]? = some y) (hf : C.is = none) (hv : Nat.blt i C.nv = true) (hi : C.N[i]? = some x)
    (h : EA X E ω δ (e :: es) fun ds => spec ds fun es => ∀ p, E.Fr p → nx (Cell.own X.K p es :: ω) (δ.set i (some (.s (.ref p)))))
    (he : starEach (e :: es) X.env = (false, eval e X.env) :: starEach es X.env := by rfl) (hpl : (backTo cpos (starEach es X.env)).any (·.1) = false := by rfl)
    (hs : swapsWith (.Call (.Name y p) (e :: es) [] cpos) (some (.Name x px)) pos.line X.env = pure false := by rfl) : SV X E ω δ (.Assign [.Name x px] (.Call (.Name y p) (e :: es) [] cpos) pos) ⟨nx, rt, bk, ct⟩ := by
  have F' : Kn X.prog X.w X.K X.mg X.base CX0 y k0 (spO X.K spec) := by rw [hx.prog, hx.w, hx.K, hx.mg, hx.base]; exact F
  obtain ⟨f, fd, ps, h1, h2, h3, h4⟩ := F'.ex
  refine sv_of (ps_set (hx.lo hf).nd (by rw [hx.N]; exact hi) ((hx.lo hf).loc i x hv (by rw [hx.N]; exact hi)) (pe_call (E := E0) h4 (hx.room.mono (Nat.le_of_ble_eq_true hk)) (hx.gl.g hj) h1 h2 h3 .nil pass0 wA_pa (hx.gl.gl j y hj).2 he hpl) hs (.inl (hx.fn hf x))) ?_
  intro σ G H D ok en k
  refine h σ G H _ ok en fun vs ds G1 H1 q ok1 s1 r1 => ?_
  rw [List.append_nil]
  refine ⟨G1, ds, _, ok1.enter (List.nil_sublist _) (.inl rfl), r1, q, fun p es G' H' hR s' k2 => ?_⟩
  have k3 := ok1.backO s' k2
  have hf0 : H1 p = none := (k2.cf _ List.mem_cons_self).none ent_pu
  exact k.nx _ _ _ G' H' (hR p (ok1.al p hf0)) k3 (s1.trans s') ((en.mono (s1.trans s')).set (.s _))
end
end DL

set_option Elab.async false
set_option linter.all false
set_option maxRecDepth 100000
set_option maxHeartbeats 2000000
/-! More expressions: slices of tuples, lists joined, bit_length, in; classes by their names. -/
namespace DL
open PySem L2 PyProof.Rows

section
variable {K : PySem.W.Frag} {x qual : Str} {params : Arguments} {body : List Stmt} {scope : Scope} {dvs : List V} {f : Addr} {fd : FuncData} {ps : List Str} {n : Nat} {kw : Str}
theorem bindsK (F : FunD K x qual params body scope [] [] f fd)
    (h : ∀ (kV doc pm : Value) (an : Option Addr) (cdv ct : Value) (us : List Value) (v : Value), us.length = n → bindArgs (PySem.W.fnOf x qual params body scope .none kV doc pm an cdv ct) ⟨us, [(kw, v)]⟩ = pure (ps.zip (us ++ [v]))) : KBn K fd ps n [kw] (fun us ws => us ++ ws) (fun vs zs => vs ++ zs) := by
  obtain ⟨oc, od, dV, kV, doc, pm, an, cdv, ct, osl, rfl, lk, hcd, hD, hK⟩ := F.ex
  rcases hD with ⟨_, rfl⟩ | ⟨e, _⟩
  · refine ⟨fun s us ws X l1 l2 => ?_, fun r1 r2 => r1.append r2⟩
    match ws, l2 with
    | [v], _ => exact .of_eq (h kV doc pm an cdv ct us v l1)
  · exact absurd rfl e
/-- all parameters written, defaults or not -/
theorem bindsD (F : FunD K x qual params body scope dvs [] f fd) (hd : dvs ≠ [])
    (h : ∀ (T : Addr) (kV doc pm : Value) (an : Option Addr) (cdv ct : Value) (us its : List Value), us.length = ps.length → its.length = dvs.length →
      ∃ k, bindArgs (PySem.W.fnOf x qual params body scope (.ref T) kV doc pm an cdv ct) ⟨us, []⟩ = seqItems? (.ref T) >>= k ∧ k (some its.toArray) = pure (ps.zip us)) : Binds K fd ps [] := by
  obtain ⟨ds, h1, h2⟩ := F.binds1 (ps := ps) ps.length dvs.length hd (by omega) fun T kV doc pm an cdv ct us its l1 l2 => by
    obtain ⟨k, e1, e2⟩ := h T kV doc pm an cdv ct us its l1 l2
    exact ⟨k, e1, by rw [List.drop_of_length_le (by omega), List.append_nil]; exact e2⟩
  rw [List.drop_of_length_le (Nat.le_refl _)] at h1
  cases h1
  exact h2
end

/-- a class of the module -/
structure CA (K : PySem.W.Frag) (mg : Str → Option Value) (x : Str) : Prop where
  g : mg x = some (.ref (He.ga K x))
  i : InsK K (He.ga K x)
  mkr : Mk K (He.ga K x) (He.ma K (He.ga K x) "__init__")
  no : ∀ t : String, t ∈ (["NoneType", "int", "str", "tuple", "list"] : List String) → PySem.W.kitOne K (.type t) (.ref (He.ga K x)) = some false
/-- an own error with an __init__ -/
structure EA1 (K : PySem.W.Frag) (mg : Str → Option Value) (x f : Str) : Prop where
  g : mg x = some (.ref (He.ga K x))
  ox : OexC K (He.ga K x)
  init : PySem.W.findIn K (.ref (He.ga K x)) "__init__" = some (some (.ref (He.ma K (He.ga K x) "__init__")))
  ty : PySem.W.typeIn K (.ref (He.ma K (He.ga K x) "__init__")) = some (.type "function")
  no : PySem.W.findIn K (.ref (He.ga K x)) f = some none
section
variable {X : Cx} {E : Ent} {ω : List Cell} {δ : DE} {R : D → Prop} {a b c e : Expr} {pos : Pos}
theorem cutD_to (xs : List D) (k : Nat) : cutD xs none (some (k : Int)) = xs.take k := by
  unfold cutD
  rw [HT.sIx_nat, HT.sIx_none, List.drop_zero, Nat.sub_zero]
  by_cases h : k ≤ xs.length
  · rw [Nat.min_eq_left h]
  · rw [Nat.min_eq_right (by omega), List.take_of_length_le (by omega), List.take_of_length_le (by omega)]
theorem cutD_len (xs : List D) (lo hi : Option Int) : (cutD xs lo hi).length ≤ xs.length := by
  unfold cutD
  rw [List.length_take, List.length_drop]
  omega
theorem cutD_mem {xs : List D} {lo hi : Option Int} {d : D} (h : d ∈ cutD xs lo hi) : d ∈ xs := List.mem_of_mem_drop (List.mem_of_mem_take h)
/-- a tuple's [:k], less than the whole -/
theorem ev_sliceTT {hi : Expr} {p2 : Pos} (h : EV X E ω δ a fun d => EV X E ω δ hi fun l => ∃ ds, ∃ k : Nat, d = .tup ds ∧ l = .int (k : Int) ∧ k < ds.length ∧ R (.tup (ds.take k))) : EV X E ω δ (.Subscript a (.Slice none (some hi) none p2) pos) R :=
  ev_of (pe_slice sl_tup wE_pe po_none (po_some wE_pe)) fun σ G H Q ok en k => h σ G H _ ok en fun v d G1 H1 q ok1 s1 r1 => q σ G1 H1 _ ok1 (en.mono s1) fun w d2 G2 H2 q2 ok2 s2 r2 => by
    obtain ⟨ds, m, e1, e2, hl, hr⟩ := q2
    subst e1 e2
    cases r2
    cases r1 with
    | tup hq rl =>
      have hq2 := sqT_mono ok2.gh (sqT_mono s2 hq)
      refine ⟨(m : Int), rfl, _, _, rfl, hq2, ?_, fun p hp => ?_⟩
      · rw [HT.sIx_nat, ← rl.length]
        intro z
        have := z.2
        omega
      · obtain ⟨ok3, s3⟩ := ok2.new (o := .tup _) hp (fun ps z => nomatch z)
        rw [← cutD_to] at hr
        exact k _ _ _ _ hr ok3 ((s1.trans s2).trans s3) (.tup (SqT.of upd_same) (((rl.mono s2).mono s3).cut _ _))
/-- a[:i] + b[j:] of lists -/
theorem ev_joinSl {hi lo : Expr} {p1 p2 p3 p4 : Pos} (h : EV X E ω δ a fun d => EV X E ω δ hi fun l => ∃ ds i, d = .lst ds ∧ l = .int i ∧ EV X E ω δ b fun d2 => EV X E ω δ lo fun l2 => ∃ es j, d2 = .lst es ∧ l2 = .int j ∧ ds.length + es.length ≤ 100000 ∧ R (.lst (cutD ds none (some i) ++ cutD es (some j) none))) :
    EV X E ω δ (.BinOp (.Subscript a (.Slice none (some hi) none p2) p1) .Add (.Subscript b (.Slice (some lo) none none p4) p3) pos) R :=
  ev_of (pe_op op_cat (pe_slice sl_list wE_pe po_none (po_some wE_pe)) (pe_slice sl_list wE_pe (po_some wE_pe) po_none)) fun σ G H Q ok en k => h σ G H _ ok en fun v d G1 H1 q ok1 s1 r1 => q σ G1 H1 _ ok1 (en.mono s1) fun w d2 G2 H2 q2 ok2 s2 r2 => by
    obtain ⟨ds, i, e1, e2, q2⟩ := q2
    subst e1 e2
    cases r2
    cases r1 with
    | @lst pa vs _ hq rl =>
      refine ⟨i, rfl, pa, vs, rfl, ok2.gh.seq (s2.seq hq), fun p hp => ?_⟩
      obtain ⟨ok3, s3⟩ := ok2.new (o := .lst (cutV vs none (some i))) hp (fun ps z => nomatch z)
      refine q2 σ _ _ _ ok3 (en.mono ((s1.trans s2).trans s3)) fun v4 d4 G4 H4 q4 ok4 s4 r4 => q4 σ G4 H4 _ ok4 (en.mono (((s1.trans s2).trans s3).trans s4)) fun v5 d5 G5 H5 q5 ok5 s5 r5 => ?_
      obtain ⟨es, j, e3, e4, hlen, hr⟩ := q5
      subst e3 e4
      cases r5
      cases r4 with
      | @lst pb ws _ hq4 rl4 =>
        refine ⟨j, rfl, pb, ws, rfl, ok5.gh.seq (s5.seq hq4), fun p2 hp2 => ?_⟩
        obtain ⟨ok6, s6⟩ := ok5.new (o := .lst (cutV ws (some j) none)) hp2 (fun ps z => nomatch z)
        have g1 : (upd G2 p (.lst (cutV vs none (some i)))) p = some (.lst (cutV vs none (some i))) := upd_same
        have st : Same (upd G2 p (.lst (cutV vs none (some i)))) (upd G5 p2 (.lst (cutV ws (some j) none))) := (s4.trans s5).trans s6
        refine ⟨p, p2, _, _, rfl, rfl, ok6.gh _ _ (st _ _ g1), upd_same, ?_, fun p3 hp3 => ?_⟩
        · have l1 := cutV_length vs none (some i)
          have l2 := cutV_length ws (some j) none
          rw [← rl.length] at l1
          rw [← rl4.length] at l2
          exact Nat.le_trans (by omega) (show 100000 ≤ sizeLine by decide)
        · obtain ⟨ok7, s7⟩ := ok6.new (o := .lst (cutV vs none (some i) ++ cutV ws (some j) none)) hp3 (fun ps z => nomatch z)
          have sA : Same G1 (upd (upd G5 p2 (.lst (cutV ws (some j) none))) p3 (.lst (cutV vs none (some i) ++ cutV ws (some j) none))) := ((s2.trans s3).trans st).trans s7
          exact k _ _ _ _ hr ok7 (s1.trans sA) (.lst (SqL.of upd_same) (((rl.mono sA).cut _ _).append ((rl4.mono ((s5.trans s6).trans s7)).cut _ _)))
/-- x.bit_length() -/
theorem ev_bits {apos : Pos} (h : EV X E ω δ a fun d => ∃ i : Int, d = .int i ∧ R (.int (Builtin.Int.intBits i : Nat))) (hbase : attributeBase a "bit_length" X.env (eval a X.env) = eval a X.env := by rfl) (hline : (apos.endLine == pos.line) = true := by rfl) : EV X E ω δ (.Call (.Attribute a "bit_length" apos) [] [] pos) R :=
  ev_of (pe_bits wE_pe hbase hline) fun σ G H Q ok en k => h σ G H _ ok en fun v d G1 H1 q ok1 s1 r1 => by
    obtain ⟨i, e1, hr⟩ := q
    subst e1
    cases r1
    exact ⟨i, rfl, k _ _ G1 H1 hr ok1 s1 (.s _)⟩
theorem inV_bools (b : Bool) (bs : List Bool) : inV (.bl b) (bs.map V.bl) = bs.contains b := by
  unfold inV
  induction bs with
  | nil => rfl
  | cons c r ih =>
    rw [List.map_cons, List.any_cons, ih, List.contains_cons]
    cases b <;> cases c <;> rfl
/-- b in a list of bools -/
theorem et_inB {R : Bool → Prop} (h : EV X E ω δ a fun d => EV X E ω δ b fun d2 => ∃ (x : Bool) (bs : List Bool), d = .bl x ∧ d2 = .lst (bs.map D.bl) ∧ R (bs.contains x)) (hm : behindInMarks .In b = false := by rfl) : ET X E ω δ (.Compare a [.In] [b] pos) R :=
  et_of (pt_cmpR op_in_seq wE_pe wE_pe hm) (rt_test fun σ G H Q ok en k => h σ G H _ ok en fun v d G1 H1 q ok1 s1 r1 => q σ G1 H1 _ ok1 (en.mono s1) fun w d2 G2 H2 q2 ok2 s2 r2 => by
    obtain ⟨x, bs, e1, e2, hr⟩ := q2
    subst e1 e2
    cases r1
    cases r2 with
    | lst hq rl =>
      have e := rl.bools
      subst e
      refine ⟨_, _, rfl, .inl (ok2.gh.seq hq), rfl, ?_, ?_⟩
      · rw [List.all_map]
        exact List.all_eq_true.mpr fun _ _ => rfl
      · rw [if_neg (by decide), inV_bools]
        exact k _ _ G2 H2 ⟨_, rfl, hr⟩ ok2 (s1.trans s2) (.s _))
end
/-! ### a, b = 1, 0 -/
theorem sw_fold {env : Env} {x y : Str} {px py pt pt2 : Pos} {kt k2 : Nat} {e1 e2 : Expr} (hk : env.scope.kind = .function) (hx : env.scope.names.lookup x = some .local) (hy : env.scope.names.lookup y = some .local) (hxy : (x == y) = false) (hl : (py.line == px.line) = true)
    (h1 : ([e1, e2].any fun | .Starred .. => true | _ => false) = false) (h3 : [e1, e2].all (foldedForSure 8) = true) :
    swappedStores [.Tuple [.Name x px, .Name y py] kt pt] (.Tuple [e1, e2] k2 pt2) env = pure none := by
  have kx : env.kindOf x = some .local := hx
  have ky : env.kindOf y = some .local := hy
  have kb : env.blockKind = .function := by unfold Env.blockKind; rw [hk]; rfl
  have hyx : (y == x) = false := beq_eq_false_iff_ne.mpr (Ne.symm (beq_eq_false_iff_ne.mp hxy))
  have hn : ([Expr.Name x px, Expr.Name y py].filterMap fun
    | .Name id pos => if env.kindOf id == some .local && pos.line == px.line then some id else none
    | _ => none) = [x, y] := by
    have hl' : py.line = px.line := by simpa using hl
    simp [List.filterMap_cons, kx, ky, hl']
  have hd : [x, y].eraseDups = [x, y] := by
    simp [List.eraseDups_cons, hyx]
  simp only [swappedStores]
  generalize hz : List.filterMap _ [Expr.Name x px, Expr.Name y py] = z
  have ez : z = [x, y] := hz.symm.trans hn
  subst ez
  rw [if_neg (by simp [kb])]
  refine (if_neg (fun z => absurd (h1.symm.trans z) (by decide))).trans ?_
  rw [if_neg (by rw [hd]; simp), if_pos h3]
section
variable {X : Cx} {C : CtxI} [hx : XOk X C] {E : Ent} {ω : List Cell} {δ : DE} {nx : List Cell → DE → Prop} {rt : List Cell → D → Prop} {bk ct : List Cell → DE → Prop} {a b : Expr} {pos : Pos}
theorem w_parC (i1 i2 : Nat) {x1 x2 : Str} {p1 p2 pt pt2 : Pos} {j k2 : Nat} (hf : C.is = none) (v1 : Nat.blt i1 C.nv = true) (v2 : Nat.blt i2 C.nv = true) (n1 : C.N[i1]? = some x1) (n2 : C.N[i2]? = some x2) (hij : i1 ≠ i2)
    (hl1 : X.env.scope.names.lookup x1 = some .local) (hl2 : X.env.scope.names.lookup x2 = some .local)
    (h : EV X E ω δ a fun d => EV X E ω δ b fun d2 => nx ω ((δ.set i1 (some d)).set i2 (some d2)))
    (hl : (p2.line == p1.line) = true) (h1 : ([a, b].any fun | .Starred .. => true | _ => false) = false) (h3 : [a, b].all (foldedForSure 8) = true)
    (hs : swapsWithSole [.Tuple [.Name x1 p1, .Name x2 p2] j pt] (.Tuple [a, b] k2 pt2) pos.line X.env = pure false := by rfl)
    (he : starEach [a, b] X.env = (false, eval a X.env) :: starEach [b] X.env := by rfl) (he2 : starEach [b] X.env = (false, eval b X.env) :: starEach [] X.env := by rfl) :
    SV X E ω δ (.Assign [.Tuple [.Name x1 p1, .Name x2 p2] j pt] (.Tuple [a, b] k2 pt2) pos) ⟨nx, rt, bk, ct⟩ := by
  have nd := (hx.lo hf).nd
  have hxi : X.N[i1]? = some x1 := by rw [hx.N]; exact n1
  have hxj : X.N[i2]? = some x2 := by rw [hx.N]; exact n2
  have hxy : (x1 == x2) = false := by
    rw [beq_eq_false_iff_ne]
    intro z
    subst z
    exact hij (nodup_ix nd hxi hxj)
  exact w_unpack2 i1 i2 hf v1 v2 n1 n2 (ev_tup (ea_cons (h.imp fun d q => ea_cons (q.imp fun d2 q2 => ea_nil ⟨Nat.le_of_ble_eq_true rfl, d, d2, rfl, q2⟩) he2) he)) hs (sw_fold (hx.kind hf) hl1 hl2 hxy hl h1 h3)
end
/-! ### comprehensions over one name -/
section
variable {X : Cx} {C : CtxI} [hx : XOk X C] {E : Ent} {ω : List Cell} {δ : DE} {R : D → Prop} {it elt test : Expr} {pos : Pos} {scope : Scope} {nx : List Cell → DE → Prop} {rt : List Cell → D → Prop} {bk ct : List Cell → DE → Prop}
theorem w_lcN (j : Nat) (vis : List Nat) (Gs : List Str) {x : Str} {px : Pos} (hf : C.is = none) (B : CpOk [(x, j)] [j] vis C.N Gs X.env.scope scope) (hj : C.N[j]? = some x)
    (h : IV X E ω δ (.Name x px) it fun ds => ∃ es : List D, ds.length ≤ 100000 ∧ es.length = ds.length ∧ (∀ (i : Nat) (d : D) (c : Cell), ds[i]? = some d → ∀ (Y : Cx) [XOk Y (C.blk Gs vis)], EV Y E (c :: ω) ((δ.set j none).set j (some d)) elt fun r => es[i]? = some r) ∧ R (.lst es))
    (hs : ∀ x, foldedSetIterable it X.env x = pure x := by intro _; rfl) : EV X E ω δ (.ListComp elt [⟨.Name x px, it, [], 0⟩] scope pos) R :=
  have nd : C.N.Nodup := by have := (hx.lo hf).nd; rw [hx.N] at this; exact this
  ev_lc B nd (tgb_name nd B hj) (h.imp fun ds q => let ⟨es, a, b, c, d⟩ := q; ⟨es, a, b, fun i e k hd => ⟨_, rfl, c i e k hd⟩, d⟩) hs
theorem w_svlcN (i j : Nat) (vis : List Nat) (Gs : List Str) {x y : Str} {px py spos : Pos} (hf : C.is = none) (hi : C.N[i]? = some y) (hyl : X.env.scope.names.lookup y = some .local) (hl : (py.line == pos.line) = true) (hfr : (scope.names.any fun (n, k) => n == y && (k == .local || k == .cell)) = false)
    (B : CpOk [(x, j)] [j] vis C.N Gs X.env.scope scope) (hj : C.N[j]? = some x)
    (h : IV X E ω δ (.Name x px) it fun ds => ∃ es : List D, ds.length ≤ 100000 ∧ es.length = ds.length ∧ (∀ (i : Nat) (d : D) (c : Cell), ds[i]? = some d → ∀ (Y : Cx) [XOk Y (C.blk Gs vis)], EV Y E (c :: ω) ((δ.set j none).set j (some d)) elt fun r => es[i]? = some r) ∧ nx ω (δ.set i (some (.lst es))))
    (hs : ∀ x, foldedSetIterable it X.env x = pure x := by intro _; rfl) : SV X E ω δ (.Assign [.Name y py] (.ListComp elt [⟨.Name x px, it, [], 0⟩] scope pos) spos) ⟨nx, rt, bk, ct⟩ :=
  have nd : C.N.Nodup := by have := (hx.lo hf).nd; rw [hx.N] at this; exact this
  sv_lc i hf hi hyl hl hfr B (tgb_name nd B hj) (h.imp fun ds q => let ⟨es, a, b, c, d⟩ := q; ⟨es, a, b, fun i e k hd => ⟨_, rfl, c i e k hd⟩, d⟩) hs
theorem w_svlcOwnN (i j : Nat) (vis : List Nat) (Gs : List Str) {x y : Str} {px py spos : Pos} (hf : C.is = none) (hi : C.N[i]? = some y) (hyl : X.env.scope.names.lookup y = some .local) (hl : (py.line == pos.line) = true) (hfr : (scope.names.any fun (n, k) => n == y && (k == .local || k == .cell)) = false)
    (B : CpOk [(x, j)] [j] vis C.N Gs X.env.scope scope) (hj : C.N[j]? = some x)
    (h : IV X E ω δ (.Name x px) it fun ds => ∃ es : List D, ds.length ≤ 100000 ∧ es.length = ds.length ∧ (∀ (i : Nat) (d : D) (c : Cell), ds[i]? = some d → ∀ (Y : Cx) [XOk Y (C.blk Gs vis)], EV Y E (c :: ω) ((δ.set j none).set j (some d)) elt fun r => es[i]? = some r) ∧ ∀ p, E.Fr p → nx (Cell.own X.K p es :: ω) (δ.set i (some (.s (.ref p)))))
    (hs : ∀ x, foldedSetIterable it X.env x = pure x := by intro _; rfl) : SV X E ω δ (.Assign [.Name y py] (.ListComp elt [⟨.Name x px, it, [], 0⟩] scope pos) spos) ⟨nx, rt, bk, ct⟩ :=
  have nd : C.N.Nodup := by have := (hx.lo hf).nd; rw [hx.N] at this; exact this
  sv_lcOwn i hf hi hyl hl hfr B (tgb_name nd B hj) (h.imp fun ds q => let ⟨es, a, b, c, d⟩ := q; ⟨es, a, b, fun i e k hd => ⟨_, rfl, c i e k hd⟩, d⟩) hs
end
/-! ### fields of the own instance -/
section
variable {X : Cx} {C : CtxI} [hx : XOk X C] {E : Ent} {ω : List Cell} {δ : DE} {e o : Expr} {pos : Pos} {nx : List Cell → DE → Prop} {rt : List Cell → D → Prop} {bk ct : List Cell → DE → Prop}
theorem w_setf {f : Str} {p' : Pos} {p A dx : Addr} {fs : List (Str × D)} {ω2 : List Cell} (cl : Cls C.K A) (na : NoAttr C.K A f) (hl : fs.length < 1000) (e1 : ω = Cell.inst C.K p A dx fs :: ω2)
    (h : EV X E ω δ e fun d => EV X E ω δ o fun x => x = .s (.ref p) ∧ nx (Cell.inst C.K p A dx (putD f d fs) :: ω2) δ)
    (hs : swapsWith e (some (.Attribute o f p')) pos.line X.env = pure false := by rfl) : SV X E ω δ (.Assign [.Attribute o f p'] e pos) ⟨nx, rt, bk, ct⟩ :=
  sv_fld (by rw [hx.K]; exact cl) (by rw [hx.K]; exact na) hl (by rw [hx.K]; exact e1) (by rw [hx.K]; exact h) hs
theorem w_setf2 {o2 : Expr} {f g : Str} {j : Nat} {p' p2 pt : Pos} {p A dx : Addr} {fs : List (Str × D)} {ω2 : List Cell} (cl : Cls C.K A) (na : NoAttr C.K A f) (nb : NoAttr C.K A g) (hl : fs.length < 998) (e1 : ω = Cell.inst C.K p A dx fs :: ω2)
    (h : EV X E ω δ e fun d => ∃ d1 d2, d = .tup [d1, d2] ∧ EV X E ω δ o fun x => x = .s (.ref p) ∧ EV X E (Cell.inst C.K p A dx (putD f d1 fs) :: ω2) δ o2 fun x2 => x2 = .s (.ref p) ∧ nx (Cell.inst C.K p A dx (putD g d2 (putD f d1 fs)) :: ω2) δ)
    (hl2 : ∀ d1 : D, (putD f d1 fs).length < 1000)
    (hs : swapsWithSole [.Tuple [.Attribute o f p', .Attribute o2 g p2] j pt] e pos.line X.env = pure false := by rfl) (hw : swappedStores [.Tuple [.Attribute o f p', .Attribute o2 g p2] j pt] e X.env = pure none := by rfl) :
    SV X E ω δ (.Assign [.Tuple [.Attribute o f p', .Attribute o2 g p2] j pt] e pos) ⟨nx, rt, bk, ct⟩ :=
  sv_fld2 hx.calm (by rw [hx.K]; exact cl) (by rw [hx.K]; exact na) (by rw [hx.K]; exact nb) hl (by rw [hx.K]; exact e1) (by rw [hx.K]; exact h) hl2 hs hw
/-- a field of the own instance, read -/
theorem w_own {f : Str} {p A dx : Addr} {fs : List (Str × D)} {ω2 : List Cell} {R : D → Prop} (cl : Cls C.K A) (na : NoAttr C.K A f) (e1 : ω = Cell.inst C.K p A dx fs :: ω2)
    (h : EV X E ω δ o fun x => x = .s (.ref p) ∧ ∃ d, fs.lookup f = some d ∧ R d) (hb : attributeBase o f X.env (eval o X.env) = eval o X.env := by rfl) : EV X E ω δ (.Attribute o f pos) R :=
  ev_of (pe_fld wE_pe hb) fun σ G H Q ok en k => h σ G H _ ok en fun v d G1 H1 q ok1 s1 r1 => by
    obtain ⟨ed, d0, hl, hr⟩ := q
    subst ed
    cases r1
    subst e1
    obtain ⟨g0, ob, ho, gs, eo, rf⟩ := ok1.cs _ List.mem_cons_self
    subst eo
    rw [← hx.K] at rf
    obtain ⟨v0, hv, r0⟩ := rf.lookup hl
    exact ⟨p, A, dx, gs, v0, rfl, ho, by rw [hx.K]; exact cl, by rw [hx.K]; exact na, hv, k _ _ G1 H1 hr ok1 s1 r0⟩
end
section
variable {X : Cx} {E : Ent} {ω : List Cell} {δ : DE} {R : D → Prop} {a b : Expr} {pos : Pos}
/-- tuples joined -/
theorem ev_catT (h : EV X E ω δ a fun x => EV X E ω δ b fun y => ∃ ds es, x = .tup ds ∧ y = .tup es ∧ ds ≠ [] ∧ es ≠ [] ∧ ds.length + es.length ≤ 100000 ∧ R (.tup (ds ++ es))) : EV X E ω δ (.BinOp a .Add b pos) R :=
  ev_of (pe_op op_catT wE_pe wE_pe) fun σ G H Q ok en k => h σ G H _ ok en fun v d G1 H1 q ok1 s1 r1 => q σ G1 H1 _ ok1 (en.mono s1) fun w d2 G2 H2 q2 ok2 s2 r2 => by
    obtain ⟨ds, es, e1, e2, hne, hne2, hl, hr⟩ := q2
    subst e1 e2
    cases r1 with
    | tup hq rl =>
      cases r2 with
      | tup hq2 rl2 =>
        refine ⟨_, _, _, _, rfl, rfl, sqT_mono ok2.gh (sqT_mono s2 hq), sqT_mono ok2.gh hq2, fun z => ?_, ?_, fun z => ?_, fun _ p hp => ?_⟩
        · have := rl.length
          rw [z] at this
          exact hne (List.length_eq_zero_iff.mp this)
        · rw [← rl.length, ← rl2.length]
          exact Nat.le_trans hl (by decide)
        · have := rl2.length
          rw [z] at this
          exact absurd (List.length_eq_zero_iff.mp this) hne2
        · obtain ⟨ok3, s3⟩ := ok2.new (o := .tup _) hp (fun ps z => nomatch z)
          exact k _ _ _ _ hr ok3 ((s1.trans s2).trans s3) (.tup (SqT.of upd_same) (((rl.mono s2).append rl2).mono s3))
end
end DL

set_option Elab.async false
set_option linter.all false
set_option maxRecDepth 100000
set_option maxHeartbeats 2000000
/-! Defs that may raise and give an own list. -/
namespace DL
open PySem L2 PyProof.Rows
abbrev SpecXO := List D → (List D → Prop) → RxT → Prop
def spXO (K : PySem.W.Frag) (spec : SpecXO) : Sp := fun vs H Q E =>
  ∃ (G : Hp) (ds : List D) (R : List D → Prop) (Rx : RxT), SOk (ent G H [] []) [] G H ∧ RepL K G ds vs ∧ spec ds R Rx ∧ (∀ p es G' H', R es → Same G G' → SOk (ent G H [] []) [Cell.own K p es] G' H' → Q (.ref p) H') ∧ ∀ cls d σ H', WXd H Rx cls d σ H' → E cls d H'
section
variable {P : Program} {w : World} {K : PySem.W.Frag} {mg : Str → Option Value} {base : Heap} {x qual : Str} {params : Arguments} {body : List Stmt} {scope : Scope} {dvs : List V} {kws : List (Str × V)} {f : Addr} {fd : FuncData}
theorem def_okXO {nv : Nat} {N ps Gs : List Str} {k : Nat} {spec : SpecXO} (F : FunD K x qual params body scope dvs kws f fd) (S : ScF nv N ps Gs scope) (len : ∀ ds R Rx, spec ds R Rx → ds.length = ps.length)
    (hb : ∀ (X : Cx) [XOk X ⟨P, w, K, mg, base, nv, N, Gs, k, none⟩] (sc : X.env.scope = scope) (G H : Hp) (ds : List D) (R : List D → Prop) (Rx : RxT) (tk : Takes X (WXd H Rx)), spec ds R Rx →
      BV X (ent G H [] []) [] (zipN N ds) body ⟨fun _ _ => False, fun ω d => ∃ p es, d = .s (.ref p) ∧ [Cell.own K p es].Sublist ω ∧ R es, fun _ _ => False, fun _ _ => False⟩) :
    FnOk P w K mg base (L2.CX P w) (k + 1) f fd ps (spXO K spec) := by
  have hpl : ps.length ≤ N.length := by have := congrArg List.length S.fs.pre; rw [List.length_take] at this; omega
  refine F.ok S.fs (fun vs H Q E h => ?_) (fun cdv A outer s H vs Q E hr h => ?_)
  · obtain ⟨G, ds, R, Rx, _, r, hs, _⟩ := h
    rw [← r.length]
    exact len ds R Rx hs
  · obtain ⟨G, ds, R, Rx, ok, r, hs, k, kx⟩ := h
    haveI := cxX_ok (P := P) (w := w) (K := K) (mg := mg) (base := base) (outer := outer) (H := H) (E := E) S hr
    refine ⟨_, wSs_ps (X := cxOf (L2.CX P w) P w K mg base N qual scope f cdv A outer s H E), ?_⟩
    have hl := len ds R Rx hs
    have tk : Takes (cxOf (L2.CX P w) P w K mg base N qual scope f cdv A outer s H E) (WXd H Rx) := (takes_of (X := cxOf (L2.CX P w) P w K mg base N qual scope f cdv A outer s H E) rfl rfl rfl rfl).imp fun cls d σ H' z => kx cls d σ H' z
    refine hb (cxOf (L2.CX P w) P w K mg base N qual scope f cdv A outer s H E) rfl G H ds R Rx tk hs _ G H _ ok (EnvR.start r (by rw [hl]; exact hpl)) ⟨fun ω δ σ G' H' p ok' s' _ => p.elim, fun ω d v G' H' q ok' s' r' => ?_, fun _ _ _ _ _ p => p.elim, fun _ _ _ _ _ p => p.elim⟩
    obtain ⟨p, es, rfl, hsub, hR⟩ := q
    cases r'
    exact k p es G' H' hR s' (ok'.drop hsub)
end
section
variable {X : Cx} {C : CtxI} [hx : XOk X C] {E : Ent} {ω : List Cell} {δ : DE} {R : D → Prop} {it elt : Expr} {es : List Expr} {kk : Nat} {pos px : Pos} {scope : Scope}
/-- [.. for a, b in ..] -/
theorem w_lcT (own : List (Str × Nat)) (js vis : List Nat) (Gs : List Str) (hf : C.is = none) (B : CpOk own js vis C.N Gs X.env.scope scope) (hn : NamesAt 100000 C.N es js) (hlen : es.length = js.length) (hal : ∀ env, (assignEach es env).length = es.length) (hst : ∀ env, (assignEach es env).findIdx? (·.1) = none)
    (h : IV X E ω δ (.Tuple es kk px) it fun ds => ∃ rs : List D, ds.length ≤ 100000 ∧ rs.length = ds.length ∧ (∀ (i : Nat) (d : D) (c : Cell), ds[i]? = some d → ∃ ts, d = .tup ts ∧ ts.length = js.length ∧ ∀ (Y : Cx) [XOk Y (C.blk Gs vis)], EV Y E (c :: ω) (setAll (wipeD δ (own.map (·.2))) js ts) elt fun r => rs[i]? = some r) ∧ R (.lst rs))
    (hs : ∀ x, foldedSetIterable it X.env x = pure x := by intro _; rfl) : EV X E ω δ (.ListComp elt [⟨.Tuple es kk px, it, [], 0⟩] scope pos) R :=
  have nd : C.N.Nodup := by have := (hx.lo hf).nd; rw [hx.N] at this; exact this
  ev_lc B nd (tgb_tup nd B hn hlen hal hst) (h.imp fun ds q => let ⟨rs, a, b, c, d⟩ := q; ⟨rs, a, b, fun i e k hd => let ⟨ts, e1, e2, e3⟩ := c i e k hd; ⟨_, ⟨ts, e1, e2, rfl⟩, e3⟩, d⟩) hs
end
end DL

set_option Elab.async false
set_option linter.all false
set_option maxRecDepth 100000
set_option maxHeartbeats 2000000
/-! A lambda handed to a def that calls it and tells how it ended. -/
namespace DL
open PySem L2 PyProof.Rows
section
variable {E : Ent} {ω : List Cell} {G H H1 : Hp}
theorem SOk.extN (k : SOk E ω G H) (hT : E.T ≠ []) (e : LamX.ExtN H H1) (t : LamX.Tabs E.T H1) : SOk E ω G H1 := by
  refine ⟨fun p o h => e p o (k.gh p o h) (fun ps z => k.nt p ps (by rw [z] at h; exact h)), k.nt, k.nd, fun c hc => ?_, k.cf, t, k.tm, k.fr, fun p o hm hn h0 => e p o (k.kp p o hm hn h0) (hn hT), fun p h1 => ?_⟩
  · obtain ⟨g, o, h, q⟩ := k.cs c hc
    exact ⟨g, o, e _ _ h (Cell.ntbl q), q⟩
  · cases hp : H p with
    | none => exact k.al p hp
    | some o =>
      by_cases ht : ∃ ps, o = .tbl ps
      · obtain ⟨ps, rfl⟩ := ht
        by_cases hm : E.M0 p
        · exact .inl hm
        · cases h0 : E.H0 p with
          | none => exact .inr (.inl h0)
          | some o0 =>
            by_cases ht0 : ∃ ps, o0 = .tbl ps
            · obtain ⟨ps0, rfl⟩ := ht0
              exact .inr (.inr ⟨hT, ps0, h0⟩)
            · have := k.kp p o0 hm (fun _ ps z => ht0 ⟨ps, z⟩) h0
              rw [hp] at this
              cases this
              exact absurd ⟨ps, rfl⟩ ht0
      · have := e p o hp (fun ps z => ht ⟨ps, z⟩)
        rw [h1] at this
        cases this
theorem SOk.sameH (k : SOk E ω G H) (s : Same H H1) : SOk E ω G H1 :=
  ⟨fun p o h => s _ _ (k.gh p o h), k.nt, k.nd, fun c hc => let ⟨g, o, h, q⟩ := k.cs c hc; ⟨g, o, s _ _ h, q⟩, k.cf, k.tb.ext s, k.tm, k.fr, fun p o hm hn h0 => s _ _ (k.kp p o hm hn h0), fun p h1 => k.al p (s.free h1)⟩
theorem SOk.anew (k : SOk E ω G H) : SOk (ent G H [] []) [] G H := k.enter (List.nil_sublist _) (.inl rfl)
end
/-- an expression that may give own things -/
def EVO (X : Cx) (E : Ent) (ω : List Cell) (δ : DE) (e : Expr) (R : List Cell → D → Prop) : Prop :=
  ∀ (σ : L2.St) (G H : Hp) (Q : VK), SOk E ω G H → EnvR X.K G δ σ → (∀ v ω' d G' H', R ω' d → SOk E (ω' ++ ω) G' H' → Same G G' → Rep X.K G' d v → Q v H') → wE X e σ H Q
section
variable {X : Cx} {E : Ent} {ω : List Cell} {δ : DE} {e : Expr}
theorem ev_evo {R : List Cell → D → Prop} (h : EV X E ω δ e fun d => R [] d) : EVO X E ω δ e R := fun σ G H Q ok en k => h σ G H Q ok en fun v d G' H' r ok' s r' => k v [] d G' H' r ok' s r'
/-- the list of a row ("told", list) is known from now on -/
theorem evo_ev {R : D → Prop} (h : EVO X E ω δ e fun ω' d => (ω' = [] ∧ R d) ∨ ∃ p es, ω' = [Cell.own X.K p es] ∧ d = .tup [.str "told", .s (.ref p)] ∧ R (.tup [.str "told", .lst es])) : EV X E ω δ e R := fun σ G H Q ok en k => h σ G H Q ok en fun v ω' d G' H' r ok' s r' => by
  rcases r with ⟨rfl, r⟩ | ⟨p, es, rfl, rfl, r⟩
  · exact k v d G' H' r ok' s r'
  · have hf : E.Fr p := ok'.cf (Cell.own X.K p es) List.mem_cons_self
    obtain ⟨o, G2, ho, hP, hg, s2, ok2⟩ := ok'.freeze (ω1 := []) (ω2 := ω) rfl hf
    obtain ⟨vs, eo, rv⟩ := hP
    subst eo
    refine k v _ G2 H' r ok2 (s.trans s2) ?_
    cases r' with
    | tup hq rl =>
      cases rl with
      | cons r1 rl =>
        cases rl with
        | cons r2 rl =>
          cases rl
          cases r1
          cases r2
          exact .tup (sqT_mono s2 hq) (.cons (.s _) (.cons (.lst (SqL.of hg) (rv.mono s2)) .nil))
theorem w_asgE {C : CtxI} [hx : XOk X C] {nx : List Cell → DE → Prop} {rt : List Cell → D → Prop} {bk ct : List Cell → DE → Prop} {pos : Pos} (i : Nat) {x : Str} {pos' : Pos} (hf : C.is = none) (hv : Nat.blt i C.nv = true) (hi : C.N[i]? = some x) (h : EVO X E ω δ e fun ω' d => nx (ω' ++ ω) (δ.set i (some d)))
    (hs : swapsWith e (some (.Name x pos')) pos.line X.env = pure false := by rfl) : SV X E ω δ (.Assign [.Name x pos'] e pos) ⟨nx, rt, bk, ct⟩ :=
  sv_of (ps_set (hx.lo hf).nd (by rw [hx.N]; exact hi) ((hx.lo hf).loc i x hv (by rw [hx.N]; exact hi)) wE_pe hs (.inl (hx.fn hf x))) fun σ G H D ok en k => h σ G H _ ok en fun v ω' d G1 H1 q ok1 s1 r1 => k.nx _ _ _ G1 H1 q ok1 s1 ((en.mono s1).set r1)
/-- a def that may raise and gives an own list, called -/
theorem evo_callXO {C : CtxI} [hx : XOk X C] (j : Nat) {a : Expr} {R : List Cell → D → Prop} {x : Str} {k0 : Nat} {spec : SpecXO} {es : List Expr} {p pos : Pos} {Rx : RxT} (F : Kn C.P C.w C.K C.mg C.base (L2.CX C.P C.w) x k0 (spXO C.K spec)) (hk : Nat.ble k0 C.k = true) (hj : C.Gs[j]? = some x) (tk : Takes X (WXd E.H0 Rx)) (hM : E.Pu)
    (h : EA X E ω δ (a :: es) fun ds => spec ds (fun es => ∀ p, R [Cell.own X.K p es] (.s (.ref p))) Rx)
    (he : starEach (a :: es) X.env = (false, eval a X.env) :: starEach es X.env := by rfl) (hpl : (backTo pos (starEach es X.env)).any (·.1) = false := by rfl) : EVO X E ω δ (.Call (.Name x p) (a :: es) [] pos) R := by
  have F' : Kn X.prog X.w X.K X.mg X.base (L2.CX X.prog X.w) x k0 (spXO X.K spec) := by rw [hx.prog, hx.w, hx.K, hx.mg, hx.base]; exact F
  obtain ⟨f, fd, ps, h1, h2, h3, h4⟩ := F'.ex
  have P := pe_call (E := fun cls d H => WXd E.H0 Rx cls d [] H) h4 (hx.room.mono (Nat.le_of_ble_eq_true hk)) (hx.gl.g hj) h1 h2 h3 .nil (passes_call tk fun cls d σ H z => z) (wA_pa (X := X) (es := a :: es)) (hx.gl.gl j x hj).2 he hpl (p := p)
  intro σ G H Q ok en k pins s I
  refine P.run pins s σ H Q I ?_
  refine h σ G H _ ok en fun vs ds G1 H1 q ok1 s1 r1 => ?_
  rw [List.append_nil]
  have s0 : Same E.H0 H1 := ok1.same hM
  exact ⟨G1, ds, _, Rx, ok1.anew, r1, q, fun p es G2 H2 hr s2 k2 => k (.ref p) _ _ G2 H2 (hr p) (ok1.backO s2 k2) (s1.trans s2) (.s _),
    fun cls d σ' H' ⟨A, fs, dx, e1, e2, hr, s2, hd, hd2⟩ => ⟨A, fs, dx, e1, e2, hr, s0.trans s2, s0.free hd, hd2⟩⟩
end
/-! ### the lambda -/
/-- what the maker of a lambda tells: its code object and table -/
structure LamK (X : Cx) (T : List (Addr × Str)) (c P : Addr) : Prop where
  tb : LamX.TabB X.base X.mg c P
  code : X.env.code = .ref c
  mem : (P, X.env.qual ++ "<lambda>") ∈ T
  uq : ∀ p ∈ T, p.1 = P → p.2 = X.env.qual ++ "<lambda>"
/-- how the answer ends where the lambda raised -/
def EchA (K : PySem.W.Frag) (An : Addr → List (Str × V) → D → Prop) (CS : Addr) (Q : VK) : XK := fun cls d H => ∃ (Cc : Addr) (fs : List (Str × V)) (dx : Addr) (ans : D) (G : Hp), cls = .ref Cc ∧ d = some dx ∧ H dx = some (.xd fs) ∧ PySem.W.exmOne K cls (.ref CS) = some true ∧ An Cc fs ans ∧ SOk (ent G H [] []) [] G H ∧
  ∀ v G' H', SOk (ent G H [] []) [] G' H' → Same G G' → Rep K G' ans v → Q v H'
def TTans (K : PySem.W.Frag) (An : Addr → List (Str × V) → D → Prop) (CS : Addr) : (XK → Hp → VK → Prop) → Hp → VK → Prop := fun tl H Q => tl (EchA K An CS Q) H (fun v H' => [V.str "told", v].length ≤ sizeLine ∧ ∀ p, H' p = none → Q (.ref p) (upd H' p (.tup [.str "told", v])))
section
variable {X : Cx} {E : Ent} {ω : List Cell} {δ : DE} {C : CtxI} [hx : XOk X C]
omit hx in
theorem lam_ok {vis : List Nat} {Gs : List Str} {scope : Scope} {k : Nat} (hx : XOk X C) (B : ScB vis C.N Gs scope) {A : Around} {outer : List Env} {s0 : Shared} {H0 : Hp} {Ex : XK} {f c' : Addr} (hr : Room k (A.deeper (LamX.lamEnv X scope s0.heap.objs.size f c'))) :
    XOk (LamX.lamCx X A outer s0 H0 Ex scope f c') ⟨C.P, C.w, C.K, C.mg, C.base, C.nv, C.N, Gs, k, some vis⟩ where
  prog := hx.prog
  w := hx.w
  K := hx.K
  mg := hx.mg
  base := hx.base
  N := hx.N
  calm := rfl
  nm := fun i x h hv => B.nm.vis i x (by simpa [CtxI.vis] using hv) h
  gl := B.gl
  room := hr
  lo := fun h => nomatch h
  fn := fun h => nomatch h
  kind := fun h => nomatch h
  ps := passes_of rfl
theorem evo_lam (jg : Nat) {An : Addr → List (Str × V) → D → Prop} {CS : Addr} {Rl : List Cell → D → Prop} {Rx : RxT} {R : List Cell → D → Prop} {vis : List Nat} {Gs : List Str} {x a : Str} {g c P : Addr} {k : Nat} {pg : Arguments} {bg : List Stmt} {sg : Scope} {fd : FuncData} {Ng : List Str}
    {params : Arguments} {body : Expr} {scope : Scope} {p lpos pos : Pos}
    (F : FunD C.K x x pg bg sg [] [] g fd) (hm : C.mg x = some (.ref g)) (hj : C.Gs[jg]? = some x) (hb : L2.Binds C.K fd [a] []) (Sg : FnScope Ng [a] sg) (hNg : Ng[0]? = some a) (hva : Vis sg a)
    (hG : ∀ cdv, LamX.GivesTo X Ng x sg g cdv bg a (X.env.qual ++ "<lambda>") (TTans C.K An CS))
    (L : LamK X E.T c P) (hk : Nat.ble (k + 2) C.k = true) (hL : LamX.LamS X.env.scope scope) (hdef : defaultsOf params X.env = ([], []))
    (hbind : ∀ (q : Str) (cl : List (Str × Addr)) (pm cv ctv : Value), bindArgs (PySem.W.kla_fn "<lambda>" q params body scope cl pm cv ctv) ⟨[], []⟩ = pure [])
    (B : ScB vis C.N Gs scope)
    (hbody : ∀ (Y : Cx) [XOk Y ⟨C.P, C.w, C.K, C.mg, C.base, C.nv, C.N, Gs, k, some vis⟩] (G H : Hp), Takes Y (WXd H Rx) → EVO Y (ent G H [] []) [] δ body Rl)
    (hl : ∀ ω' d, Rl ω' d → (ω' = [] ∨ ∃ c, ω' = [c]) ∧ R ω' (.tup [.str "told", d]))
    (hRx : ∀ Cc fs, Rx Cc fs → ∃ ans, An Cc fs ans ∧ PySem.W.exmOne C.K (.ref Cc) (.ref CS) = some true ∧ R [] ans)
    (hdb : (x == ("__debug__" : Str)) = false := by decide) (hd : (a == ("__debug__" : Str)) = false := by decide) (hcd : (a == ("__classdict__" : Str)) = false := by decide) :
    EVO X E ω δ (.Call (.Name x p) [.Lambda params body scope lpos] [] pos) R := by
  have hT : E.T ≠ [] := List.ne_nil_of_mem L.mem
  obtain ⟨oc, od, dV, kV, doc, pm, an, cdv, ct, osl, rfl, lk, hcd', _, _⟩ := F.ex
  have PL := LamX.pe_lamcall (X := X) (T := E.T) (k := k) (TT := TTans C.K An CS) (p := p) (lpos := lpos) (pos := pos) (params := params) (body := body) (scope := scope)
    (t := fun Ex σ H' Q' => ∀ (A : Around) (outer : List Env) (s0 : Shared) (H0 : Hp) (f c' : Addr), Room k (A.deeper (LamX.lamEnv X scope s0.heap.objs.size f c')) → wE (LamX.lamCx X A outer s0 H0 Ex scope f c') body σ H' Q')
    (hx.gl.g hj) (by rw [hx.mg]; exact hm) (by rw [hx.K]; exact F.kp) (by rw [hx.K]; exact lk) (by rw [hx.K]; exact hcd') (by rw [hx.K]; exact hb) Sg hNg hva (hG cdv) L.tb L.code L.mem L.uq (hx.room.mono (Nat.le_of_ble_eq_true hk)) hL hdef hbind
    (fun A outer s H Ex f c' hr => ⟨fun pins s' σ' H' Q' I h => h A outer s H f c' hr pins s' I⟩) hdb hd hcd
  intro σ G H Q ok en kk pins s I
  refine PL.run pins s σ H Q I ⟨ok.tb, fun H1 eN T1 => ?_⟩
  have ok1 := ok.extN hT eN T1
  intro A outer s0 H0 f c' hr
  haveI := lam_ok (Ex := EchA C.K An CS Q) (outer := outer) (s0 := s0) (H0 := H0) (f := f) (c' := c') hx B hr
  have tk : Takes (LamX.lamCx X A outer s0 H0 (EchA C.K An CS Q) scope f c') (WXd H1 Rx) :=
    (takes_of (X := LamX.lamCx X A outer s0 H0 (EchA C.K An CS Q) scope f c') rfl rfl rfl rfl).imp fun cls d σ' H' ⟨Cc, fs, dx, e1, e2, hR, sm, hd0, hd1⟩ => by
      obtain ⟨ans, hA, hex, hRa⟩ := hRx Cc fs hR
      refine ⟨Cc, fs, dx, ans, G, e1, e2, hd1, by rw [e1]; exact hex, hA, (ok1.sameH sm).anew, fun v G' H' ok2 s2 r2 => ?_⟩
      exact kk v [] ans G' H' hRa ((ok1.sameH sm).back (List.nil_sublist _) (.inl rfl) s2 ok2) s2 (by rw [hx.K]; exact r2)
  refine hbody _ G H1 tk σ G H1 _ ok1.anew (by rw [show (LamX.lamCx X A outer s0 H0 (EchA C.K An CS Q) scope f c').K = X.K from rfl]; exact en) fun v ω' d G' H' hRl ok' s' r' => ?_
  rw [List.append_nil] at ok'
  refine ⟨by show 2 ≤ sizeLine; decide, fun q hq => ?_⟩
  obtain ⟨hc, hR⟩ := hl ω' d hRl
  have ok2 : SOk E (ω' ++ ω) G' H' := by
    rcases hc with rfl | ⟨c0, rfl⟩
    · exact ok1.back (List.nil_sublist _) (.inl rfl) s' ok'
    · exact ok1.backO s' ok'
  obtain ⟨ok3, s3⟩ := ok2.new (o := .tup [.str "told", v]) hq (fun ps z => nomatch z)
  have r2 : Rep X.K G' d v := r'
  exact kk (.ref q) ω' _ _ _ hR ok3 (s'.trans s3) (.tup (SqT.of upd_same) (.cons (.s _) (.cons (r2.mono s3) .nil)))
end
end DL

set_option Elab.async false
set_option linter.all false
set_option maxRecDepth 100000
set_option maxHeartbeats 2000000
/-! The suite behind except: isinstance(e, C), e.f. -/
namespace DL
open PySem L2 PyProof.Rows
def rIsE2 (K : PySem.W.Frag) (D a dx : Addr) : List V → Hp → VK → Prop := fun xs H Q => ∃ (c : V) (cv : Value) (b : Bool) (fs : List (Str × V)), xs = [.ref a, c] ∧ H dx = some (.xd fs) ∧ (∀ u, RelV c u → u = cv) ∧ PySem.W.kitOne K (.ref D) cv = some b ∧ Q (.bl b) H
theorem call_isE2 {X : Cx} {a D dx : Addr} {oe : Obj} {pn : List (Addr × Obj)} (C : ExcC X.K D) (hz : Zc (.ref D) (some dx) oe) (hf : ∃ vs, oe.data = .fields vs) : CallR (X.suite a ((a, oe) :: pn)) (.builtin "isinstance") (rIsE2 X.K D a dx) := by
  intro pins s σ H xs us Q I r h
  obtain ⟨c, cv, b, fs, rfl, hd, hcv, e, q⟩ := h
  cases r with
  | cons rx rr =>
    cases rr with
    | cons rt rr =>
      cases rr
      cases rx
      have ec := hcv _ rt
      subst ec
      obtain ⟨hget, _⟩ := I.pin (a, oe) (List.mem_append.mpr (.inl List.mem_cons_self))
      obtain ⟨vs, hv⟩ := hf
      have hx : ObjOk X.prog X.w H s.heap dx (.xd fs) := I.hok dx _ hd
      obtain ⟨mA, hns, hr⟩ := hx
      obtain ⟨od, ho, hl⟩ := lookIn_ns hns
      have J : PySem.W.InstAt s.heap a oe D (some od) := ⟨hget, hz.1, by unfold PySem.W.notCls; rw [hv] <;> rfl, by rw [hz.2]; exact ho⟩
      have hcl : (PySem.W.clsIn X.K D).isSome = true := by obtain ⟨cd, hc, _⟩ := PySem.W.any_some C.hd; rw [hc]; rfl
      exact PySem.W.kia_one (PySem.W.kitx_exc hcl C.hg C.hk C.hs C.ha C.hn C.ht C.hm) I.kIn J e (fun z => nomatch z) fun tk => ⟨.bl b, H, I.kept (t' := tk) fun _ _ z => z, rfl, q⟩
section
variable {X : Cx} {a dx : Addr} {oe : Obj} {pn : List (Addr × Obj)} {E : Ent} {ω : List Cell} {δ : DE} {R : D → Prop}
theorem ev_isE {Dc : Addr} {nv i j : Nat} {Gs : List Str} {fs : List (Str × V)} {x : Str} {ce : Expr} {p p1 pos : Pos} (T : ExcC X.K Dc) (hz : Zc (.ref Dc) (some dx) oe) (hf : ∃ vs, oe.data = .fields vs) (hM : E.Pu) (h0 : E.H0 dx = some (.xd fs))
    (g : GlobOk Gs X.env.scope) (hj : Gs[j]? = some "isinstance") (hm : X.mg "isinstance" = none) (nm : NamesOk nv X.N X.env.scope) (hv : Nat.blt i nv = true) (hi : X.N[i]? = some x) (hδ : δ[i]? = some (some (.s (.ref a))))
    (hc : EV (X.suite a ((a, oe) :: pn)) E ω δ ce fun d => ∃ (c : V) (cv : Value) (b : Bool), d = .s c ∧ (∀ u, RelV c u → u = cv) ∧ PySem.W.kitOne X.K (.ref Dc) cv = some b ∧ R (.bl b))
    (he : starEach [.Name x p1, ce] X.env = (false, eval (.Name x p1) X.env) :: starEach [ce] X.env := by rfl) (he2 : starEach [ce] X.env = (false, eval ce X.env) :: starEach [] X.env := by rfl) (hpl : (backTo pos (starEach [ce] X.env)).any (·.1) = false := by rfl) :
    EV (X.suite a ((a, oe) :: pn)) E ω δ (.Call (.Name "isinstance" p) [.Name x p1, ce] [] pos) R := by
  refine ev_callB (X := X.suite a ((a, oe) :: pn)) g hj (call_isE2 T hz hf) hm PyProof.Rows.boot_isinstance nn_isinstance (ea_cons (ev_name nm hv hi hδ ?_) he) he hpl
  refine ea_cons (hc.imp fun d q => ea_nil fun vs G H Q ok r k => ?_) he2
  obtain ⟨c, cv, b, rfl, h1, h2, hr⟩ := q
  cases r with
  | cons r1 r =>
    cases r with
    | cons r2 r =>
      cases r
      cases r1
      cases r2
      exact ⟨c, cv, b, fs, rfl, ok.same hM _ _ h0, h1, h2, k _ _ G H hr ok (Same.refl G) (.s _)⟩
theorem ev_xf {Dc : Addr} {fs : List (Str × V)} {f : Str} {v : V} {e : Expr} {pos : Pos} (T : XfC X.K Dc) (hno : PySem.W.findIn X.K (.ref Dc) f = some none) (hz : Zc (.ref Dc) (some dx) oe) (hf : ∃ vs, oe.data = .fields vs) (hM : E.Pu) (h0 : E.H0 dx = some (.xd fs)) (hl : fs.lookup f = some v)
    (h : EV (X.suite a ((a, oe) :: pn)) E ω δ e fun d => d = .s (.ref a) ∧ R (.s v)) (hb : attributeBase e f X.env (eval e X.env) = eval e X.env := by rfl) : EV (X.suite a ((a, oe) :: pn)) E ω δ (.Attribute e f pos) R :=
  ev_of (pe_xf T hno hz hf wE_pe hb) fun σ G H Q ok en k => h σ G H _ ok en fun w d G1 H1 q ok1 s1 r1 => by
    obtain ⟨rfl, hr⟩ := q
    cases r1
    exact ⟨rfl, rfl, dx, fs, v, rfl, ok1.same hM _ _ h0, hl, k _ _ G1 H1 hr ok1 s1 (.s _)⟩
end
section
variable {X : Cx} {E : Ent} {ω : List Cell} {δ : DE} {Φ : Outs} {pos : Pos}
theorem sv_newL {nv : Nat} {i : Nat} {x : Str} {pos' lp : Pos} {es : List Expr} (lo : LocOk nv X.N X.env.scope) (hv : Nat.blt i nv = true) (hi : X.N[i]? = some x)
    (h : EA X E ω δ es fun ds => ds.length ≤ 100000 ∧ ∀ p, E.Fr p → Φ.nx (Cell.own X.K p ds :: ω) (δ.set i (some (.s (.ref p)))))
    (hs : swapsWith (.List es lp) (some (.Name x pos')) pos.line X.env = pure false := by rfl) (hf : X.fn x = true ∨ X.env.scope.names.lookup x = some .local := by exact .inl rfl) : SV X E ω δ (.Assign [.Name x pos'] (.List es lp) pos) Φ :=
  sv_of (ps_set lo.nd hi (lo.loc i x hv hi) (pe_lst wA_pa) hs hf) fun σ G H D ok en k =>
    h σ G H _ ok en fun vs ds G1 H1 q ok1 s1 r1 => by
      refine ⟨by rw [← r1.length]; exact Nat.le_trans q.1 (by decide), fun p hp => ?_⟩
      have ok2 := ok1.cell (c := Cell.own X.K p ds) (o := .lst vs) hp ⟨vs, rfl, r1⟩
      exact k.nx _ _ _ G1 _ (q.2 p (ok1.al p hp)) ok2 s1 ((en.mono s1).set (.s _))
end
end DL

set_option Elab.async false
set_option linter.all false
set_option maxRecDepth 100000
set_option maxHeartbeats 2000000
/-! sorted(xs, key=lambda x: x[0] * (y // x[1])), y captured. -/
namespace DL
open PySem L2 PyProof.Rows PySem.Calls
def kpos (n d S : Int) : Int := n * (S / d)
theorem key_turn {prog : Program} {w : World} {A : Around} {s : Shared} {f c' cS pv : Addr} {q x y : Str} {params : Arguments} {scope : Scope} {cl : List (Str × Addr)} {pm ctv : Value} {S n d : Int} {tS t1 t2 : Tok} {p1 p2 p3 p4 p5 p6 p7 p8 p9 : Pos} {k0 k1 : Nat} {its : Array Value}
    (hd : A.depth < recursionLimit) (ho : s.heap.get? f = some (PySem.W.kla_obj "<lambda>" q params (.BinOp (.Subscript (.Name x p1) (.Constant (.int 0) k0 p2) p3) .Mult (.BinOp (.Name y p4) .FloorDiv (.Subscript (.Name x p5) (.Constant (.int 1) k1 p6) p7) p8) p9) scope cl pm c' ctv))
    (hcr : s.heap.CodeRec (.ref c') q) (hlim : s.heap.NoLimit) (hk : scope.kind = .function) (hco : scope.isCoroutine = false) (hgen : scope.isGenerator = false) (hx : scope.names.lookup x = some .local) (hy : scope.names.lookup y = some .free) (hnc : ∀ z ∈ scope.names, z.2 ≠ .cell)
    (hbind : ∀ (pm cv ctv : Value) (v : Value), bindArgs (PySem.W.kla_fn "<lambda>" q params (.BinOp (.Subscript (.Name x p1) (.Constant (.int 0) k0 p2) p3) .Mult (.BinOp (.Name y p4) .FloorDiv (.Subscript (.Name x p5) (.Constant (.int 1) k1 p6) p7) p8) p9) scope cl pm cv ctv) ⟨[v], []⟩ = pure [(x, v)])
    (hcl : cl.lookup y = some cS) (hcell : s.heap.IsCell cS (some (.int S tS))) (ht : IsTup s.heap pv #[.int n t1, .int d t2]) (hd0 : 0 < d) (hm : IntMulOk n (S / d)) (hp : Builtin.divisionGoesByPylong S d = false)
    (hxd : (x == ("__debug__" : Str)) = false) (hyd : (y == ("__debug__" : Str)) = false) (hyc : (y == ("__classdict__" : Str)) = false) :
    wpAny (model prog w) A (call (.ref f) [.ref pv]) (PySem.W.KeyPure (.int (kpos n d S)) s) (fun _ _ => False) s := by
  refine wpAny_call (PySem.W.kla_callFunE hd ho rfl hco hgen rfl hcr ?_)
  rw [hbind]
  refine wpAny_pure (wpAny_newFunctionEnv hnc (fun z hz => ?_) (fun h₁ hns hsb => ⟨hlim.fresh _ hsb, ?_⟩) hk)
  · rw [List.mem_singleton.mp hz]; exact hx
  have kp : ∀ b o, s.heap.get? b = some o → h₁.get? b = some o := fun b o e => hsb.extBut b o (Nat.ne_of_lt (Heap.lt_size e)) (Heap.get?_push_of_some _ e)
  have ht1 : IsTup h₁ pv #[.int n t1, .int d t2] := ht.keeps kp
  have hc1 : h₁.IsCell cS (some (.int S tS)) := let ⟨o, h1, h2⟩ := hcell; ⟨o, kp _ _ h1, h2⟩
  have hlk : ([(x, Value.ref pv)] : List (Str × Value)).reverse.lookup x = some (.ref pv) := by simp
  refine PySem.W.kla_codeExpr ?_
  refine wpAny_BinOp (Subscript_ (wpAny_Name (wpAny_loadName_local (v := .ref pv) hk hx hns hlk ?_) hxd))
  refine wpAny_Constant_int ?_
  refine subscriptTail_builtinR (x := .int n t1) ht1.typeIs slot_tuple_getitem.lookup (getItem_tuple (j := 0) ht1 (by decide) (by decide) (by rfl) (by rfl) ⟨rfl, ?_⟩) (by with_unfolding_all rfl)
  refine wpAny_BinOp (wpAny_Name (wpAny_loadName_free hk hy hcl hc1 ?_ hyc) hyd)
  refine Subscript_ (wpAny_Name (wpAny_loadName_local (v := .ref pv) hk hx hns hlk ?_) hxd)
  refine wpAny_Constant_int ?_
  refine subscriptTail_builtinR (x := .int d t2) ht1.typeIs slot_tuple_getitem.lookup (getItem_tuple (j := 1) ht1 (by decide) (by decide) (by rfl) (by rfl) ⟨rfl, ?_⟩) (by with_unfolding_all rfl)
  refine floordiv_int (by omega) ?_ (.inl hp)
  rw [Int.fdiv_eq_ediv_of_nonneg S (by omega)]
  refine mul_int ?_ hm
  exact ⟨h₁, _, rfl, kp, .int _ _⟩
end DL

set_option Elab.async false
set_option linter.all false
set_option maxRecDepth 100000
set_option maxHeartbeats 2000000
namespace DL
open PySem L2 PyProof.Rows PySem.Calls
theorem sort2 {α : Type} (le : α → α → Bool) (p q : α) : [p, q].mergeSort le = if le p q = true then [p, q] else [q, p] := by
  simp [List.mergeSort, List.MergeSort.Internal.splitInTwo, List.merge]
/-- the two items of a pair, as data -/
def F2 (n d : Int) : D := .tup [.int n, .int d]
section
variable {X : Cx} {E : Ent} {ω : List Cell} {δ : DE} {C : CtxI} [hx : XOk X C]
theorem ev_sortedK (jg iy : Nat) {R : D → Prop} {x y : Str} {c P : Addr} {k : Nat} {a : Expr} {params : Arguments} {scope : Scope} {p pos lpos kp : Pos} {p1 p2 p3 p4 p5 p6 p7 p8 p9 : Pos} {k0 k1 : Nat} {S n1 d1 n2 d2 : Int}
    (hm : C.mg "sorted" = none) (hj : C.Gs[jg]? = some "sorted") (L : LamK X E.T c P) (hk : Nat.ble 3 C.k = true)
    (hdef : defaultsOf params X.env = ([], [])) (hsk : scope.kind = .function) (hco : scope.isCoroutine = false) (hgen : scope.isGenerator = false) (hnx : scope.names.lookup x = some .local) (hny : scope.names.lookup y = some .free) (hnc : ∀ z ∈ scope.names, z.2 ≠ .cell)
    (hfr : ∀ z ∈ scope.names, z.2 = .free → X.env.scope.names.lookup z.1 = some .cell)
    (hbind : ∀ (q : Str) (cl : List (Str × Addr)) (pm cv ctv v : Value), bindArgs (PySem.W.kla_fn "<lambda>" q params (.BinOp (.Subscript (.Name x p1) (.Constant (.int 0) k0 p2) p3) .Mult (.BinOp (.Name y p4) .FloorDiv (.Subscript (.Name x p5) (.Constant (.int 1) k1 p6) p7) p8) p9) scope cl pm cv ctv) ⟨[v], []⟩ = pure [(x, v)])
    (hiy : C.N[iy]? = some y) (hvy : C.vis iy = true) (hδ : δ[iy]? = some (some (.int S)))
    (hd1 : 0 < d1) (hd2 : 0 < d2) (hm1 : IntMulOk n1 (S / d1)) (hm2 : IntMulOk n2 (S / d2)) (hp1 : Builtin.divisionGoesByPylong S d1 = false) (hp2 : Builtin.divisionGoesByPylong S d2 = false)
    (h : EV X E ω δ a fun d => d = .lst [F2 n1 d1, F2 n2 d2] ∧ R (.lst (if kpos n1 d1 S ≤ kpos n2 d2 S then [F2 n1 d1, F2 n2 d2] else [F2 n2 d2, F2 n1 d1])))
    (hxd : (x == ("__debug__" : Str)) = false := by decide) (hyd : (y == ("__debug__" : Str)) = false := by decide) (hyc : (y == ("__classdict__" : Str)) = false := by decide)
    (he : starEach [a] X.env = (false, eval a X.env) :: starEach [] X.env := by rfl) (he' : backTo pos (starEach [a] X.env) = (false, eval a X.env) :: backTo pos (starEach [] X.env) := by rfl) (hpl : (backTo pos (starEach [a] X.env)).any (·.1) = false := by rfl) :
    EV X E ω δ (.Call (.Name "sorted" p) [a] [⟨some "key", .Lambda params (.BinOp (.Subscript (.Name x p1) (.Constant (.int 0) k0 p2) p3) .Mult (.BinOp (.Name y p4) .FloorDiv (.Subscript (.Name x p5) (.Constant (.int 1) k1 p6) p7) p8) p9) scope lpos, kp⟩] pos) R := by
  have hT : E.T ≠ [] := List.ne_nil_of_mem L.mem
  have hA : EA X E ω δ [a] fun ds => ds = [.lst [F2 n1 d1, F2 n2 d2]] ∧ R (.lst (if kpos n1 d1 S ≤ kpos n2 d2 S then [F2 n1 d1, F2 n2 d2] else [F2 n2 d2, F2 n1 d1])) := ea_cons (h.imp fun d q => ea_nil ⟨by rw [q.1], q.2⟩) he
  have hr : Room C.k X.A := hx.room
  have hk3 := Nat.le_of_ble_eq_true hk
  intro σ G H Q ok en kk pins s I
  refine wpAny_Call_Name_kw (ld_blt I (hx.gl.g hj) (by rw [hx.mg]; exact hm) boot_sorted ?_ (by decide) (by decide))
  refine PyProof.Rows.callWith_kw (thn ((wA_pa (X := X) (es := [a])).run pos pins s σ H (fun vs H1 => ∃ G1, SOk E ω G1 H1 ∧ Same G G1 ∧ RepL X.K G1 [.lst [F2 n1 d1, F2 n2 d2]] vs ∧ R (.lst (if kpos n1 d1 S ≤ kpos n2 d2 S then [F2 n1 d1, F2 n2 d2] else [F2 n2 d2, F2 n1 d1]))) I
    (hA σ G H _ ok en fun vs ds G1 H1 q ok1 s1 r1 => ⟨G1, ok1, s1, by rw [← q.1]; exact r1, q.2⟩)) fun us s1 ⟨vs, H1, I1, r1, G1, ok1, sG1, rep1, hR⟩ => ?_) he' hpl (by rfl) (by rfl)
  have hfree : ∀ z ∈ scope.names, z.2 = .free → ∃ c, X.env.cells.lookup z.1 = some c := fun z hz e => I1.ok.has _ (.inl (hfr z hz e))
  refine kwAll_cons (LamX.lam_make2 I1 L.tb L.code L.mem L.uq ok1.tb hdef hfree fun f c' pm ctv H2 s2 I2 eN T2 hf hfn hfrs hco' => ?_)
  refine kwAll_nil ?_
  have ok2 : SOk E ω G1 H2 := ok1.extN hT eN T2
  cases rep1 with
  | cons rl rn =>
    cases rn
    cases rl with
    | @lst pl vs0 _ hq r0 =>
      cases r1 with
      | cons ru rn =>
        cases rn
        cases ru
        cases r0 with
        | cons ra r0 =>
          cases r0 with
          | cons rb r0 =>
            cases r0
            show wpAny _ _ (call (.builtin "sorted") [.ref pl] [(Str.ofString "key", .ref f)]) _ _ s2
            have hq2 : SqL X.K H2 pl _ := ok2.gh.seq hq
            obtain ⟨its, rv, pl2, hz⟩ := I2.list hq2
            obtain ⟨m, hns, hloc⟩ := I2.loc
            have hNy : X.N[iy]? = some y := by rw [hx.N]; exact hiy
            obtain ⟨vS, eS, rS⟩ := (en.mono sG1).2 iy _ hδ
            cases rS
            obtain ⟨uS, ruS, lS⟩ := hloc iy y _ hNy eS (hx.nm iy y hiy hvy).1
            have hcy : X.env.scope.names.lookup y = some .cell := hfr (y, .free) (PySem.mem_of_lookup hny) rfl
            obtain ⟨cS, hcS, hcell⟩ : ∃ c, X.env.cells.lookup y = some c ∧ s2.heap.IsCell c (some uS) := by
              rcases lS with ⟨z, _⟩ | ⟨_, c, hc, hcell⟩
              · have z' : X.env.scope.names.lookup y = some .local := z
                rw [hcy] at z'
                cases z'
              · exact ⟨c, hc, hcell⟩
            obtain ⟨tS, rfl⟩ := ruS
            have hclo : (cloFrom X.env.cells scope.names []).lookup y = some cS := NdefX.clo_has hfree (PySem.mem_of_lookup hny) hcS
            cases ra with
            | @tup pa vsa _ hta rla =>
              cases rb with
              | @tup pb vsb _ htb rlb =>
                have turn1 : ∀ (pv : Addr) (n d : Int) (h : Heap) (tk : Nat), Rep X.K G1 (F2 n d) (.ref pv) → 0 < d → IntMulOk n (S / d) → Builtin.divisionGoesByPylong S d = false → (∀ b o, s2.heap.get? b = some o → h.get? b = some o) →
                    wpAny (model X.prog X.w) X.A.in1.in1 (call (.ref f) [.ref pv]) (PySem.W.KeyPure (.int (kpos n d S)) { s2 with heap := h, toks := tk }) (fun _ _ => False) { s2 with heap := h, toks := tk } := by
                  intro pv n d h tk rep hd0 hmm hpp kp
                  cases rep with
                  | @tup _ vv _ hq3 rl3 =>
                    have hv3 : vv = [.int n, .int d] := RepL.of_s (vs := [.int n, .int d]) rl3
                    subst hv3
                    obtain ⟨it3, rv3, tp3, _⟩ := I2.tuple (sqT_mono ok2.gh hq3)
                    cases rv3 with
                    | cons u1 rv3 =>
                      cases rv3 with
                      | cons u2 rv3 =>
                        cases rv3
                        obtain ⟨t1, rfl⟩ := u1
                        obtain ⟨t2, rfl⟩ := u2
                        obtain ⟨cc, oc, vs9, tq, w1, w2, w3, w4⟩ := NdefX.codeO_at I2.hok hco'
                        refine key_turn (its := #[]) (tS := tS) (s := { s2 with heap := h, toks := tk }) (A := X.A.in1.in1) (by have := hr.depth; exact this) (kp _ _ hf) ?_ ?_ hsk hco hgen hnx hny hnc (fun pm cv ctv v => hbind _ _ pm cv ctv v) hclo ?_ (tp3.keeps kp) hd0 hmm hpp hxd hyd hyc
                        · exact ⟨cc, oc, vs9, tq, w1, kp _ _ w2, w3, w4⟩
                        · exact I2.nolimit.keeps kp
                        · obtain ⟨o, h1, h2⟩ := hcell
                          exact ⟨o, kp _ _ h1, h2⟩
                have eI : PySem.W.EachIs (fun (v : Value) (x : Int × Int) => ∃ pv, v = .ref pv ∧ Rep X.K G1 (F2 x.1 x.2) (.ref pv)) its [(n1, d1), (n2, d2)] := by
                  cases rv with
                  | cons u1 rv =>
                    cases rv with
                    | cons u2 rv =>
                      cases rv
                      cases u1
                      cases u2
                      exact .cons ⟨pa, rfl, .tup hta rla⟩ (.cons ⟨pb, rfl, .tup htb rlb⟩ .nil)
                refine PySem.W.sorted_key_data (b := false) (β := Int × Int) (fun x => .int (kpos x.1 x.2 S)) pl2.isList eI (PySem.W.AllAlike.of fun _ _ => by simp [PySem.W.alike]) (PySem.W.Sortable.others (enc := fun x : Int × Int => PyData.int (kpos x.1 x.2 S)) fun _ => ⟨fun z => (nomatch z), fun _ z => (nomatch z)⟩) (by show 2 ≤ sizeLine; decide) (fun x _ => ?_) (ksk_s1 _ _) (fun _ => ksk_l1 _ _) (fun _ => ksk_t1 _ _)
                  (fun v x ⟨pv, ev, rep⟩ hxm h tk kp => ?_) fun out c0 h' tk kp hfr0 hD hlen eo => ?_
                · have := hr.un
                  show X.A.units + 2 + 0 < cLine
                  omega
                · subst ev
                  simp only [List.mem_cons, List.not_mem_nil, or_false] at hxm
                  rcases hxm with rfl | rfl
                  · exact turn1 pv n1 d1 h tk rep hd1 hm1 hp1 kp
                  · exact turn1 pv n2 d2 h tk rep hd2 hm2 hp2 kp
                · rw [PySem.W.dataLe_int (fun x : Int × Int => kpos x.1 x.2 S), sort2] at eo
                  have hLn : H2 (s2.heap.objs.size + 1) = none := I2.hok.fresh (Nat.le_succ _)
                  have hres : ∃ (ws : List V), Vals ws out ∧ ws.length = 2 ∧ RepL X.K G1 (if kpos n1 d1 S ≤ kpos n2 d2 S then [F2 n1 d1, F2 n2 d2] else [F2 n2 d2, F2 n1 d1]) ws := by
                    by_cases hle : kpos n1 d1 S ≤ kpos n2 d2 S
                    · rw [if_pos (decide_eq_true hle)] at eo
                      rw [if_pos hle]
                      cases eo with
                      | cons e1 eo =>
                        cases eo with
                        | cons e2 eo =>
                          cases eo
                          obtain ⟨q1, rfl, g1⟩ := e1
                          obtain ⟨q2, rfl, g2⟩ := e2
                          exact ⟨[.ref q1, .ref q2], .cons rfl (.cons rfl .nil), rfl, .cons g1 (.cons g2 .nil)⟩
                    · rw [if_neg (fun z => hle (of_decide_eq_true z))] at eo
                      rw [if_neg hle]
                      cases eo with
                      | cons e1 eo =>
                        cases eo with
                        | cons e2 eo =>
                          cases eo
                          obtain ⟨q1, rfl, g1⟩ := e1
                          obtain ⟨q2, rfl, g2⟩ := e2
                          exact ⟨[.ref q1, .ref q2], .cons rfl (.cons rfl .nil), rfl, .cons g1 (.cons g2 .nil)⟩
                  obtain ⟨ws, hws, hlw, hrep⟩ := hres
                  obtain ⟨ok3, s3⟩ := ok2.new (p := s2.heap.objs.size + 1) (o := .lst ws) hLn (fun ps z => nomatch z)
                  exact ⟨.ref (s2.heap.objs.size + 1), upd H2 (s2.heap.objs.size + 1) (.lst ws), I2.laid (t' := tk) kp (Nat.le_succ _) ⟨by rw [hlw]; decide, out, c0, hws, hD⟩, rfl,
                    kk _ _ _ _ hR ok3 (sG1.trans s3) (.lst (SqL.of upd_same) (hrep.mono s3))⟩
end
end DL

set_option Elab.async false
set_option linter.all false
set_option maxRecDepth 100000
set_option maxHeartbeats 2000000
/-! A def that makes lambdas. -/
namespace DL
open PySem L2 PyProof.Rows
section
variable {P : Program} {w : World} {K : PySem.W.Frag} {mg : Str → Option Value} {base : Heap} {x qual : Str} {params : Arguments} {body : List Stmt} {scope : Scope} {dvs : List V} {kws : List (Str × V)} {f : Addr} {fd : FuncData}
theorem def_okL {nv : Nat} {N ps Gs : List Str} {k : Nat} {T : List (Addr × Str)} {cells : List D → List Cell} {spec : SpecD} {n : Str} (F : FunD K x qual params body scope dvs kws f fd) (S : ScF nv N ps Gs scope) (len : ∀ ds R, spec ds R → ds.length = ps.length)
    (hf : He.fAd K (n, none) = f) (TB : LamX.TabB base mg (He.cT K (n, none)).1 (He.cT K (n, none)).2) (hm : ((He.cT K (n, none)).2, (qual ++ ".<locals>.") ++ "<lambda>") ∈ T) (hu : ∀ p ∈ T, p.1 = (He.cT K (n, none)).2 → p.2 = (qual ++ ".<locals>.") ++ "<lambda>")
    (hb : ∀ (X : Cx) [XOk X ⟨P, w, K, mg, base, nv, N, Gs, k, none⟩] (sc : X.env.scope = scope) (L : LamK X T (He.cT K (n, none)).1 (He.cT K (n, none)).2) (G H : Hp) (ds : List D) (R : D → Prop), spec ds R →
      BV X (ent G H (cells ds) T) (cells ds) (zipN N ds) body ⟨fun ω _ => (cells ds).Sublist ω ∧ R .non, fun ω d => (cells ds).Sublist ω ∧ R d, fun _ _ => False, fun _ _ => False⟩) :
    FnOk P w K mg base CX0 (k + 1) f fd ps (spG K T cells spec) := by
  have hpl : ps.length ≤ N.length := by have := congrArg List.length S.fs.pre; rw [List.length_take] at this; omega
  obtain ⟨oc, od, dV, kV, doc, pm, an, cdv, ct, osl, rfl, lk, hcd, _, _⟩ := F.ex
  obtain ⟨c, rfl⟩ := He.codeIn_ref hcd
  have hc : He.codeOf K (n, none) = c := He.codeOf_eq (by rw [hf]; exact lk) rfl
  refine fn_of lk hcd S.fs (fun vs H Q E h => ?_) (fun A outer s H vs Q E hr h => ?_)
  · obtain ⟨G, ds, R, _, r, hs, _⟩ := h
    rw [← r.length]
    exact len ds R hs
  · obtain ⟨G, ds, R, ok, r, hs, k⟩ := h
    haveI := cx0_ok (P := P) (w := w) (K := K) (mg := mg) (base := base) (outer := outer) (H := H) (E := E) S hr
    refine ⟨_, PSs.nox (wSs_ps (X := cx0 P w K mg base N qual scope f (.ref c) A outer s H E)), ?_⟩
    have hl := len ds R hs
    have L : LamK (cx0 P w K mg base N qual scope f (.ref c) A outer s H E) T (He.cT K (n, none)).1 (He.cT K (n, none)).2 := ⟨TB, by show Value.ref c = .ref (He.codeOf K (n, none)); rw [hc], hm, hu⟩
    refine hb (cx0 P w K mg base N qual scope f (.ref c) A outer s H E) rfl L G H ds R hs _ G H _ ok (EnvR.start r (by rw [hl]; exact hpl)) ⟨fun ω δ σ G' H' p ok' s' _ => ?_, fun ω d v G' H' p ok' s' r' => ?_, fun _ _ _ _ _ p => p.elim, fun _ _ _ _ _ p => p.elim⟩
    · exact k .non .non G' H' p.2 s' (ok'.drop p.1) (.s _)
    · exact k v d G' H' p.2 s' (ok'.drop p.1) r'
end
end DL

set_option Elab.async false
set_option linter.all false
set_option maxRecDepth 100000
set_option maxHeartbeats 2000000
/-! x in o, o of an own class with __contains__. -/
namespace DL
open PySem L2 PyProof.Rows
theorem fn_bind {K : PySem.W.Frag} {M : Model} {h : Heap} {f : Addr} (X : K.In h) (e : PySem.W.isFn K (.ref f) = true) (self : Value) : PySem.W.Looks M h (bindSpecial (.ref f) self) (.ref f, [self]) := by
  have L := PySem.W.looks_typeIn (M := M) X (beq_iff_eq.mp e)
  intro A Q E s k q
  unfold bindSpecial
  refine wpAny_bind (L A _ E s k ?_)
  rw [if_pos (by decide)]
  exact wpAny_pure q
section
variable {X : Cx} {C : CtxI} [hx : XOk X C] {E : Ent} {ω : List Cell} {δ : DE} {a b : Expr} {pos : Pos}
theorem et_inM {R : Bool → Prop} {A : Addr} {k0 : Nat} {spec : SpecD} (F : KnM C.P C.w C.K C.mg C.base CX0 A "__contains__" k0 (spP C.K spec)) (hk : Nat.ble k0 C.k = true)
    (h : EV X E ω δ a fun d => EV X E ω δ b fun o => ∃ fs, o = .ins A fs ∧ spec [o, d] fun r => ∃ t, r = .bl t ∧ R t) (hm : behindInMarks .In b = false := by rfl) : ET X E ω δ (.Compare a [.In] [b] pos) R := by
  have F' : KnM X.prog X.w X.K X.mg X.base CX0 A "__contains__" k0 (spP X.K spec) := by rw [hx.prog, hx.w, hx.K, hx.mg, hx.base]; exact F
  obtain ⟨f, fd, ps, h1, h2, h3, h4⟩ := F'.ex
  have ho : OpR X (compareOp .In) (fun x y H Q => ∃ (p dx : Addr) (gs : List (Str × V)), y = .ref p ∧ H p = some (.ins A dx gs) ∧ spP X.K spec [.ref p, x] H (fun v H' => ∃ t, v = .bl t ∧ Q (.bl t) H') E0) := by
    intro pins s σ H x y v u Q I rx ry hh
    obtain ⟨p, dx, gs, rfl, hp, hs⟩ := hh
    obtain rfl : u = Value.ref p := ry
    obtain ⟨_, _, _, hobj, _⟩ := I.hok p _ hp
    have LT : PySem.W.Looks (model X.prog X.w) s.heap (typeOf (.ref p)) (.ref A) := fun A' Q' E' s' kk q => wpAny_typeOf_ref (kk _ _ hobj) q
    have LF : PySem.W.Looks (model X.prog X.w) s.heap (specialOf (.ref p) "__contains__") (some (.ref f)) := by
      unfold specialOf
      exact LT.andThen (PySem.W.looks_findIn I.kIn h2.at_)
    have LB : PySem.W.Looks (model X.prog X.w) s.heap (bindSpecial (.ref f) (.ref p)) (.ref f, [.ref p]) := fn_bind I.kIn h2.fn _
    unfold compareOp
    refine wpAny_bind ?_
    unfold contains
    refine wpAny_holding ?_
    show wpAny _ _ (specialOf (.ref p) "__contains__" >>= _) _ _ _
    refine wpAny_bind (LF.at ?_)
    rw [if_neg (by simp)]
    refine wpAny_bind ?_
    unfold callSpecialUnlessNone?
    refine wpAny_bind (LF.at (wpAny_holding (wpAny_bind (LB.at ?_))))
    show wpAny _ _ (if (Value.ref f == Value.none) = true then _ else _) _ _ _
    rw [if_neg (by simp)]
    refine wpAny_bind (wpAny_mono (run_fn (us := [.ref p, v]) (vs := [.ref p, x]) (dvs := []) h4 (hx.room.mono (Nat.le_of_ble_eq_true hk)) h3 .nil pass0 I (.cons rfl (.cons rx .nil)) hs) (fun r s' hq => wpAny_pure ?_) fun _ _ z => z)
    obtain ⟨w', H', I', rv, t, rfl, q⟩ := hq
    obtain rfl : r = Value.bool t := rv
    exact wpAny_pure (wpAny_pure ⟨.bl t, H', I', rfl, q⟩)
  refine et_of (pt_cmpR ho wE_pe wE_pe hm) (rt_test fun σ G H Q ok en k => h σ G H _ ok en fun v d G1 H1 q ok1 s1 r1 => q σ G1 H1 _ ok1 (en.mono s1) fun w d2 G2 H2 q2 ok2 s2 r2 => ?_)
  obtain ⟨fs, rfl, hsp⟩ := q2
  cases r2 with
  | @ins p _ dx gs _ hp rf =>
    refine ⟨p, dx, gs, rfl, ok2.gh _ _ hp, G2, [.ins A fs, d], _, ok2.anew, .cons (.ins hp rf) (.cons (r1.mono s2) .nil), hsp, fun v d' G' H' hr s' k2 r' => ?_⟩
    obtain ⟨t, rfl, hR⟩ := hr
    cases r'
    exact ⟨t, rfl, k _ _ G' H' ⟨t, rfl, hR⟩ (ok2.back (List.nil_sublist _) (.inl rfl) s' k2) ((s1.trans s2).trans s') (.s _)⟩
end
end DL

set_option Elab.async false
set_option linter.all false
set_option maxRecDepth 100000
set_option maxHeartbeats 2000000
namespace DL
open PySem L2 PyProof.Rows
section
variable {X : Cx} {C : CtxI} [hx : XOk X C] {E : Ent} {ω : List Cell} {δ : DE} {e : Expr} {pos : Pos} {nx : List Cell → DE → Prop} {rt : List Cell → D → Prop} {bk ct : List Cell → DE → Prop}
/-- a, b, c = a list -/
theorem w_unpackL3 (i1 i2 i3 : Nat) {x1 x2 x3 : Str} {p1 p2 p3 : Pos} {j : Nat} {pt : Pos} (hf : C.is = none) (v1 : Nat.blt i1 C.nv = true) (v2 : Nat.blt i2 C.nv = true) (v3 : Nat.blt i3 C.nv = true) (n1 : C.N[i1]? = some x1) (n2 : C.N[i2]? = some x2) (n3 : C.N[i3]? = some x3)
    (h : EV X E ω δ e fun d => ∃ d1 d2 d3, d = .lst [d1, d2, d3] ∧ nx ω (((δ.set i1 (some d1)).set i2 (some d2)).set i3 (some d3)))
    (hs : swapsWithSole [.Tuple [.Name x1 p1, .Name x2 p2, .Name x3 p3] j pt] e pos.line X.env = pure false := by rfl) (hw : swappedStores [.Tuple [.Name x1 p1, .Name x2 p2, .Name x3 p3] j pt] e X.env = pure none := by rfl) :
    SV X E ω δ (.Assign [.Tuple [.Name x1 p1, .Name x2 p2, .Name x3 p3] j pt] e pos) ⟨nx, rt, bk, ct⟩ := by
  have hn : NamesAt C.nv X.N [.Name x1 p1, .Name x2 p2, .Name x3 p3] [i1, i2, i3] := by rw [hx.N]; exact .cons v1 n1 (.cons v2 n2 (.cons v3 n3 .nil))
  refine sv_of (ps_asg wE_pe (pg_lst hx.calm (pgs_names (hx.lo hf) (hx.fn hf) hn)) hs hw (by rfl)) fun σ G H D ok en k => h σ G H _ ok en fun v d G1 H1 q ok1 s1 r1 => ?_
  obtain ⟨d1, d2, d3, rfl, q⟩ := q
  cases r1 with
  | @lst p vs _ hq rl => exact ⟨p, vs, rfl, ok1.gh.seq hq, rl.length.symm, gNames_run rfl rl (en.mono s1) fun σ' en' => k.nx ω _ σ' G1 H1 q ok1 s1 en'⟩
end
end DL

set_option linter.all false
/-! Fractions: what the program's arithmetic is, in core Lean's Rat. -/
namespace Q
open scoped Rat
theorem den_pos (q : Rat) : (0 : Int) < (q.den : Int) := by have := q.den_pos; omega
theorem den_ne (q : Rat) : (q.den : Int) ≠ 0 := by have := den_pos q; omega
theorem cop (q : Rat) : Int.gcd q.num (q.den : Int) = 1 := by
  have := q.reduced
  unfold Nat.Coprime at this
  unfold Int.gcd
  simpa using this
theorem low_pos (n : Int) {d : Int} (h : 0 < d) : (n /. d).num = n / (Int.gcd n d : Int) ∧ (((n /. d).den : Nat) : Int) = d / (Int.gcd n d : Int) := by
  rw [Rat.num_divInt, Rat.den_divInt, if_neg (by omega), Int.gcd_comm d n]
  refine ⟨by rw [Int.sign_eq_one_of_pos h, Int.one_mul], ?_⟩
  have e : (d.natAbs : Int) = d := by omega
  rw [Int.natCast_ediv, e]
theorem low_neg (n : Int) {d : Int} (h : d < 0) : (n /. d).num = n.fdiv (-(Int.gcd n d : Int)) ∧ (((n /. d).den : Nat) : Int) = d.fdiv (-(Int.gcd n d : Int)) := by
  rw [Rat.num_divInt, Rat.den_divInt, if_neg (by omega), Int.gcd_comm d n]
  have hg : (0 : Int) < (Int.gcd n d : Int) := by
    have := Int.gcd_pos_of_ne_zero_right n (show d ≠ 0 by omega)
    omega
  have d1 : (Int.gcd n d : Int) ∣ n := Int.gcd_dvd_left ..
  have d2 : (Int.gcd n d : Int) ∣ d := Int.gcd_dvd_right ..
  have key : ∀ x : Int, (Int.gcd n d : Int) ∣ x → x.fdiv (-(Int.gcd n d : Int)) = -(x / (Int.gcd n d : Int)) := fun x ⟨c, hc⟩ => by
    have hx : x / (Int.gcd n d : Int) = c := by
      conv => lhs; rw [hc]
      exact Int.mul_ediv_cancel_left c (by omega)
    rw [hx]
    have hx2 : x = (-c) * (-(Int.gcd n d : Int)) := by
      conv => lhs; rw [hc]
      rw [Int.neg_mul_neg, Int.mul_comm]
    conv => lhs; rw [hx2]
    exact Int.mul_fdiv_cancel (-c) (show -(Int.gcd n d : Int) ≠ 0 by omega)
  refine ⟨?_, ?_⟩
  · rw [key n d1, Int.sign_eq_neg_one_of_neg h, Int.neg_mul, Int.one_mul, Int.neg_ediv_of_dvd d1]
  · rw [key d d2, Int.natCast_ediv]
    have e : (d.natAbs : Int) = -d := by omega
    rw [e, Int.neg_ediv_of_dvd d2]
theorem ofcop (n : Int) (d : Nat) (hd : 0 < d) (h : Int.gcd n (d : Int) = 1) : (n /. (d : Int)).num = n ∧ (n /. (d : Int)).den = d := by
  obtain ⟨h1, h2⟩ := low_pos n (show (0 : Int) < (d : Int) by omega)
  rw [h] at h1 h2
  refine ⟨h1.trans (Int.ediv_one _), ?_⟩
  have h3 : (((n /. (d : Int)).den : Nat) : Int) = (d : Int) := h2.trans (Int.ediv_one _)
  exact Int.ofNat.inj h3
theorem self (q : Rat) : q.num /. (q.den : Int) = q := Rat.num_divInt_den q
theorem val (q : Rat) : q = (q.num : Rat) / ((q.den : Int) : Rat) := by
  conv => lhs; rw [← self q, Rat.divInt_eq_div]
theorem add (p q : Rat) : (p.num * (q.den : Int) + q.num * (p.den : Int)) /. ((p.den : Int) * (q.den : Int)) = p + q := by
  conv => rhs; rw [← self p, ← self q]
  rw [Rat.divInt_add_divInt _ _ (den_ne p) (den_ne q)]
theorem sub (p q : Rat) : (p.num * (q.den : Int) - q.num * (p.den : Int)) /. ((p.den : Int) * (q.den : Int)) = p - q := by
  conv => rhs; rw [← self p, ← self q]
  rw [Rat.divInt_sub_divInt _ _ (den_ne p) (den_ne q)]
theorem mul (p q : Rat) : (p.num * q.num) /. ((p.den : Int) * (q.den : Int)) = p * q := by
  conv => rhs; rw [← self p, ← self q]
  rw [Rat.divInt_mul_divInt]
theorem div (p q : Rat) : (p.num * (q.den : Int)) /. ((p.den : Int) * q.num) = p / q := by
  conv => rhs; rw [← self p, ← self q]
  simp only [Rat.divInt_eq_div, Rat.intCast_mul]
  by_cases h : (q.num : Rat) = 0
  · have hz : ∀ x : Rat, x / 0 = 0 := fun x => by rw [Rat.div_def, Rat.inv_zero, Rat.mul_zero]
    rw [h, Rat.mul_zero, hz, Rat.div_def 0, Rat.zero_mul, hz]
  · have h1 : ((p.den : Int) : Rat) ≠ 0 := by have := den_ne p; exact_mod_cast this
    have h2 : ((q.den : Int) : Rat) ≠ 0 := by have := den_ne q; exact_mod_cast this
    grind
theorem num_zero {q : Rat} : q.num = 0 ↔ q = 0 := Rat.num_eq_zero
theorem num_pos {q : Rat} : 0 < q.num ↔ 0 < q := by
  have := Rat.lt_iff 0 q
  simp at this
  exact this.symm
theorem lt (p q : Rat) : p.num * (q.den : Int) < q.num * (p.den : Int) ↔ p < q := (Rat.lt_iff p q).symm
theorem le (p q : Rat) : p.num * (q.den : Int) ≤ q.num * (p.den : Int) ↔ p ≤ q := (Rat.le_iff p q).symm
/-! ### bounds -/
def B (n : Nat) (q : Rat) : Prop := q.num.natAbs < 2 ^ n ∧ q.den < 2 ^ n
theorem B.mono {m n : Nat} {q : Rat} (h : B m q) (l : m ≤ n) : B n q := ⟨Nat.lt_of_lt_of_le h.1 (Nat.pow_le_pow_right (by omega) l), Nat.lt_of_lt_of_le h.2 (Nat.pow_le_pow_right (by omega) l)⟩
theorem low_le (n : Int) {d : Int} (h : d ≠ 0) : (n /. d).num.natAbs ≤ n.natAbs ∧ (n /. d).den ≤ d.natAbs := by
  rw [Rat.num_divInt, Rat.den_divInt, if_neg h]
  refine ⟨?_, Nat.div_le_self _ _⟩
  have h1 : (d.sign * n / (d.gcd n : Int)).natAbs ≤ (d.sign * n).natAbs := by
    have hd : ((d.gcd n : Nat) : Int) ∣ d.sign * n := Int.dvd_mul_of_dvd_right (Int.gcd_dvd_right ..)
    rw [Int.natAbs_ediv_of_dvd hd]
    exact Nat.div_le_self _ _
  refine Nat.le_trans h1 ?_
  rw [Int.natAbs_mul]
  have h2 : d.sign.natAbs ≤ 1 := by
    rw [Int.natAbs_sign]
    split <;> omega
  calc d.sign.natAbs * n.natAbs ≤ 1 * n.natAbs := Nat.mul_le_mul_right _ h2
    _ = n.natAbs := Nat.one_mul _
theorem B.low {n d : Int} {k : Nat} (h : d ≠ 0) (h1 : n.natAbs < 2 ^ k) (h2 : d.natAbs < 2 ^ k) : B k (n /. d) := ⟨Nat.lt_of_le_of_lt (low_le n h).1 h1, Nat.lt_of_le_of_lt (low_le n h).2 h2⟩
theorem mul_lt {x y : Nat} {a b : Nat} (h1 : x < 2 ^ a) (h2 : y < 2 ^ b) : x * y < 2 ^ (a + b) := by
  rw [Nat.pow_add]
  exact Nat.mul_lt_mul'' h1 h2
theorem B.add {a b : Nat} {p q : Rat} (h1 : B a p) (h2 : B b q) : B (a + b + 1) (p + q) := by
  rw [← Q.add]
  refine B.low (Int.mul_ne_zero (den_ne p) (den_ne q)) ?_ ?_
  · have x := mul_lt h1.1 h2.2
    have y := mul_lt h2.1 h1.2
    rw [Nat.add_comm b a] at y
    have e : (p.num * (q.den : Int)).natAbs = p.num.natAbs * q.den := by rw [Int.natAbs_mul]; rfl
    have e2 : (q.num * (p.den : Int)).natAbs = q.num.natAbs * p.den := by rw [Int.natAbs_mul]; rfl
    rw [Nat.pow_succ]
    omega
  · have x := mul_lt h1.2 h2.2
    have e : ((p.den : Int) * (q.den : Int)).natAbs = p.den * q.den := by rw [Int.natAbs_mul]; rfl
    rw [Nat.pow_succ]
    omega
theorem B.neg {a : Nat} {p : Rat} (h : B a p) : B a (-p) := by
  refine ⟨?_, ?_⟩
  · rw [Rat.neg_num]
    rw [Int.natAbs_neg]
    exact h.1
  · rw [Rat.neg_den]
    exact h.2
theorem B.sub {a b : Nat} {p q : Rat} (h1 : B a p) (h2 : B b q) : B (a + b + 1) (p - q) := by
  rw [Rat.sub_eq_add_neg]
  exact h1.add h2.neg
theorem B.mul {a b : Nat} {p q : Rat} (h1 : B a p) (h2 : B b q) : B (a + b) (p * q) := by
  rw [← Q.mul]
  refine B.low (Int.mul_ne_zero (den_ne p) (den_ne q)) ?_ ?_
  · rw [Int.natAbs_mul]; exact mul_lt h1.1 h2.1
  · rw [Int.natAbs_mul]; exact mul_lt h1.2 h2.2
theorem B.div {a b : Nat} {p q : Rat} (h1 : B a p) (h2 : B b q) (h : q ≠ 0) : B (a + b) (p / q) := by
  rw [← Q.div]
  refine B.low (Int.mul_ne_zero (den_ne p) (fun z => h (num_zero.mp z))) ?_ ?_
  · rw [Int.natAbs_mul]; exact mul_lt h1.1 h2.2
  · rw [Int.natAbs_mul]; exact mul_lt h1.2 h2.1
theorem B.int {a : Nat} {z : Int} (h : z.natAbs < 2 ^ a) (h0 : 0 < a) : B a (z : Rat) := by
  refine ⟨by rw [Rat.num_intCast]; exact h, ?_⟩
  rw [Rat.den_intCast]
  exact Nat.one_lt_two_pow (by omega)
theorem B.floor {a : Nat} {p : Rat} (h : B a p) : p.floor.natAbs < 2 ^ (a + 1) := by
  rw [Rat.floor_def]
  have h1 := h.1
  have hd := den_pos p
  have h2 : (p.num / (p.den : Int)).natAbs ≤ p.num.natAbs + 1 := by
    have l1 := Int.ediv_mul_le p.num (den_ne p)
    have l2 := Int.lt_ediv_add_one_mul_self p.num hd
    generalize p.num / (p.den : Int) = z at *
    by_cases hz : 0 ≤ z
    · have : z ≤ z * (p.den : Int) := by
        have := Int.mul_le_mul_of_nonneg_left (show (1 : Int) ≤ (p.den : Int) by omega) hz
        omega
      omega
    · have : (z + 1) * (p.den : Int) ≤ (z + 1) := by
        have := Int.mul_le_mul_of_nonpos_left (show z + 1 ≤ 0 by omega) (show (1 : Int) ≤ (p.den : Int) by omega)
        omega
      omega
  rw [Nat.pow_succ]
  omega
/-! ### part, offset -/
def part (q : Rat) : Rat := q - (q.floor : Rat)
def offs (q : Rat) : Rat := if 1 < 2 * part q then part q - 1 else part q
theorem part_nd (q : Rat) : (part q).num = q.num % (q.den : Int) ∧ (part q).den = q.den := by
  have hd := den_pos q
  have hc : Int.gcd (q.num % (q.den : Int)) (q.den : Int) = 1 := by
    have e : Int.gcd (q.num % (q.den : Int)) (q.den : Int) = Int.gcd q.num (q.den : Int) := by
      rw [Int.emod_def, Int.sub_eq_add_neg, ← Int.mul_neg]
      exact Int.gcd_add_mul_left_left ..
    rw [e]
    exact cop q
  have e : part q = (q.num % (q.den : Int)) /. (q.den : Int) := by
    unfold part
    have h0 : ((q.den : Int) : Rat) ≠ 0 := by have := den_ne q; exact_mod_cast this
    rw [Rat.floor_def, Int.emod_def, Rat.divInt_eq_div]
    conv => lhs; arg 1; rw [val q]
    simp only [Rat.intCast_sub, Rat.intCast_mul]
    grind
  rw [e]
  exact ofcop _ _ (by omega) hc
theorem part_bd (q : Rat) : 0 ≤ part q ∧ part q < 1 := by
  unfold part
  have h1 := Rat.floor_le q
  have h2 := @Rat.lt_floor q
  grind
theorem offs_nd (q : Rat) : (offs q).num = (if 2 * (q.num % (q.den : Int)) > (q.den : Int) then q.num % (q.den : Int) - (q.den : Int) else q.num % (q.den : Int)) ∧ (offs q).den = q.den := by
  obtain ⟨h1, h2⟩ := part_nd q
  have hd := den_pos q
  have hiff : (1 < 2 * part q) ↔ 2 * (q.num % (q.den : Int)) > (q.den : Int) := by
    rw [← h1]
    have hv := val (part q)
    rw [h2] at hv
    have h0 : (0 : Rat) < ((q.den : Int) : Rat) := by exact_mod_cast hd
    have hm : part q * ((q.den : Int) : Rat) = ((part q).num : Rat) := by
      have h0' : ((q.den : Int) : Rat) ≠ 0 := by grind
      generalize (part q).num = n at *
      grind
    constructor
    · intro h
      have : ((q.den : Int) : Rat) < ((2 * (part q).num : Int) : Rat) := by
        rw [Rat.intCast_mul, ← hm]
        have := Rat.mul_lt_mul_of_pos_right h h0
        have e2 : ((2 : Int) : Rat) = 2 := rfl
        grind
      exact_mod_cast this
    · intro h
      have h' : ((q.den : Int) : Rat) < ((2 * (part q).num : Int) : Rat) := by exact_mod_cast h
      rw [Rat.intCast_mul, ← hm] at h'
      have e2 : ((2 : Int) : Rat) = 2 := rfl
      rw [e2] at h'
      refine Rat.not_le.mp fun hc => ?_
      have := Rat.mul_le_mul_of_nonneg_right hc (Rat.le_of_lt h0)
      grind
  unfold offs
  by_cases h : 2 * (q.num % (q.den : Int)) > (q.den : Int)
  · rw [if_pos (hiff.mpr h), if_pos h]
    have e : part q - 1 = (q.num % (q.den : Int) - (q.den : Int)) /. (q.den : Int) := by
      have hs := Q.sub (part q) 1
      rw [h1, h2] at hs
      simp at hs
      exact hs.symm
    rw [e]
    refine ofcop _ _ (by omega) ?_
    have hc := cop (part q)
    rw [h1, h2] at hc
    rw [← hc]
    exact Int.gcd_sub_self_left ..
  · rw [if_neg (fun z => h (hiff.mp z)), if_neg h]
    exact ⟨h1, h2⟩
theorem offs_bd (q : Rat) : -(1 / 2) < offs q ∧ offs q ≤ 1 / 2 := by
  have h := part_bd q
  unfold offs
  split <;> grind
theorem offs_int (q : Rat) : ∃ z : Int, offs q = q - (z : Rat) := by
  unfold offs part
  split
  · exact ⟨q.floor + 1, by rw [Rat.intCast_add]; grind⟩
  · exact ⟨q.floor, rfl⟩
end Q

set_option linter.all false
set_option maxRecDepth 100000
/-! More plain mathematics of fractions. -/
namespace Q
open scoped Rat
/-- the absolute value -/
def ab (q : Rat) : Rat := if q < 0 then -q else q
def sg (q : Rat) : Int := if q < 0 then -1 else 1
theorem neg_num (q : Rat) : (-q).num = -q.num := by simp
theorem num_neg {q : Rat} : q.num < 0 ↔ q < 0 := by
  have h1 := @num_pos q
  have h2 := @num_zero q
  constructor
  · intro h
    rcases (Rat.le_total : 0 ≤ q ∨ q ≤ 0) with h0 | h0
    · rcases Rat.le_iff_lt_or_eq.mp h0 with h3 | h3
      · have := h1.mpr h3; omega
      · have := h2.mpr h3.symm; omega
    · rcases Rat.le_iff_lt_or_eq.mp h0 with h3 | h3
      · exact h3
      · have := h2.mpr h3; omega
  · intro h
    rcases Int.lt_trichotomy q.num 0 with h0 | h0 | h0
    · exact h0
    · rw [h2.mp h0] at h; exact absurd h (by decide)
    · have := h1.mp h0
      grind
theorem ab_nd (q : Rat) : (ab q).num = (q.num.natAbs : Int) ∧ (ab q).den = q.den := by
  unfold ab
  by_cases h : q < 0
  · rw [if_pos h]
    have := num_neg.mpr h
    exact ⟨by rw [neg_num]; omega, by simp⟩
  · rw [if_neg h]
    have : ¬ q.num < 0 := fun z => h (num_neg.mp z)
    exact ⟨by omega, rfl⟩
theorem ab_pos {q : Rat} (h : q ≠ 0) : 0 < ab q := by
  unfold ab
  by_cases h0 : q < 0
  · rw [if_pos h0]; grind
  · rw [if_neg h0]; grind
theorem ab_ne {q : Rat} (h : q ≠ 0) : ab q ≠ 0 := by have := ab_pos h; grind
theorem B.ab {a : Nat} {q : Rat} (h : B a q) : B a (Q.ab q) := by
  obtain ⟨e1, e2⟩ := ab_nd q
  exact ⟨by rw [e1]; have := h.1; omega, by rw [e2]; exact h.2⟩
theorem B.part {a : Nat} {q : Rat} (h : B a q) : B a (part q) := by
  obtain ⟨e1, e2⟩ := part_nd q
  refine ⟨?_, by rw [e2]; exact h.2⟩
  rw [e1]
  have h1 := Int.emod_nonneg q.num (den_ne q)
  have h2 := Int.emod_lt_of_pos q.num (den_pos q)
  have h3 := h.2
  omega
theorem B.offs {a : Nat} {q : Rat} (h : B a q) : B a (offs q) := by
  obtain ⟨e1, e2⟩ := offs_nd q
  refine ⟨?_, by rw [e2]; exact h.2⟩
  rw [e1]
  have h1 := Int.emod_nonneg q.num (den_ne q)
  have h2 := Int.emod_lt_of_pos q.num (den_pos q)
  have h3 := h.2
  split <;> omega
theorem sg_cases (q : Rat) : sg q = 1 ∨ sg q = -1 := by unfold sg; split <;> simp
theorem sg_sq (q : Rat) : (sg q : Rat) * (sg q : Rat) = 1 := by rcases sg_cases q with h | h <;> rw [h] <;> decide +kernel
theorem ab_sg (q : Rat) : q = (sg q : Rat) * ab q := by
  unfold sg ab
  by_cases h : q < 0
  · rw [if_pos h, if_pos h]; simp; grind
  · rw [if_neg h, if_neg h]; simp
theorem one_div_bd {a : Nat} {q : Rat} (h : B a q) (h0 : q ≠ 0) : B (a + 1) (1 / q) := (B.div (a := 1) (p := 1) ⟨by decide, by decide⟩ h h0).mono (by omega)
theorem B.ofInt {a : Nat} {z : Int} (h : z.natAbs < 2 ^ a) : B (a + 1) (z : Rat) := (B.int (a := a + 1) (Nat.lt_of_lt_of_le h (Nat.pow_le_pow_right (by omega) (by omega))) (by omega))
theorem int_num (z : Int) : ((z : Rat)).num = z ∧ ((z : Rat)).den = 1 := ⟨Rat.num_intCast z, Rat.den_intCast z⟩
theorem floor_le (q : Rat) : (q.floor : Rat) ≤ q := Rat.floor_le q
theorem lt_floor (q : Rat) : q < (q.floor : Rat) + 1 := by have := @Rat.lt_floor q; grind
theorem le_floor {z : Int} {q : Rat} : z ≤ q.floor ↔ (z : Rat) ≤ q := Rat.le_floor_iff
theorem floor_add_int (q : Rat) (z : Int) : (q + (z : Rat)).floor = q.floor + z := by
  apply Int.le_antisymm
  · have h := floor_le (q + (z : Rat))
    have : ((q + (z : Rat)).floor - z) ≤ q.floor := le_floor.mpr (by push_cast; grind)
    omega
  · refine le_floor.mpr ?_
    have h := floor_le q
    push_cast
    grind
theorem part_int (q : Rat) (z : Int) : part (q + (z : Rat)) = part q := by
  unfold part
  rw [floor_add_int]
  push_cast
  grind
theorem offs_add (q : Rat) (z : Int) : offs (q + (z : Rat)) = offs q := by
  unfold offs
  rw [part_int]
theorem le_div {a b c : Rat} (h : 0 < c) : a ≤ b / c ↔ a * c ≤ b := by
  rw [← Rat.not_lt, ← Rat.not_lt, Rat.div_lt_iff h]
theorem div_le {a b c : Rat} (h : 0 < c) : b / c ≤ a ↔ b ≤ a * c := by
  rw [← Rat.not_lt, ← Rat.not_lt, Rat.lt_div_iff h]
theorem mul_inv {i : Rat} (h : i ≠ 0) : i * i⁻¹ = 1 := Rat.mul_inv_cancel i h
theorem div_ab {q : Rat} (h : q ≠ 0) : q / ab q = (sg q : Rat) := by
  have h1 := ab_sg q
  have h2 := mul_inv (ab_ne h)
  rw [Rat.div_def]
  grind
theorem sg_bd (q : Rat) : (sg q).natAbs < 2 ^ 1 := by rcases sg_cases q with h | h <;> rw [h] <;> decide
end Q

set_option linter.all false
set_option maxRecDepth 100000
/-! Nearness in plain mathematics. -/
namespace Q
open scoped Rat
theorem ab_def' (q : Rat) : (0 ≤ q ∧ ab q = q) ∨ (q < 0 ∧ ab q = -q) := by
  unfold ab
  by_cases h : q < 0
  · rw [if_pos h]; exact .inr ⟨h, rfl⟩
  · rw [if_neg h]; exact .inl ⟨Rat.not_lt.mp h, rfl⟩
theorem ab_nonneg (q : Rat) : 0 ≤ ab q := by rcases ab_def' q with ⟨h, e⟩ | ⟨h, e⟩ <;> rw [e] <;> grind
theorem ab_le {q w : Rat} : ab q ≤ w ↔ -w ≤ q ∧ q ≤ w := by
  rcases ab_def' q with ⟨h, e⟩ | ⟨h, e⟩ <;> rw [e] <;> constructor <;> intro h <;> grind
theorem ab_neg (q : Rat) : ab (-q) = ab q := by
  rcases ab_def' q with ⟨h, e⟩ | ⟨h, e⟩ <;> rcases ab_def' (-q) with ⟨h2, e2⟩ | ⟨h2, e2⟩ <;> rw [e, e2] <;> grind
theorem ab_int (z : Int) : ab (z : Rat) = ((z.natAbs : Int) : Rat) := by
  rcases ab_def' (z : Rat) with ⟨h, e⟩ | ⟨h, e⟩
  · have : 0 ≤ z := by exact_mod_cast h
    rw [e, Int.natAbs_of_nonneg this]
  · have : z < 0 := by exact_mod_cast h
    have e2 : (z.natAbs : Int) = -z := by omega
    rw [e, e2]
    push_cast
    rfl
theorem ab_mul_pos {q b : Rat} (h : 0 < b) : ab (q * b) = ab q * b := by
  rcases ab_def' q with ⟨h1, e⟩ | ⟨h1, e⟩
  · have : 0 ≤ q * b := Rat.mul_nonneg h1 (Rat.le_of_lt h)
    rcases ab_def' (q * b) with ⟨h2, e2⟩ | ⟨h2, e2⟩ <;> rw [e, e2] <;> grind
  · have : q * b < 0 := by
      have := Rat.mul_lt_mul_of_pos_right h1 h
      grind
    rcases ab_def' (q * b) with ⟨h2, e2⟩ | ⟨h2, e2⟩ <;> rw [e, e2] <;> grind
theorem num_den (w : Rat) : w * ((w.den : Int) : Rat) = (w.num : Rat) := by
  have h : ((w.den : Int) : Rat) ≠ 0 := by have := den_ne w; exact_mod_cast this
  have e := val w
  have h2 := mul_inv h
  rw [Rat.div_def] at e
  generalize ((w.den : Int) : Rat) = d at *
  generalize (w.num : Rat) = n at *
  grind
theorem within (top bot k : Int) (w t : Rat) (hb : 0 < bot) (ht : t * (bot : Rat) = (top : Rat)) : ((top - k * bot).natAbs : Int) * (w.den : Int) ≤ w.num * bot ↔ ab (t - (k : Rat)) ≤ w := by
  have hb' : (0 : Rat) < (bot : Rat) := by exact_mod_cast hb
  have hd : (0 : Rat) < ((w.den : Int) : Rat) := by have := den_pos w; exact_mod_cast this
  have e1 : (((top - k * bot).natAbs : Int) : Rat) = ab (t - (k : Rat)) * (bot : Rat) := by
    rw [← ab_int, ← ab_mul_pos hb']
    congr 1
    push_cast
    grind
  have e2 := num_den w
  have c : (((top - k * bot).natAbs : Int) * (w.den : Int) ≤ w.num * bot) ↔ (((top - k * bot).natAbs : Int) : Rat) * ((w.den : Int) : Rat) ≤ (w.num : Rat) * (bot : Rat) := by
    rw [← Rat.intCast_mul, ← Rat.intCast_mul, Rat.intCast_le_intCast]
  rw [c, e1, ← e2]
  have e3 : ab (t - (k : Rat)) * (bot : Rat) * ((w.den : Int) : Rat) = ab (t - (k : Rat)) * ((bot : Rat) * ((w.den : Int) : Rat)) := by grind
  have e4 : w * ((w.den : Int) : Rat) * (bot : Rat) = w * ((bot : Rat) * ((w.den : Int) : Rat)) := by grind
  rw [e3, e4]
  have hp : 0 < (bot : Rat) * ((w.den : Int) : Rat) := Rat.mul_pos hb' hd
  constructor
  · intro h; exact Rat.le_of_mul_le_mul_right h hp
  · intro h; exact Rat.mul_le_mul_of_nonneg_right h (Rat.le_of_lt hp)
theorem floor_eq {a b : Int} {q : Rat} (hb : 0 < b) (h : q * (b : Rat) = (a : Rat)) : a / b = q.floor := by
  have hb' : (0 : Rat) < (b : Rat) := by exact_mod_cast hb
  have key : ∀ z : Int, z ≤ a / b ↔ z ≤ q.floor := fun z => by
    rw [Int.le_ediv_iff_mul_le hb, le_floor]
    have c : z * b ≤ a ↔ (z : Rat) * (b : Rat) ≤ (a : Rat) := by rw [← Rat.intCast_mul, Rat.intCast_le_intCast]
    rw [c, ← h]
    constructor
    · intro h; exact Rat.le_of_mul_le_mul_right h hb'
    · intro h; exact Rat.mul_le_mul_of_nonneg_right h (Rat.le_of_lt hb')
  exact Int.le_antisymm ((key _).mp (Int.le_refl _)) ((key _).mpr (Int.le_refl _))
/-- the nearest whole -/
def rn (t : Rat) : Int := (t + 1 / 2).floor
theorem rn_eq {top bot : Int} {t : Rat} (hb : 0 < bot) (ht : t * (bot : Rat) = (top : Rat)) : (2 * top + bot) / (2 * bot) = rn t := by
  refine floor_eq (by omega) ?_
  push_cast
  grind
theorem rn_offs (t : Rat) : ab (t - (rn t : Rat)) = ab (offs t) := by
  obtain ⟨z, hz⟩ := offs_int t
  obtain ⟨h1, h2⟩ := offs_bd t
  have f1 := floor_le (t + 1 / 2)
  have f2 := lt_floor (t + 1 / 2)
  have e : rn t = (t + 1 / 2).floor := rfl
  rw [← e] at f1 f2
  have b1 : -(1/2) ≤ t - (rn t : Rat) := by grind
  have b2 : t - (rn t : Rat) < 1 / 2 := by grind
  have d1 : (z : Rat) - (rn t : Rat) < 1 := by grind
  have d2 : -1 ≤ (z : Rat) - (rn t : Rat) := by grind
  have d1' : z - rn t < 1 := by exact_mod_cast d1
  have d2' : -1 ≤ z - rn t := Rat.intCast_le_intCast.mp (by push_cast; grind)
  by_cases h : z = rn t
  · rw [hz, h]
  · have e2 : rn t = z + 1 := by omega
    have e3 : t - (rn t : Rat) = offs t - 1 := by rw [hz, e2]; push_cast; grind
    have e4 : offs t = 1 / 2 := by grind
    rw [e3, e4]
    decide +kernel
/-- near: some whole lies within w -/
theorem near_iff {t w : Rat} : ab (offs t) ≤ w ↔ ∃ k : Int, ab (t - (k : Rat)) ≤ w := by
  constructor
  · intro h
    exact ⟨rn t, by rw [rn_offs]; exact h⟩
  · rintro ⟨k, hk⟩
    obtain ⟨z, hz⟩ := offs_int t
    obtain ⟨h1, h2⟩ := offs_bd t
    by_cases e : k = z
    · rw [hz, ← e]; exact hk
    · obtain ⟨k1, k2⟩ := ab_le.mp hk
      have : ab (offs t) ≤ 1 / 2 := ab_le.mpr ⟨by grind, h2⟩
      have hw : 1 / 2 ≤ w := by
        rcases Int.lt_or_gt_of_ne e with h | h
        · have h' : (k : Rat) + 1 ≤ (z : Rat) := by exact_mod_cast h
          grind
        · have h' : (z : Rat) + 1 ≤ (k : Rat) := by exact_mod_cast h
          grind
      grind
end Q

set_option Elab.async false
set_option linter.all false
set_option maxRecDepth 100000
set_option maxHeartbeats 4000000
namespace Wh
open PySem L2 PyProof.Rows DL
theorem nm_ix {X : Cx} {C : CtxI} [hx : XOk X C] {E : Ent} {ω : List Cell} {δ : DE} {x : Str} {pos : Pos} {R : DL.D → Prop} {N : List Str} {i : Nat} {d : DL.D} (hC : C.N = N) (hN : N[i]? = some x) (hv : C.vis i = true) (hd : δ[i]? = some (some d)) (h : R d) : EV X E ω δ (.Name x pos) R :=
  w_name i (by rw [hC]; exact hN) hv hd h
theorem ix0 {x : Str} {l : List Str} : (x :: l)[0]? = some x := rfl
theorem ixS {x y : Str} {l : List Str} {i : Nat} (h : l[i]? = some x) : (y :: l)[i + 1]? = some x := h
end Wh

set_option Elab.async false
set_option linter.all false
set_option maxRecDepth 100000
set_option maxHeartbeats 4000000
/-! What the head must tell; the arithmetic of the program. -/
namespace Wh
open PySem L2 PyProof.Rows DL
structure Tx (K : PySem.W.Frag) (mg : Str → Option Value) : Prop where
  b_isinstance : mg "isinstance" = none
  b_int : mg "int" = none
  b_bool : mg "bool" = none
  b_abs : mg "abs" = none
  b_tuple : mg "tuple" = none
  b_len : mg "len" = none
  b_list : mg "list" = none
  b_all : mg "all" = none
  b_zip : mg "zip" = none
  b_enumerate : mg "enumerate" = none
  b_range : mg "range" = none
  b_min : mg "min" = none
  b_max : mg "max" = none
  b_sorted : mg "sorted" = none
  b_str : mg "str" = none
  b_ValueError : mg "ValueError" = none
  d_whole_number_aid_exact : DefAt K mg "whole_number_aid_exact" "whole_number" "whole_number" s_whole_number_aid_exact
  d_common_divisor : DefAt K mg "common_divisor" "common_divisor" "common_divisor" s_common_divisor
  d_lowest : DefAt K mg "lowest" "lowest" "lowest" s_lowest
  d_precedes : DefAt K mg "precedes" "precedes" "precedes" s_precedes
  d_weighted_divisor : DefAt K mg "weighted_divisor" "weighted_divisor" "weighted_divisor" s_weighted_divisor
  d_joint_measure : DefAt K mg "joint_measure" "joint_measure" "joint_measure" s_joint_measure
  d_need_fraction : DefAt K mg "need_fraction" "need_fraction" "need_fraction" s_need_fraction
  d_is_fraction : DefAt K mg "is_fraction" "is_fraction" "is_fraction" s_is_fraction
  d_check_pair : DefAt K mg "check_pair" "check_pair" "check_pair" s_check_pair
  d_check_value : DefAt K mg "check_value" "check_value" "check_value" s_check_value
  d_plus : DefAt K mg "plus" "plus" "plus" s_plus
  d_minus : DefAt K mg "minus" "minus" "minus" s_minus
  d_times : DefAt K mg "times" "times" "times" s_times
  d_over : DefAt K mg "over" "over" "over" s_over
  d_compare : DefAt K mg "compare" "compare" "compare" s_compare
  d_floor_of : DefAt K mg "floor_of" "floor_of" "floor_of" s_floor_of
  d_part_of : DefAt K mg "part_of" "part_of" "part_of" s_part_of
  d_offset_of : DefAt K mg "offset_of" "offset_of" "offset_of" s_offset_of
  d_check_values : DefAt K mg "check_values" "check_values" "check_values" s_check_values
  d_measure_paper : DefAt K mg "measure_paper" "measure_paper" "measure_paper" s_measure_paper
  d_need_place : DefAt K mg "need_place" "need_place" "need_place" s_need_place
  d_need_span : DefAt K mg "need_span" "need_span" "need_span" s_need_span
  d_next_step : DefAt K mg "next_step" "next_step" "next_step" s_next_step
  d_steps_within : DefAt K mg "steps_within" "steps_within" "steps_within" s_steps_within
  d_need_cycles : DefAt K mg "need_cycles" "need_cycles" "need_cycles" s_need_cycles
  d_weighed : DefAt K mg "weighed" "weighed" "weighed" s_weighed
  d_meeting_rule : DefAt K mg "meeting_rule" "meeting_rule" "meeting_rule" s_meeting_rule
  d_meeting_paper : DefAt K mg "meeting_paper" "meeting_paper" "meeting_paper" s_meeting_paper
  d_meetings : DefAt K mg "meetings" "meetings" "meetings" s_meetings
  d_whole_number_darkening : DefAt K mg "whole_number_darkening" "whole_number" "whole_number" s_whole_number_darkening
  d_check_whole : DefAt K mg "check_whole" "check_whole" "check_whole" s_check_whole
  d_check_shade : DefAt K mg "check_shade" "check_shade" "check_shade" s_check_shade
  d_check_span_darkening : DefAt K mg "check_span_darkening" "check_span" "check_span" s_check_span_darkening
  d_check_width_darkening : DefAt K mg "check_width_darkening" "check_width" "check_width" s_check_width_darkening
  d_offset_is_dark : DefAt K mg "offset_is_dark" "offset_is_dark" "offset_is_dark" s_offset_is_dark
  d_roll_bounds : DefAt K mg "roll_bounds" "roll_bounds" "roll_bounds" s_roll_bounds
  d_roll : DefAt K mg "roll" "roll" "roll" s_roll
  d_check_cycles : DefAt K mg "check_cycles" "check_cycles" "check_cycles" s_check_cycles
  d_check_moment : DefAt K mg "check_moment" "check_moment" "check_moment" s_check_moment
  d_check_span_nearness : DefAt K mg "check_span_nearness" "check_span" "check_span" s_check_span_nearness
  d_check_width_nearness : DefAt K mg "check_width_nearness" "check_width" "check_width" s_check_width_nearness
  d_lines_of : DefAt K mg "lines_of" "lines_of" "lines_of" s_lines_of
  d_turns_on : DefAt K mg "turns_on" "turns_on" "turns_on" s_turns_on
  d_is_within : DefAt K mg "is_within" "is_within" "is_within" s_is_within
  d_whole_near : DefAt K mg "whole_near" "whole_near" "whole_near" s_whole_near
  d_line_is_near : DefAt K mg "line_is_near" "line_is_near" "line_is_near" s_line_is_near
  d_lines_are_near : DefAt K mg "lines_are_near" "lines_are_near" "lines_are_near" s_lines_are_near
  d_is_earlier : DefAt K mg "is_earlier" "is_earlier" "is_earlier" s_is_earlier
  d_turned_bounds : DefAt K mg "turned_bounds" "turned_bounds" "turned_bounds" s_turned_bounds
  d_wholes_met : DefAt K mg "wholes_met" "wholes_met" "wholes_met" s_wholes_met
  d_line_spans : DefAt K mg "line_spans" "line_spans" "line_spans" s_line_spans
  d_all_line_spans : DefAt K mg "all_line_spans" "all_line_spans" "all_line_spans" s_all_line_spans
  d_shared_rows : DefAt K mg "shared_rows" "shared_rows" "shared_rows" s_shared_rows
  d_is_near : DefAt K mg "is_near" "is_near" "is_near" s_is_near
  d_near_spans : DefAt K mg "near_spans" "near_spans" "near_spans" s_near_spans
  d_l_mixed : DefAt K mg "_law_mixed" "_law_mixed" "_law_mixed" s_l_mixed
  d_l_store : DefAt K mg "_law_store" "_law_store" "_law_store" s_l_store
  d_l_take : DefAt K mg "_law_take" "_law_take" "_law_take" s_l_take
  d_l_pick : DefAt K mg "_law_pick" "_law_pick" "_law_pick" s_l_pick
  d_l_gcd : DefAt K mg "_law_gcd" "_law_gcd" "_law_gcd" s_l_gcd
  d_l_lowest : DefAt K mg "_law_lowest" "_law_lowest" "_law_lowest" s_l_lowest
  d_l_plus : DefAt K mg "_law_plus" "_law_plus" "_law_plus" s_l_plus
  d_l_minus : DefAt K mg "_law_minus" "_law_minus" "_law_minus" s_l_minus
  d_l_times : DefAt K mg "_law_times" "_law_times" "_law_times" s_l_times
  d_l_over : DefAt K mg "_law_over" "_law_over" "_law_over" s_l_over
  d_l_sign : DefAt K mg "_law_sign" "_law_sign" "_law_sign" s_l_sign
  d_l_floor : DefAt K mg "_law_floor" "_law_floor" "_law_floor" s_l_floor
  d_l_part : DefAt K mg "_law_part" "_law_part" "_law_part" s_l_part
  d_l_offset : DefAt K mg "_law_offset" "_law_offset" "_law_offset" s_l_offset
  d_l_distance : DefAt K mg "_law_distance" "_law_distance" "_law_distance" s_l_distance
  d_l_scale : DefAt K mg "_law_scale" "_law_scale" "_law_scale" s_l_scale
  d_l_ordered : DefAt K mg "_law_ordered" "_law_ordered" "_law_ordered" s_l_ordered
  d_l_whole : DefAt K mg "_law_whole" "_law_whole" "_law_whole" s_l_whole
  d_l_frac : DefAt K mg "_law_frac" "_law_frac" "_law_frac" s_l_frac
  d_l_positive : DefAt K mg "_law_positive" "_law_positive" "_law_positive" s_l_positive
  d_l_no_zero : DefAt K mg "_law_no_zero" "_law_no_zero" "_law_no_zero" s_l_no_zero
  d_l_place : DefAt K mg "_law_place" "_law_place" "_law_place" s_l_place
  d_l_moment : DefAt K mg "_law_moment" "_law_moment" "_law_moment" s_l_moment
  d_l_below : DefAt K mg "_law_below" "_law_below" "_law_below" s_l_below
  d_l_many : DefAt K mg "_law_many" "_law_many" "_law_many" s_l_many
  d_l_span_over : DefAt K mg "_law_span_over" "_law_span_over" "_law_span_over" s_l_span_over
  d_l_cycle : DefAt K mg "_law_cycle" "_law_cycle" "_law_cycle" s_l_cycle
  d_l_turns : DefAt K mg "_law_turns" "_law_turns" "_law_turns" s_l_turns
  d_l_rule : DefAt K mg "_law_rule" "_law_rule" "_law_rule" s_l_rule
  d_l_near : DefAt K mg "_law_near" "_law_near" "_law_near" s_l_near
  d_l_near_many : DefAt K mg "_law_near_many" "_law_near_many" "_law_near_many" s_l_near_many
  d_l_shade : DefAt K mg "_law_shade" "_law_shade" "_law_shade" s_l_shade
  d_l_shade_rule : DefAt K mg "_law_shade_rule" "_law_shade_rule" "_law_shade_rule" s_l_shade_rule
  d_l_alike : DefAt K mg "_law_alike" "_law_alike" "_law_alike" s_l_alike
  d_l_answer : DefAt K mg "_law_answer" "_law_answer" "_law_answer" s_l_answer
  d_l_numbers_in : DefAt K mg "_law_numbers_in" "_law_numbers_in" "_law_numbers_in" s_l_numbers_in
  d_l_darkened : DefAt K mg "_law_darkened" "_law_darkened" "_law_darkened" s_l_darkened
  d_l_roll_due : DefAt K mg "_law_roll_due" "_law_roll_due" "_law_roll_due" s_l_roll_due
  d_l_near_right : DefAt K mg "_law_near_right" "_law_near_right" "_law_near_right" s_l_near_right
  d_l_shade_right : DefAt K mg "_law_shade_right" "_law_shade_right" "_law_shade_right" s_l_shade_right
  d_l_form_right : DefAt K mg "_law_form_right" "_law_form_right" "_law_form_right" s_l_form_right
  d_law : DefAt K mg "law" "law" "law" s_law
  c_MOST_VALUES : ∃ t, mg "MOST_VALUES" = some (.int 12 t)
  c_MOST_MOMENTS : ∃ t, mg "MOST_MOMENTS" = some (.int 400 t)
  c_LEAST_CYCLES : ∃ t, mg "LEAST_CYCLES" = some (.int 2 t)
  c_MOST_CYCLES : ∃ t, mg "MOST_CYCLES" = some (.int 6 t)
  c_ROLL_LIMIT : ∃ t, mg "ROLL_LIMIT" = some (.int 400 t)
  c_MOST_NEAR : ∃ t, mg "MOST_NEAR" = some (.int 200 t)
local macro_rules | `(tactic| k_call_by "n" 0) => `(tactic| ((with_reducible refine' nm_ix rfl ?na ?nb ?nc ?nd); (case na => (repeat (first | with_reducible exact ix0 | with_reducible apply ixS))); (case nb => rfl); (case nc => rfl)))
local macro_rules | `(tactic| k_call_by "v" 0) => `(tactic| first
  | with_reducible refine w_cons ?_
  | with_reducible refine w_nil ?_
  | with_reducible refine w_ret ?_
  | with_reducible refine w_if ?_
  | with_reducible refine ea_cons ?_ (by with_unfolding_all rfl)
  | with_reducible refine ea_nil ?_
  | k_call_by "n" 0
  | with_reducible refine ev_int ?_ | with_reducible refine ev_bl ?_ | with_reducible refine ev_non ?_ | with_reducible refine ev_str ?_
  | with_reducible refine ev_add ?_
  | with_reducible refine ev_sub ?_
  | with_reducible refine ev_mul ?_
  | with_reducible refine ev_fdiv ?_
  | with_reducible refine ev_mod ?_
  | with_reducible refine ev_neg ?_
  | with_reducible refine ev_tup ?_
  | with_reducible refine et_lt ?_ | with_reducible refine et_le ?_ | with_reducible refine et_gt ?_ | with_reducible refine et_ge ?_
  | with_reducible refine ev_lt ?_ | with_reducible refine ev_le ?_ | with_reducible refine ev_gt ?_ | with_reducible refine ev_ge ?_
  | with_reducible refine et_ne ?_ | with_reducible refine et_eq ?_ | with_reducible refine ev_ne ?_ | with_reducible refine ev_eq ?_
  | with_reducible refine et_isN ?_ | with_reducible refine et_notN ?_
  | with_reducible refine et_not ?_
  | with_reducible refine et_and ?_ | with_reducible refine et_or ?_
  | with_reducible refine ew_and ?_ | with_reducible refine ew_or ?_
  | with_reducible refine ew_and1 ?_ | with_reducible refine ew_or1 ?_
  | with_reducible refine ev_and ?_ | with_reducible refine ev_or ?_ | with_reducible refine ev_one ?_ | with_reducible refine ev_not ?_
  | with_reducible refine ev_ifExp ?_
  | with_reducible refine et_call ?_
  | with_reducible refine ev_ixT ?_ (by with_unfolding_all exact fun _ _ => rfl)
  | with_reducible refine ⟨_, _, rfl, rfl, ?_⟩)
local macro_rules | `(tactic| k_call_by "w" 0) => `(tactic| repeat (first | k_call_by "v" 0 | refine ⟨Nat.le_of_ble_eq_true rfl, ?_⟩ | refine ⟨fun z => absurd z (by decide), fun _ => ?_⟩ | refine ⟨fun _ => ?_, fun z => absurd z (by decide)⟩ | refine ⟨_, rfl, ?_⟩ | refine ⟨_, _, _, rfl, rfl, rfl, ?_⟩ | refine ⟨_, _, rfl, ?_⟩ | refine ⟨_, _, _, rfl, ?_⟩))
local macro_rules | `(tactic| k_call_by "no" 0) => `(tactic| (intro z; first | (exact absurd z (by decide)) | (simp at z; done)))
local macro_rules | `(tactic| k_call_by "F" 0) => `(tactic| (refine ⟨?no, fun _ => ?_⟩; (case no => k_call_by "no" 0)))
local macro_rules | `(tactic| k_call_by "T" 0) => `(tactic| (refine ⟨fun _ => ?_, ?no⟩; (case no => k_call_by "no" 0)))
local macro_rules | `(tactic| k_call_by "s" 0) => `(tactic| (refine w_cons ?_; k_call_by "w" 0))

def Fq (q : Rat) : D := .tup [.int q.num, .int (q.den : Int)]
abbrev Bq := Q.B 4000
section
variable {P : Program} {w : World} {K : PySem.W.Frag} {mg : Str → Option Value} {base : Heap}
/-! ### whole_number -/
def sp_whole : SpecD := fun ds R => ∃ i : Int, ds = [.int i] ∧ R (.bl true)
theorem kn_whole_number_aid_exact (T : Tx K mg) : Kn P w K mg base CX0 "whole_number_aid_exact" 1 (spP K sp_whole) :=
  T.d_whole_number_aid_exact.kn (ps := ["value"]) (fun _ _ _ _ _ _ us hl => match us, hl with | [_], _ => rfl) fun f fd F => def_ok F sc_whole_number_aid_exact (fun ds R h => by obtain ⟨i, rfl, _⟩ := h; rfl) fun X hx sc G H ds R h => by
    obtain ⟨i, rfl, hR⟩ := h
    refine w_cons (w_ret (ev_and ?_))
    refine w_isi 0 T.b_isinstance rfl ?_
    k_call_by "v" 0
    refine w_ty 1 T.b_int PyProof.Rows.boot_int nn_int rfl ?_
    refine ⟨_, _, _, true, rfl, .ty "int", .int i, kit_int_int, _, rfl, fun _ => ?_, fun z => nomatch z⟩
    refine ev_one (ev_not ?_)
    refine w_isi 0 T.b_isinstance rfl ?_
    k_call_by "v" 0
    refine w_ty 2 T.b_bool bt_bool nn_bool rfl ?_
    exact ⟨_, _, _, false, rfl, .ty "bool", .int i, kit_int_bool, _, rfl, hR⟩
theorem gcd_step {a b : Int} (ha : 0 ≤ a) (hb : 0 < b) : Int.gcd b (a % b) = Int.gcd a b := by
  rw [Int.emod_def, Int.gcd_comm b, Int.sub_eq_add_neg, ← Int.mul_neg, Int.gcd_add_mul_left_left]
def sp_common_divisor : SpecD := fun ds R => ∃ i j : Int, ds = [.int i, .int j] ∧ R (.int (Int.gcd i j))
theorem kn_common_divisor (T : Tx K mg) : Kn P w K mg base CX0 "common_divisor" 1 (spP K sp_common_divisor) :=
  T.d_common_divisor.kn (ps := ["left", "right"]) (fun _ _ _ _ _ _ us hl => match us, hl with | [_, _], _ => rfl) fun f fd F => def_ok F sc_common_divisor (fun ds R h => by obtain ⟨i, j, rfl, _⟩ := h; rfl) fun X hx sc G H ds R h => by
    obtain ⟨i, j, rfl, hR⟩ := h
    refine w_cons (w_asg 0 rfl rfl rfl (w_abs 0 T.b_abs rfl ?_))
    k_call_by "v" 0
    refine ⟨_, rfl, ?_⟩
    refine w_cons (w_asg 1 rfl rfl rfl (w_abs 0 T.b_abs rfl ?_))
    k_call_by "v" 0
    refine ⟨_, rfl, ?_⟩
    k_call_by "v" 0
    refine w_while (fun m ω δ => ∃ a b : Int, 0 ≤ a ∧ 0 ≤ b ∧ δ = [some (.int a), some (.int b)] ∧ Int.gcd a b = Int.gcd i j ∧ m = b.toNat ∧ ω = []) (j.natAbs : Nat) ⟨i.natAbs, j.natAbs, by omega, by omega, rfl, by simp [Int.gcd], by omega, rfl⟩ ?_
    rintro m ω δ ⟨a, b, ha, hb, rfl, hg, rfl, rfl⟩
    refine et_ne ?_
    k_call_by "v" 0
    k_call_by "v" 0
    refine ⟨_, _, rfl, rfl, rfl, fun hp => ?_, fun hp => ?_⟩
    · have hb0 : b ≠ 0 := fun z => by subst z; simp at hp
      k_call_by "v" 0
      refine w_par 0 1 rfl rfl rfl (by decide) (by rw [sc]; rfl) (by rw [sc]; rfl) ?_ rfl rfl rfl rfl
      k_call_by "w" 0
      refine ⟨by omega, ?_⟩
      k_call_by "v" 0
      have h1 := Int.emod_nonneg a hb0
      have h2 := Int.emod_lt_of_pos a (show 0 < b by omega)
      exact ⟨_, by omega, b, a % b, hb, h1, rfl, (gcd_step ha (by omega)).trans hg, rfl, rfl⟩
    · have hb0 : b = 0 := by simpa using hp
      subst hb0
      k_call_by "w" 0
      have e : a = (Int.gcd i j : Int) := by rw [← hg]; simp; omega
      rw [e]
      exact hR
/-! ### lowest: a fraction in lowest terms -/
def CDivX (_ j : Int) : Prop := j ≠ 0 ∧ j.natAbs.log2 < 9000
theorem op_fdivX {X : Cx} : OpR X (binaryOp .FloorDiv) (rI CDivX fun i j => .int (i.fdiv j)) := opI fun _ _ _ _ _ _ _ hc q => floordiv_int hc.1 q (.inl (PyProof.noPylong_of_log2 hc.2))
theorem ev_fdivX {X : Cx} {E : Ent} {ω : List Cell} {δ : DE} {R : D → Prop} {a b : Expr} {pos : Pos} (h : EV X E ω δ a fun x => EV X E ω δ b fun y => ∃ i j : Int, x = .int i ∧ y = .int j ∧ (j ≠ 0 ∧ j.natAbs < 2 ^ 8999) ∧ R (.int (i.fdiv j))) : EV X E ω δ (.BinOp a .FloorDiv b pos) R :=
  ev_bin op_fdivX (h.imp fun x q => q.imp fun y ⟨i, j, e1, e2, ⟨h1, h2⟩, hr⟩ => ⟨i, j, e1, e2, ⟨h1, Nat.lt_trans (PySem.Flt.log2_lt_of (by omega) h2) (by omega)⟩, hr⟩)
theorem gcd_bd {n d : Int} {k : Nat} (h : d ≠ 0) (hd : d.natAbs < 2 ^ k) : (Int.gcd n d : Int).natAbs < 2 ^ k ∧ (0 : Int) < (Int.gcd n d : Int) := by
  have h1 : Int.gcd n d ≤ d.natAbs := Nat.gcd_le_right _ (by omega)
  have h2 := Int.gcd_pos_of_ne_zero_right n h
  refine ⟨?_, by omega⟩
  have : (Int.gcd n d : Int).natAbs = Int.gcd n d := by omega
  omega
def sp_lowest : SpecD := fun ds R => ∃ n d : Int, ds = [.int n, .int d] ∧ d ≠ 0 ∧ d.natAbs < 2 ^ 8999 ∧ R (Fq (Rat.divInt n d))
theorem kn_lowest (T : Tx K mg) : Kn P w K mg base CX0 "lowest" 2 (spP K sp_lowest) :=
  T.d_lowest.kn (ps := ["numerator", "denominator"]) (fun _ _ _ _ _ _ us hl => match us, hl with | [_, _], _ => rfl) fun f fd F => def_ok F sc_lowest (fun ds R h => by obtain ⟨i, j, rfl, _⟩ := h; rfl) fun X hx sc G H ds R h => by
    obtain ⟨n, d, rfl, hd, hz, hR⟩ := h
    obtain ⟨g1, g2⟩ := gcd_bd (n := n) hd hz
    refine w_cons (w_asg 2 rfl rfl rfl (w_call 0 (kn_common_divisor T) rfl rfl ?_))
    k_call_by "w" 0
    refine ⟨fun hp => ?_, fun hp => ?_⟩
    · have hd' : d < 0 := of_decide_eq_true hp
      refine w_cons (w_asg 2 rfl rfl rfl (ev_neg ?_))
      k_call_by "n" 0
      refine ⟨_, rfl, w_nil (w_cons (w_ret (ev_tup (ea_cons (ev_fdivX ?_)))))⟩
      k_call_by "n" 0
      k_call_by "n" 0
      refine ⟨_, _, rfl, rfl, ⟨by omega, by rw [Int.natAbs_neg]; exact g1⟩, ea_cons (ev_fdivX ?_)⟩
      k_call_by "n" 0
      k_call_by "n" 0
      refine ⟨_, _, rfl, rfl, ⟨by omega, by rw [Int.natAbs_neg]; exact g1⟩, ea_nil ⟨Nat.le_of_ble_eq_true rfl, ?_⟩⟩
      obtain ⟨e1, e2⟩ := Q.low_neg n hd'
      unfold Fq at hR
      rw [e1, e2] at hR
      exact hR
    · have hd' : 0 < d := by have := of_decide_eq_false hp; omega
      k_call_by "w" 0
      refine ⟨⟨by omega, g1⟩, ?_⟩
      k_call_by "w" 0
      refine ⟨⟨by omega, g1⟩, ?_⟩
      k_call_by "w" 0
      obtain ⟨e1, e2⟩ := Q.low_pos n hd'
      unfold Fq at hR
      rw [e1, e2] at hR
      exact hR
end
end Wh

set_option Elab.async false
set_option linter.all false
set_option maxRecDepth 100000
set_option maxHeartbeats 4000000
/-! The arithmetic of the program. -/
namespace Wh
open PySem L2 PyProof.Rows DL
local macro_rules | `(tactic| k_call_by "n" 0) => `(tactic| ((with_reducible refine' nm_ix rfl ?na ?nb ?nc ?nd); (case na => (repeat (first | with_reducible exact ix0 | with_reducible apply ixS))); (case nb => rfl); (case nc => rfl)))
local macro_rules | `(tactic| k_call_by "v" 0) => `(tactic| first
  | with_reducible refine w_cons ?_
  | with_reducible refine w_nil ?_
  | with_reducible refine w_ret ?_
  | with_reducible refine w_if ?_
  | with_reducible refine ea_cons ?_ (by with_unfolding_all rfl)
  | with_reducible refine ea_nil ?_
  | k_call_by "n" 0
  | with_reducible refine ev_int ?_ | with_reducible refine ev_bl ?_ | with_reducible refine ev_non ?_ | with_reducible refine ev_str ?_
  | with_reducible refine ev_add ?_
  | with_reducible refine ev_sub ?_
  | with_reducible refine ev_mul ?_
  | with_reducible refine ev_fdiv ?_
  | with_reducible refine ev_mod ?_
  | with_reducible refine ev_neg ?_
  | with_reducible refine ev_tup ?_
  | with_reducible refine et_lt ?_ | with_reducible refine et_le ?_ | with_reducible refine et_gt ?_ | with_reducible refine et_ge ?_
  | with_reducible refine ev_lt ?_ | with_reducible refine ev_le ?_ | with_reducible refine ev_gt ?_ | with_reducible refine ev_ge ?_
  | with_reducible refine et_ne ?_ | with_reducible refine et_eq ?_ | with_reducible refine ev_ne ?_ | with_reducible refine ev_eq ?_
  | with_reducible refine et_isN ?_ | with_reducible refine et_notN ?_
  | with_reducible refine et_not ?_
  | with_reducible refine et_and ?_ | with_reducible refine et_or ?_
  | with_reducible refine ew_and ?_ | with_reducible refine ew_or ?_
  | with_reducible refine ew_and1 ?_ | with_reducible refine ew_or1 ?_
  | with_reducible refine ev_and ?_ | with_reducible refine ev_or ?_ | with_reducible refine ev_one ?_ | with_reducible refine ev_not ?_
  | with_reducible refine ev_ifExp ?_
  | with_reducible refine et_call ?_
  | with_reducible refine ev_ixT ?_ (by with_unfolding_all exact fun _ _ => rfl)
  | with_reducible refine ⟨_, _, rfl, rfl, ?_⟩)
local macro_rules | `(tactic| k_call_by "w" 0) => `(tactic| repeat (first | k_call_by "v" 0 | refine ⟨Nat.le_of_ble_eq_true rfl, ?_⟩ | refine ⟨fun z => absurd z (by decide), fun _ => ?_⟩ | refine ⟨fun _ => ?_, fun z => absurd z (by decide)⟩ | refine ⟨_, rfl, ?_⟩ | refine ⟨_, _, _, rfl, rfl, rfl, ?_⟩ | refine ⟨_, _, rfl, ?_⟩ | refine ⟨_, _, _, rfl, ?_⟩ | refine ⟨_, _, _, _, rfl, ?_⟩))
local macro_rules | `(tactic| k_call_by "no" 0) => `(tactic| (intro z; first | (exact absurd z (by decide)) | (exact (nomatch z)) | (simp at z; done)))
local macro_rules | `(tactic| k_call_by "F" 0) => `(tactic| (refine ⟨?no, fun _ => ?_⟩; (case no => k_call_by "no" 0)))
local macro_rules | `(tactic| k_call_by "T" 0) => `(tactic| (refine ⟨fun _ => ?_, ?no⟩; (case no => k_call_by "no" 0)))
local macro_rules | `(tactic| k_call_by "s" 0) => `(tactic| (refine w_cons ?_; k_call_by "w" 0))
section
variable {P : Program} {w : World} {K : PySem.W.Frag} {mg : Str → Option Value} {base : Heap}
theorem lt400 {x : Nat} {n : Nat} (h : x < 2 ^ n) (hn : n ≤ 400000) : x < 2 ^ 400000 := Nat.lt_of_lt_of_le h (Nat.pow_le_pow_right (by omega) hn)
theorem mulOk {i j : Int} {m n : Nat} (h1 : i.natAbs < 2 ^ m) (h2 : j.natAbs < 2 ^ n) (hm : m ≤ 400000 := by decide) (hn : n ≤ 400000 := by decide) : MulOk i j := .inl ⟨lt400 h1 hm, lt400 h2 hn⟩
theorem dpos (q : Rat) : (0 : Int) < (q.den : Int) := Q.den_pos q
theorem dabs {q : Rat} {n : Nat} (h : Q.B n q) : ((q.den : Int)).natAbs < 2 ^ n := h.2
theorem mul_ne {a b : Rat} : (a.den : Int) * (b.den : Int) ≠ 0 := Int.mul_ne_zero (Q.den_ne a) (Q.den_ne b)
theorem mul_bd {i j : Int} {m n : Nat} (h1 : i.natAbs < 2 ^ m) (h2 : j.natAbs < 2 ^ n) (k : Nat) (h : m + n ≤ k := by decide) : (i * j).natAbs < 2 ^ k := by
  rw [Int.natAbs_mul]
  exact Nat.lt_of_lt_of_le (Q.mul_lt h1 h2) (Nat.pow_le_pow_right (by omega) h)
/-! ### precedes, is_earlier -/
def sp_precedes : SpecD := fun ds R => ∃ p q : Rat, ds = [Fq p, Fq q] ∧ Bq p ∧ Bq q ∧ R (.bl (decide (p < q)))
theorem dec_lt (p q : Rat) : decide (p.num * (q.den : Int) < q.num * (p.den : Int)) = decide (p < q) := decide_eq_decide.mpr (Q.lt p q)
theorem kn_precedes (T : Tx K mg) : Kn P w K mg base CX0 "precedes" 1 (spP K sp_precedes) :=
  T.d_precedes.kn (ps := ["left", "right"]) (fun _ _ _ _ _ _ us hl => match us, hl with | [_, _], _ => rfl) fun f fd F => def_ok F sc_precedes (fun ds R h => by obtain ⟨_, _, rfl, _⟩ := h; rfl) fun X hx sc G H ds R h => by
    obtain ⟨p, q, rfl, hp, hq, hR⟩ := h
    k_call_by "s" 0
    refine ⟨mulOk hp.1 (dabs hq), ?_⟩
    k_call_by "w" 0
    refine ⟨mulOk hq.1 (dabs hp), ?_⟩
    k_call_by "w" 0
    rw [dec_lt]
    exact hR
abbrev sp_is_earlier := sp_precedes
theorem kn_is_earlier (T : Tx K mg) : Kn P w K mg base CX0 "is_earlier" 1 (spP K sp_is_earlier) :=
  T.d_is_earlier.kn (ps := ["left", "right"]) (fun _ _ _ _ _ _ us hl => match us, hl with | [_, _], _ => rfl) fun f fd F => def_ok F sc_is_earlier (fun ds R h => by obtain ⟨_, _, rfl, _⟩ := h; rfl) fun X hx sc G H ds R h => by
    obtain ⟨p, q, rfl, hp, hq, hR⟩ := h
    k_call_by "s" 0
    refine ⟨mulOk hp.1 (dabs hq), ?_⟩
    k_call_by "w" 0
    refine ⟨mulOk hq.1 (dabs hp), ?_⟩
    k_call_by "w" 0
    rw [dec_lt]
    exact hR
/-! ### is_fraction of a fraction -/
def sp_is_fraction : SpecD := fun ds R => ∃ q : Rat, ds = [Fq q] ∧ R (.bl true)
theorem kn_is_fraction (T : Tx K mg) : Kn P w K mg base CX0 "is_fraction" 2 (spP K sp_is_fraction) :=
  T.d_is_fraction.kn (ps := ["value"]) (fun _ _ _ _ _ _ us hl => match us, hl with | [_], _ => rfl) fun f fd F => def_ok F sc_is_fraction (fun ds R h => by obtain ⟨_, rfl, _⟩ := h; rfl) fun X hx sc G H ds R h => by
    obtain ⟨q, rfl, hR⟩ := h
    k_call_by "s" 0
    refine w_isi 0 T.b_isinstance rfl ?_
    k_call_by "n" 0
    refine w_ty 1 T.b_tuple PyProof.Rows.boot_tuple nn_tuple rfl ?_
    refine ⟨_, _, _, true, rfl, .ty "tuple", .tup _, kit_tup_tup, _, rfl, ?_⟩
    k_call_by "w" 0
    refine w_len 2 T.b_len rfl ?_
    k_call_by "w" 0
    refine ⟨rfl, ?_⟩
    k_call_by "F" 0
    k_call_by "w" 0
    refine w_unpack2 1 2 rfl rfl rfl rfl rfl ?_
    k_call_by "w" 0
    refine w_call 3 (kn_whole_number_aid_exact T) rfl rfl ?_
    k_call_by "w" 0
    refine w_call 3 (kn_whole_number_aid_exact T) rfl rfl ?_
    k_call_by "w" 0
    refine ⟨fun _ => ?_, fun z => absurd z (by have := dpos q; simp; omega)⟩
    k_call_by "w" 0
    refine w_call 4 (kn_common_divisor T) rfl rfl ?_
    k_call_by "w" 0
    refine ⟨rfl, ?_⟩
    have e : Int.gcd q.num (q.den : Int) = 1 := Q.cop q
    rw [e]
    exact hR
/-! ### the checks -/
def sp_check_pair : SpecD := fun ds R => ∃ p q : Rat, ds = [Fq p, Fq q] ∧ R .non
theorem kn_check_pair (T : Tx K mg) : Kn P w K mg base CX0 "check_pair" 3 (spP K sp_check_pair) :=
  T.d_check_pair.kn (ps := ["left", "right"]) (fun _ _ _ _ _ _ us hl => match us, hl with | [_, _], _ => rfl) fun f fd F => def_ok F sc_check_pair (fun ds R h => by obtain ⟨_, _, rfl, _⟩ := h; rfl) fun X hx sc G H ds R h => by
    obtain ⟨p, q, rfl, hR⟩ := h
    k_call_by "s" 0
    refine w_call 0 (kn_is_fraction T) rfl rfl ?_
    k_call_by "w" 0
    refine w_call 0 (kn_is_fraction T) rfl rfl ?_
    k_call_by "w" 0
    exact hR
def sp_check_value : SpecD := fun ds R => ∃ p : Rat, ds = [Fq p] ∧ R .non
theorem kn_check_value (T : Tx K mg) : Kn P w K mg base CX0 "check_value" 3 (spP K sp_check_value) :=
  T.d_check_value.kn (ps := ["value"]) (fun _ _ _ _ _ _ us hl => match us, hl with | [_], _ => rfl) fun f fd F => def_ok F sc_check_value (fun ds R h => by obtain ⟨_, rfl, _⟩ := h; rfl) fun X hx sc G H ds R h => by
    obtain ⟨p, rfl, hR⟩ := h
    k_call_by "s" 0
    refine w_call 0 (kn_is_fraction T) rfl rfl ?_
    k_call_by "w" 0
    exact hR
/-! ### plus, minus, times, over -/
def sp_plus : SpecD := fun ds R => ∃ p q : Rat, ds = [Fq p, Fq q] ∧ Bq p ∧ Bq q ∧ R (Fq (p + q))
theorem kn_plus (T : Tx K mg) : Kn P w K mg base CX0 "plus" 4 (spP K sp_plus) :=
  T.d_plus.kn (ps := ["left", "right"]) (fun _ _ _ _ _ _ us hl => match us, hl with | [_, _], _ => rfl) fun f fd F => def_ok F sc_plus (fun ds R h => by obtain ⟨_, _, rfl, _⟩ := h; rfl) fun X hx sc G H ds R h => by
    obtain ⟨p, q, rfl, hp, hq, hR⟩ := h
    refine w_cons (w_expr (w_call 0 (kn_check_pair T) rfl rfl ?_))
    k_call_by "w" 0
    refine w_call 1 (kn_lowest T) rfl rfl ?_
    k_call_by "w" 0
    refine ⟨mulOk hp.1 (dabs hq), ?_⟩
    k_call_by "w" 0
    refine ⟨mulOk hq.1 (dabs hp), ?_⟩
    k_call_by "w" 0
    refine ⟨mulOk (dabs hp) (dabs hq), ?_⟩
    k_call_by "w" 0
    refine ⟨mul_ne, mul_bd (dabs hp) (dabs hq) _, ?_⟩
    rw [Q.add]
    exact hR
def sp_minus : SpecD := fun ds R => ∃ p q : Rat, ds = [Fq p, Fq q] ∧ Bq p ∧ Bq q ∧ R (Fq (p - q))
theorem kn_minus (T : Tx K mg) : Kn P w K mg base CX0 "minus" 4 (spP K sp_minus) :=
  T.d_minus.kn (ps := ["left", "right"]) (fun _ _ _ _ _ _ us hl => match us, hl with | [_, _], _ => rfl) fun f fd F => def_ok F sc_minus (fun ds R h => by obtain ⟨_, _, rfl, _⟩ := h; rfl) fun X hx sc G H ds R h => by
    obtain ⟨p, q, rfl, hp, hq, hR⟩ := h
    refine w_cons (w_expr (w_call 0 (kn_check_pair T) rfl rfl ?_))
    k_call_by "w" 0
    refine w_call 1 (kn_lowest T) rfl rfl ?_
    k_call_by "w" 0
    refine ⟨mulOk hp.1 (dabs hq), ?_⟩
    k_call_by "w" 0
    refine ⟨mulOk hq.1 (dabs hp), ?_⟩
    k_call_by "w" 0
    refine ⟨mulOk (dabs hp) (dabs hq), ?_⟩
    k_call_by "w" 0
    refine ⟨mul_ne, mul_bd (dabs hp) (dabs hq) _, ?_⟩
    rw [Q.sub]
    exact hR
def sp_times : SpecD := fun ds R => ∃ p q : Rat, ds = [Fq p, Fq q] ∧ Bq p ∧ Bq q ∧ R (Fq (p * q))
theorem kn_times (T : Tx K mg) : Kn P w K mg base CX0 "times" 4 (spP K sp_times) :=
  T.d_times.kn (ps := ["left", "right"]) (fun _ _ _ _ _ _ us hl => match us, hl with | [_, _], _ => rfl) fun f fd F => def_ok F sc_times (fun ds R h => by obtain ⟨_, _, rfl, _⟩ := h; rfl) fun X hx sc G H ds R h => by
    obtain ⟨p, q, rfl, hp, hq, hR⟩ := h
    refine w_cons (w_expr (w_call 0 (kn_check_pair T) rfl rfl ?_))
    k_call_by "w" 0
    refine w_call 1 (kn_lowest T) rfl rfl ?_
    k_call_by "w" 0
    refine ⟨mulOk hp.1 hq.1, ?_⟩
    k_call_by "w" 0
    refine ⟨mulOk (dabs hp) (dabs hq), ?_⟩
    k_call_by "w" 0
    refine ⟨mul_ne, mul_bd (dabs hp) (dabs hq) _, ?_⟩
    rw [Q.mul]
    exact hR
def sp_over : SpecD := fun ds R => ∃ p q : Rat, ds = [Fq p, Fq q] ∧ Bq p ∧ Bq q ∧ q ≠ 0 ∧ R (Fq (p / q))
theorem num_ne {q : Rat} (h : q ≠ 0) : q.num ≠ 0 := fun z => h (Q.num_zero.mp z)
theorem kn_over (T : Tx K mg) : Kn P w K mg base CX0 "over" 4 (spP K sp_over) :=
  T.d_over.kn (ps := ["left", "right"]) (fun _ _ _ _ _ _ us hl => match us, hl with | [_, _], _ => rfl) fun f fd F => def_ok F sc_over (fun ds R h => by obtain ⟨_, _, rfl, _⟩ := h; rfl) fun X hx sc G H ds R h => by
    obtain ⟨p, q, rfl, hp, hq, h0, hR⟩ := h
    refine w_cons (w_expr (w_call 0 (kn_check_pair T) rfl rfl ?_))
    k_call_by "w" 0
    refine ⟨rfl, fun z => absurd (of_decide_eq_true z) (fun e => num_ne h0 (V.int.inj e)), fun _ => ?_⟩
    k_call_by "w" 0
    refine w_call 2 (kn_lowest T) rfl rfl ?_
    k_call_by "w" 0
    refine ⟨mulOk hp.1 (dabs hq), ?_⟩
    k_call_by "w" 0
    refine ⟨mulOk (dabs hp) hq.1, ?_⟩
    k_call_by "w" 0
    refine ⟨Int.mul_ne_zero (Q.den_ne p) (num_ne h0), mul_bd (dabs hp) hq.1 _, ?_⟩
    rw [Q.div]
    exact hR
def sgn (p q : Rat) : Int := if p < q then -1 else if q < p then 1 else 0
def sp_compare : SpecD := fun ds R => ∃ p q : Rat, ds = [Fq p, Fq q] ∧ Bq p ∧ Bq q ∧ R (.int (sgn p q))
theorem kn_compare (T : Tx K mg) : Kn P w K mg base CX0 "compare" 4 (spP K sp_compare) :=
  T.d_compare.kn (ps := ["left", "right"]) (fun _ _ _ _ _ _ us hl => match us, hl with | [_, _], _ => rfl) fun f fd F => def_ok F sc_compare (fun ds R h => by obtain ⟨_, _, rfl, _⟩ := h; rfl) fun X hx sc G H ds R h => by
    obtain ⟨p, q, rfl, hp, hq, hR⟩ := h
    refine w_cons (w_expr (w_call 0 (kn_check_pair T) rfl rfl ?_))
    k_call_by "w" 0
    refine w_asg 2 rfl rfl rfl ?_
    k_call_by "w" 0
    refine ⟨mulOk hp.1 (dabs hq), ?_⟩
    k_call_by "w" 0
    refine ⟨mulOk hq.1 (dabs hp), ?_⟩
    k_call_by "w" 0
    have l1 := Q.lt p q
    have l2 := Q.lt q p
    unfold sgn at hR
    refine ⟨fun hc => ?_, fun hc => ?_⟩
    · have hlt : p < q := l1.mp (by have := of_decide_eq_true hc; omega)
      k_call_by "w" 0
      rw [if_pos hlt] at hR
      exact hR
    · have hlt : ¬ p < q := fun z => by have := l1.mpr z; have := of_decide_eq_false hc; omega
      rw [if_neg hlt] at hR
      k_call_by "w" 0
      refine ⟨fun hd => ?_, fun hd => ?_⟩
      · have hlt : q < p := l2.mp (by have := of_decide_eq_true hd; omega)
        rw [if_pos hlt] at hR
        k_call_by "w" 0
        exact hR
      · have hlt : ¬ q < p := fun z => by have := l2.mpr z; have := of_decide_eq_false hd; omega
        rw [if_neg hlt] at hR
        k_call_by "w" 0
        exact hR
def sp_floor_of : SpecD := fun ds R => ∃ p : Rat, ds = [Fq p] ∧ Bq p ∧ R (.int p.floor)
theorem den_small {q : Rat} (h : Bq q) : (0 : Int) < (q.den : Int) ∧ ((q.den : Int)).natAbs < 2 ^ 8999 := ⟨dpos q, Nat.lt_trans h.2 (Nat.pow_lt_pow_right (by omega) (by omega))⟩
theorem kn_floor_of (T : Tx K mg) : Kn P w K mg base CX0 "floor_of" 4 (spP K sp_floor_of) :=
  T.d_floor_of.kn (ps := ["value"]) (fun _ _ _ _ _ _ us hl => match us, hl with | [_], _ => rfl) fun f fd F => def_ok F sc_floor_of (fun ds R h => by obtain ⟨_, rfl, _⟩ := h; rfl) fun X hx sc G H ds R h => by
    obtain ⟨p, rfl, hp, hR⟩ := h
    refine w_cons (w_expr (w_call 0 (kn_check_value T) rfl rfl ?_))
    k_call_by "w" 0
    refine ⟨den_small hp, ?_⟩
    rw [← Rat.floor_def]
    exact hR
def sp_part_of : SpecD := fun ds R => ∃ p : Rat, ds = [Fq p] ∧ R (Fq (Q.part p))
theorem kn_part_of (T : Tx K mg) : Kn P w K mg base CX0 "part_of" 4 (spP K sp_part_of) :=
  T.d_part_of.kn (ps := ["value"]) (fun _ _ _ _ _ _ us hl => match us, hl with | [_], _ => rfl) fun f fd F => def_ok F sc_part_of (fun ds R h => by obtain ⟨_, rfl, _⟩ := h; rfl) fun X hx sc G H ds R h => by
    obtain ⟨p, rfl, hR⟩ := h
    refine w_cons (w_expr (w_call 0 (kn_check_value T) rfl rfl ?_))
    k_call_by "w" 0
    refine ⟨dpos p, ?_⟩
    k_call_by "w" 0
    unfold Fq at hR
    rw [(Q.part_nd p).1, (Q.part_nd p).2] at hR
    exact hR
def sp_offset_of : SpecD := fun ds R => ∃ p : Rat, ds = [Fq p] ∧ R (Fq (Q.offs p))
theorem kn_offset_of (T : Tx K mg) : Kn P w K mg base CX0 "offset_of" 4 (spP K sp_offset_of) :=
  T.d_offset_of.kn (ps := ["value"]) (fun _ _ _ _ _ _ us hl => match us, hl with | [_], _ => rfl) fun f fd F => def_ok F sc_offset_of (fun ds R h => by obtain ⟨_, rfl, _⟩ := h; rfl) fun X hx sc G H ds R h => by
    obtain ⟨p, rfl, hR⟩ := h
    refine w_cons (w_expr (w_call 0 (kn_check_value T) rfl rfl ?_))
    k_call_by "w" 0
    refine w_asg 1 rfl rfl rfl ?_
    k_call_by "w" 0
    refine ⟨dpos p, ?_⟩
    k_call_by "w" 0
    refine ⟨.inr (.inr (by decide)), ?_⟩
    k_call_by "w" 0
    unfold Fq at hR
    rw [(Q.offs_nd p).1, (Q.offs_nd p).2] at hR
    refine ⟨fun hc => ?_, fun hc => ?_⟩
    · rw [if_pos (of_decide_eq_true hc)] at hR
      refine w_cons (w_asg 1 rfl rfl rfl ?_)
      k_call_by "w" 0
      exact hR
    · rw [if_neg (of_decide_eq_false hc)] at hR
      k_call_by "w" 0
      exact hR
end
end Wh

set_option Elab.async false
set_option linter.all false
set_option maxRecDepth 100000
set_option maxHeartbeats 4000000
/-! What else the head must tell; the classes' data; the rest of the arithmetic. -/
namespace Wh
open PySem L2 PyProof.Rows DL
/-- a method where it stands -/
structure MA (K : PySem.W.Frag) (C m q : Str) (st : Stmt) : Prop where
  me : Meth K (He.ga K C) m (He.ma K (He.ga K C) m)
  fn : ∃ fd, FnP K m q st (He.ma K (He.ga K C) m) fd
theorem MA.kn {P : Program} {w : World} {K : PySem.W.Frag} {mg : Str → Option Value} {base : Heap} {CX : CXT} {C m q : Str} {st : Stmt} {ps : List Str} {k : Nat} {sp : Sp} (d : MA K C m q st) (c : CA K mg C)
    (hb : ∀ (kV doc pm : Value) (an : Option Addr) (cdv ct : Value) (us : List Value), us.length = ps.length → bindArgs (PySem.W.fnOf m q (defArgs st) (defBody st) (defScope st) .none kV doc pm an cdv ct) ⟨us, []⟩ = pure (ps.zip us))
    (h : ∀ (f : Addr) (fd : FuncData), FnP K m q st f fd → FnOk P w K mg base CX k f fd ps sp) : KnM P w K mg base CX (He.ga K C) m k sp := by
  obtain ⟨fd, F⟩ := d.fn
  exact ⟨_, fd, ps, c.i.cl, d.me, F.bindsN hb, h _ fd F⟩
structure Tc (K : PySem.W.Frag) (mg : Str → Option Value) : Prop extends Tx K mg where
  c_Cycle : CA K mg "Cycle"
  c_Span : CA K mg "Span"
  c_Shade : CA K mg "Shade"
  i_Span_init : ∃ fd, FnP K "__init__" "Span.__init__" s_Span_init (He.ma K (He.ga K "Span") "__init__") fd
  i_Shade_init : ∃ fd, FnP K "__init__" "Shade.__init__" s_Shade_init (He.ma K (He.ga K "Shade") "__init__") fd
  i_Cycle_init : ∃ dvs fd, dvs.length = 1 ∧ FunD K "__init__" "Cycle.__init__" (defArgs s_Cycle_init) (defBody s_Cycle_init) (defScope s_Cycle_init) dvs [] (He.ma K (He.ga K "Cycle") "__init__") fd
  m_Span_contains : MA K "Span" "__contains__" "Span.__contains__" s_Span_contains
  m_Cycle_turns : MA K "Cycle" "turns" "Cycle.turns" s_Cycle_turns
  m_Cycle_place : MA K "Cycle" "place" "Cycle.place" s_Cycle_place
  m_Shade_moment_of : MA K "Shade" "moment_of" "Shade.moment_of" s_Shade_moment_of
  m_Shade_offset : MA K "Shade" "offset" "Shade.offset" s_Shade_offset
  m_Shade_is_dark : MA K "Shade" "is_dark" "Shade.is_dark" s_Shade_is_dark
  m_Shade_number_from : MA K "Shade" "number_from" "Shade.number_from" s_Shade_number_from
  na_Span : ∀ f : Str, f ∈ (["first", "last", "length"] : List Str) → NoAttr K (He.ga K "Span") f
  na_Cycle : ∀ f : Str, f ∈ (["rate", "start", "period"] : List Str) → NoAttr K (He.ga K "Cycle") f
  na_Shade : ∀ f : Str, f ∈ (["light", "cover", "node", "width", "zero_moment", "interval", "gain", "zero_offset"] : List Str) → NoAttr K (He.ga K "Shade") f
  d_fraction : ∃ f dvs fd, mg "fraction" = some (.ref f) ∧ dvs.length = 1 ∧ FunD K "fraction" "fraction" (defArgs s_fraction) (defBody s_fraction) (defScope s_fraction) dvs [] f fd
  e_BadValue : EA1 K mg "BadValue" "what"
  e_TooMany : EA1 K mg "TooMany" "limit"
  i_BadValue_init : ∃ fd, FnP K "__init__" "BadValue.__init__" s_BadValue_init (He.ma K (He.ga K "BadValue") "__init__") fd
  i_TooMany_init : ∃ fd, FnP K "__init__" "TooMany.__init__" s_TooMany_init (He.ma K (He.ga K "TooMany") "__init__") fd
local macro_rules | `(tactic| k_call_by "n" 0) => `(tactic| ((with_reducible refine' nm_ix rfl ?na ?nb ?nc ?nd); (case na => (repeat (first | with_reducible exact ix0 | with_reducible apply ixS))); (case nb => rfl); (case nc => rfl)))
local macro_rules | `(tactic| k_call_by "v" 0) => `(tactic| first
  | with_reducible refine w_cons ?_
  | with_reducible refine w_nil ?_
  | with_reducible refine w_ret ?_
  | with_reducible refine w_if ?_
  | with_reducible refine ea_cons ?_ (by with_unfolding_all rfl)
  | with_reducible refine ea_nil ?_
  | k_call_by "n" 0
  | with_reducible refine ev_int ?_ | with_reducible refine ev_bl ?_ | with_reducible refine ev_non ?_ | with_reducible refine ev_str ?_
  | with_reducible refine ev_add ?_
  | with_reducible refine ev_sub ?_
  | with_reducible refine ev_mul ?_
  | with_reducible refine ev_fdiv ?_
  | with_reducible refine ev_mod ?_
  | with_reducible refine ev_neg ?_
  | with_reducible refine ev_tup ?_
  | with_reducible refine et_lt ?_ | with_reducible refine et_le ?_ | with_reducible refine et_gt ?_ | with_reducible refine et_ge ?_
  | with_reducible refine ev_lt ?_ | with_reducible refine ev_le ?_ | with_reducible refine ev_gt ?_ | with_reducible refine ev_ge ?_
  | with_reducible refine et_ne ?_ | with_reducible refine et_eq ?_ | with_reducible refine ev_ne ?_ | with_reducible refine ev_eq ?_
  | with_reducible refine et_isN ?_ | with_reducible refine et_notN ?_
  | with_reducible refine et_not ?_
  | with_reducible refine et_and ?_ | with_reducible refine et_or ?_
  | with_reducible refine ew_and ?_ | with_reducible refine ew_or ?_
  | with_reducible refine ew_and1 ?_ | with_reducible refine ew_or1 ?_
  | with_reducible refine ev_and ?_ | with_reducible refine ev_or ?_ | with_reducible refine ev_one ?_ | with_reducible refine ev_not ?_
  | with_reducible refine ev_ifExp ?_
  | with_reducible refine et_call ?_
  | with_reducible refine ev_ixT ?_ (by with_unfolding_all exact fun _ _ => rfl)
  | with_reducible refine ⟨_, _, rfl, rfl, ?_⟩)
local macro_rules | `(tactic| k_call_by "w" 0) => `(tactic| repeat (first | k_call_by "v" 0 | refine ⟨Nat.le_of_ble_eq_true rfl, ?_⟩ | refine ⟨fun z => absurd z (by decide), fun _ => ?_⟩ | refine ⟨fun _ => ?_, fun z => absurd z (by decide)⟩ | refine ⟨_, rfl, ?_⟩ | refine ⟨_, _, _, rfl, rfl, rfl, ?_⟩ | refine ⟨_, _, rfl, ?_⟩ | refine ⟨_, _, _, rfl, ?_⟩ | refine ⟨_, _, _, _, rfl, ?_⟩))
local macro_rules | `(tactic| k_call_by "no" 0) => `(tactic| (intro z; first | (exact absurd z (by decide)) | (exact (nomatch z)) | (simp at z; done)))
local macro_rules | `(tactic| k_call_by "F" 0) => `(tactic| (refine ⟨?no, fun _ => ?_⟩; (case no => k_call_by "no" 0)))
local macro_rules | `(tactic| k_call_by "T" 0) => `(tactic| (refine ⟨fun _ => ?_, ?no⟩; (case no => k_call_by "no" 0)))
local macro_rules | `(tactic| k_call_by "s" 0) => `(tactic| (refine w_cons ?_; k_call_by "w" 0))
section
variable {P : Program} {w : World} {K : PySem.W.Frag} {mg : Str → Option Value} {base : Heap}
theorem kne_BadValue (T : Tc K mg) : KnE P w K mg base "BadValue" (He.ga K "BadValue") "what" 1 := by
  obtain ⟨fd, F⟩ := T.i_BadValue_init
  exact ⟨_, fd, ["self", "what"], T.e_BadValue.g, T.e_BadValue.ox, T.e_BadValue.init, T.e_BadValue.ty, F.bindsN (ps := ["self", "what"]) (fun _ _ _ _ _ _ us hl => match us, hl with | [_, _], _ => rfl), def_okE T.e_BadValue.ox T.e_BadValue.no F sc_BadValue_init rfl rfl rfl rfl⟩
theorem kne_TooMany (T : Tc K mg) : KnE P w K mg base "TooMany" (He.ga K "TooMany") "limit" 1 := by
  obtain ⟨fd, F⟩ := T.i_TooMany_init
  exact ⟨_, fd, ["self", "limit"], T.e_TooMany.g, T.e_TooMany.ox, T.e_TooMany.init, T.e_TooMany.ty, F.bindsN (ps := ["self", "limit"]) (fun _ _ _ _ _ _ us hl => match us, hl with | [_, _], _ => rfl), def_okE T.e_TooMany.ox T.e_TooMany.no F sc_TooMany_init rfl rfl rfl rfl⟩
/-! ### fraction -/
def sp_fraction : SpecD := fun ds R => ∃ n d : Int, ds = [.int n, .int d] ∧ d ≠ 0 ∧ d.natAbs < 2 ^ 8999 ∧ R (Fq (Rat.divInt n d))
theorem kn_fraction (T : Tc K mg) : Kn P w K mg base CX0 "fraction" 3 (spP K sp_fraction) := by
  obtain ⟨f, dvs, fd, hm, hl, F⟩ := T.d_fraction
  refine ⟨f, fd, ["numerator", "denominator"], hm, F.kp, bindsD (ps := ["numerator", "denominator"]) F (fun z => by rw [z] at hl; cases hl) (fun Tt kV doc pm an cdv ct us its l1 l2 => ?_), def_ok F sc_fraction (fun ds R h => by obtain ⟨_, _, rfl, _⟩ := h; rfl) fun X hx sc G H ds R h => ?_⟩
  · match us, l1, its, l2.trans hl with
    | [_, _], _, [_], _ => exact ⟨_, rfl, rfl⟩
  · obtain ⟨n, d, rfl, hd, hb, hR⟩ := h
    k_call_by "s" 0
    refine w_call 0 (kn_whole_number_aid_exact T.toTx) rfl rfl ?_
    k_call_by "w" 0
    refine w_call 0 (kn_whole_number_aid_exact T.toTx) rfl rfl ?_
    k_call_by "w" 0
    refine ⟨rfl, fun z => absurd (of_decide_eq_true z) (fun e => hd (V.int.inj e)), fun _ => ?_⟩
    k_call_by "w" 0
    refine w_call 2 (kn_lowest T.toTx) rfl rfl ?_
    k_call_by "w" 0
    exact ⟨hd, hb, hR⟩
end
end Wh

set_option Elab.async false
set_option linter.all false
set_option maxRecDepth 100000
set_option maxHeartbeats 4000000
/-! The joint measure of one rate; meetings. -/
namespace Wh
open PySem L2 PyProof.Rows DL
local macro_rules | `(tactic| k_call_by "n" 0) => `(tactic| ((with_reducible refine' nm_ix rfl ?na ?nb ?nc ?nd); (case na => (repeat (first | with_reducible exact ix0 | with_reducible apply ixS))); (case nb => rfl); (case nc => rfl)))
local macro_rules | `(tactic| k_call_by "v" 0) => `(tactic| first
  | with_reducible refine w_cons ?_
  | with_reducible refine w_nil ?_
  | with_reducible refine w_ret ?_
  | with_reducible refine w_if ?_
  | with_reducible refine ea_cons ?_ (by with_unfolding_all rfl)
  | with_reducible refine ea_nil ?_
  | k_call_by "n" 0
  | with_reducible refine ev_int ?_ | with_reducible refine ev_bl ?_ | with_reducible refine ev_non ?_ | with_reducible refine ev_str ?_
  | with_reducible refine ev_add ?_
  | with_reducible refine ev_sub ?_
  | with_reducible refine ev_mul ?_
  | with_reducible refine ev_fdiv ?_
  | with_reducible refine ev_mod ?_
  | with_reducible refine ev_neg ?_
  | with_reducible refine ev_tup ?_
  | with_reducible refine et_lt ?_ | with_reducible refine et_le ?_ | with_reducible refine et_gt ?_ | with_reducible refine et_ge ?_
  | with_reducible refine ev_lt ?_ | with_reducible refine ev_le ?_ | with_reducible refine ev_gt ?_ | with_reducible refine ev_ge ?_
  | with_reducible refine et_ne ?_ | with_reducible refine et_eq ?_ | with_reducible refine ev_ne ?_ | with_reducible refine ev_eq ?_
  | with_reducible refine et_isN ?_ | with_reducible refine et_notN ?_
  | with_reducible refine et_not ?_
  | with_reducible refine et_and ?_ | with_reducible refine et_or ?_
  | with_reducible refine ew_and ?_ | with_reducible refine ew_or ?_
  | with_reducible refine ew_and1 ?_ | with_reducible refine ew_or1 ?_
  | with_reducible refine ev_and ?_ | with_reducible refine ev_or ?_ | with_reducible refine ev_one ?_ | with_reducible refine ev_not ?_
  | with_reducible refine ev_ifExp ?_
  | with_reducible refine et_call ?_
  | with_reducible refine ev_ixT ?_ (by with_unfolding_all exact fun _ _ => rfl)
  | with_reducible refine ⟨_, _, rfl, rfl, ?_⟩)
local macro_rules | `(tactic| k_call_by "w" 0) => `(tactic| repeat (first | k_call_by "v" 0 | refine ⟨Nat.le_of_ble_eq_true rfl, ?_⟩ | refine ⟨fun z => absurd z (by decide), fun _ => ?_⟩ | refine ⟨fun _ => ?_, fun z => absurd z (by decide)⟩ | refine ⟨_, rfl, ?_⟩ | refine ⟨_, _, _, rfl, rfl, rfl, ?_⟩ | refine ⟨_, _, rfl, ?_⟩ | refine ⟨_, _, _, rfl, ?_⟩ | refine ⟨_, _, _, _, rfl, ?_⟩))
local macro_rules | `(tactic| k_call_by "no" 0) => `(tactic| (intro z; first | (exact absurd z (by decide)) | (exact (nomatch z)) | (simp at z; done)))
local macro_rules | `(tactic| k_call_by "F" 0) => `(tactic| (refine ⟨?no, fun _ => ?_⟩; (case no => k_call_by "no" 0)))
local macro_rules | `(tactic| k_call_by "T" 0) => `(tactic| (refine ⟨fun _ => ?_, ?no⟩; (case no => k_call_by "no" 0)))
local macro_rules | `(tactic| k_call_by "s" 0) => `(tactic| (refine w_cons ?_; k_call_by "w" 0))
section
variable {P : Program} {w : World} {K : PySem.W.Frag} {mg : Str → Option Value} {base : Heap}
def sgi (j : Int) : Int := if j < 0 then -1 else 1
def sp_weighted_divisor : SpecD := fun ds R => ∃ j : Int, ds = [.int 0, .int j] ∧ j ≠ 0 ∧ j.natAbs < 2 ^ 8999 ∧ R (.tup [.int (j.natAbs : Int), .int 0, .int (sgi j)])
theorem kn_weighted_divisor (T : Tc K mg) : Kn P w K mg base CX0 "weighted_divisor" 1 (spP K sp_weighted_divisor) :=
  T.d_weighted_divisor.kn (ps := ["left", "right"]) (fun _ _ _ _ _ _ us hl => match us, hl with | [_, _], _ => rfl) fun f fd F => def_ok F sc_weighted_divisor (fun ds R h => by obtain ⟨_, rfl, _⟩ := h; rfl) fun X hx sc G H ds R h => by
    obtain ⟨j, rfl, hj, hb, hR⟩ := h
    refine w_cons (w_asg 2 rfl rfl rfl (ev_ifExp ?_))
    k_call_by "w" 0
    refine ⟨fun hc => ?_, fun hc => ?_⟩
    all_goals
      refine (show EV X _ _ _ _ _ from ?_)
      first
        | (have e : sgi j = -1 := by unfold sgi; rw [if_pos (of_decide_eq_true hc)])
        | (have e : sgi j = 1 := by unfold sgi; rw [if_neg (of_decide_eq_false hc)])
      rw [e] at hR
      k_call_by "w" 0
      refine w_par 3 4 rfl rfl rfl (by decide) (by rw [sc]; rfl) (by rw [sc]; rfl) ?_ rfl rfl rfl rfl
      k_call_by "n" 0
      refine w_abs 0 T.b_abs rfl ?_
      k_call_by "w" 0
      refine w_parC 5 6 rfl rfl rfl rfl rfl (by decide) (by rw [sc]; rfl) (by rw [sc]; rfl) ?_ rfl rfl rfl
      k_call_by "w" 0
      refine w_parC 7 8 rfl rfl rfl rfl rfl (by decide) (by rw [sc]; rfl) (by rw [sc]; rfl) ?_ rfl rfl rfl
      k_call_by "w" 0
      refine w_while (fun m ω δ => ω = [] ∧ ((m = 1 ∧ ∃ q, δ = [some (.int 0), some (.int j), some (.int (sgi j)), some (.int 0), some (.int (j.natAbs : Int)), some (.int 1), some (.int 0), some (.int 0), some (.int 1), q]) ∨
        (m = 0 ∧ ∃ q, δ = [some (.int 0), some (.int j), some (.int (sgi j)), some (.int (j.natAbs : Int)), some (.int 0), some (.int 0), some (.int 1), some (.int 1), some (.int 0), q]))) 1 ⟨rfl, .inl ⟨rfl, none, by rw [e]; rfl⟩⟩ ?_
      rintro m ω δ ⟨rfl, ⟨rfl, q, rfl⟩ | ⟨rfl, q, rfl⟩⟩
      · k_call_by "w" 0
        refine ⟨rfl, fun _ => ?_, fun z => absurd (of_decide_eq_true (by simpa using z)) (by omega)⟩
        refine w_cons (w_asg 9 rfl rfl rfl (ev_fdiv ?_))
        k_call_by "n" 0
        k_call_by "n" 0
        refine ⟨_, _, rfl, rfl, ⟨by omega, by rw [Int.natAbs_natCast]; exact hb⟩, ?_⟩
        rw [Int.zero_ediv]
        k_call_by "v" 0
        refine w_par 3 4 rfl rfl rfl (by decide) (by rw [sc]; rfl) (by rw [sc]; rfl) ?_ rfl rfl rfl rfl
        k_call_by "w" 0
        refine ⟨.inr (.inr (by decide)), ?_⟩
        k_call_by "w" 0
        refine w_par 5 6 rfl rfl rfl (by decide) (by rw [sc]; rfl) (by rw [sc]; rfl) ?_ rfl rfl rfl rfl
        k_call_by "w" 0
        refine ⟨.inr (.inr (by decide)), ?_⟩
        k_call_by "w" 0
        refine w_par 7 8 rfl rfl rfl (by decide) (by rw [sc]; rfl) (by rw [sc]; rfl) ?_ rfl rfl rfl rfl
        k_call_by "w" 0
        refine ⟨.inr (.inr (by decide)), ?_⟩
        exact ⟨_, _, rfl, rfl, w_nil ⟨0, by decide, rfl, .inr ⟨rfl, some (.int 0), by simp⟩⟩⟩
      · k_call_by "w" 0
        refine ⟨rfl, fun z => absurd z (by decide), fun _ => ?_⟩
        k_call_by "w" 0
        refine ⟨.inr (.inl (by decide)), ?_⟩
        k_call_by "w" 0
        rw [Int.mul_one, e]
        exact hR
end
end Wh

set_option Elab.async false
set_option linter.all false
set_option maxRecDepth 100000
set_option maxHeartbeats 4000000
/-! The joint measure of one rate. -/
namespace Wh
open PySem L2 PyProof.Rows DL
local macro_rules | `(tactic| k_call_by "n" 0) => `(tactic| ((with_reducible refine' nm_ix rfl ?na ?nb ?nc ?nd); (case na => (repeat (first | with_reducible exact ix0 | with_reducible apply ixS))); (case nb => rfl); (case nc => rfl)))
local macro_rules | `(tactic| k_call_by "v" 0) => `(tactic| first
  | with_reducible refine w_cons ?_
  | with_reducible refine w_nil ?_
  | with_reducible refine w_ret ?_
  | with_reducible refine w_if ?_
  | with_reducible refine ea_cons ?_ (by with_unfolding_all rfl)
  | with_reducible refine ea_nil ?_
  | k_call_by "n" 0
  | with_reducible refine ev_int ?_ | with_reducible refine ev_bl ?_ | with_reducible refine ev_non ?_ | with_reducible refine ev_str ?_
  | with_reducible refine ev_add ?_
  | with_reducible refine ev_sub ?_
  | with_reducible refine ev_mul ?_
  | with_reducible refine ev_fdiv ?_
  | with_reducible refine ev_mod ?_
  | with_reducible refine ev_neg ?_
  | with_reducible refine ev_tup ?_
  | with_reducible refine et_lt ?_ | with_reducible refine et_le ?_ | with_reducible refine et_gt ?_ | with_reducible refine et_ge ?_
  | with_reducible refine ev_lt ?_ | with_reducible refine ev_le ?_ | with_reducible refine ev_gt ?_ | with_reducible refine ev_ge ?_
  | with_reducible refine et_ne ?_ | with_reducible refine et_eq ?_ | with_reducible refine ev_ne ?_ | with_reducible refine ev_eq ?_
  | with_reducible refine et_isN ?_ | with_reducible refine et_notN ?_
  | with_reducible refine et_not ?_
  | with_reducible refine et_and ?_ | with_reducible refine et_or ?_
  | with_reducible refine ew_and ?_ | with_reducible refine ew_or ?_
  | with_reducible refine ew_and1 ?_ | with_reducible refine ew_or1 ?_
  | with_reducible refine ev_and ?_ | with_reducible refine ev_or ?_ | with_reducible refine ev_one ?_ | with_reducible refine ev_not ?_
  | with_reducible refine ev_ifExp ?_
  | with_reducible refine et_call ?_
  | with_reducible refine ev_ixT ?_ (by with_unfolding_all exact fun _ _ => rfl)
  | with_reducible refine ⟨_, _, rfl, rfl, ?_⟩)
local macro_rules | `(tactic| k_call_by "w" 0) => `(tactic| repeat (first | k_call_by "v" 0 | refine ⟨Nat.le_of_ble_eq_true rfl, ?_⟩ | refine ⟨fun z => absurd z (by decide), fun _ => ?_⟩ | refine ⟨fun _ => ?_, fun z => absurd z (by decide)⟩ | refine ⟨_, rfl, ?_⟩ | refine ⟨_, _, _, rfl, rfl, rfl, ?_⟩ | refine ⟨_, _, rfl, ?_⟩ | refine ⟨_, _, _, rfl, ?_⟩ | refine ⟨_, _, _, _, rfl, ?_⟩))
local macro_rules | `(tactic| k_call_by "no" 0) => `(tactic| (intro z; first | (exact absurd z (by decide)) | (exact (nomatch z)) | (simp at z; done)))
local macro_rules | `(tactic| k_call_by "F" 0) => `(tactic| (refine ⟨?no, fun _ => ?_⟩; (case no => k_call_by "no" 0)))
local macro_rules | `(tactic| k_call_by "T" 0) => `(tactic| (refine ⟨fun _ => ?_, ?no⟩; (case no => k_call_by "no" 0)))
local macro_rules | `(tactic| k_call_by "s" 0) => `(tactic| (refine w_cons ?_; k_call_by "w" 0))
section
variable {P : Program} {w : World} {K : PySem.W.Frag} {mg : Str → Option Value} {base : Heap}
theorem Fq0 : Fq 0 = .tup [.int 0, .int 1] := rfl
theorem Fq1 : Fq 1 = .tup [.int 1, .int 1] := rfl
def sp_joint_measure : SpecD := fun ds R => ∃ q : Rat, ds = [.tup [.int 0, .int 1], Fq q] ∧ q ≠ 0 ∧ Bq q ∧ R (.tup [Fq (Q.ab q), .int 0, .int (Q.sg q)])
theorem sgi_num (q : Rat) : sgi q.num = Q.sg q := by
  unfold sgi Q.sg
  by_cases h : q < 0
  · rw [if_pos h, if_pos (Q.num_neg.mpr h)]
  · rw [if_neg h, if_neg fun z => h (Q.num_neg.mp z)]
theorem ab_div (q : Rat) : Rat.divInt ((q.num.natAbs : Int)) (q.den : Int) = Q.ab q := by
  obtain ⟨e1, e2⟩ := Q.ab_nd q
  rw [← e1, ← e2]
  exact Q.self _
theorem kn_joint_measure (T : Tc K mg) : Kn P w K mg base CX0 "joint_measure" 3 (spP K sp_joint_measure) :=
  T.d_joint_measure.kn (ps := ["left", "right"]) (fun _ _ _ _ _ _ us hl => match us, hl with | [_, _], _ => rfl) fun f fd F => def_ok F sc_joint_measure (fun ds R h => by obtain ⟨_, rfl, _⟩ := h; rfl) fun X hx sc G H ds R h => by
    obtain ⟨q, rfl, h0, hb, hR⟩ := h
    have hn : q.num ≠ 0 := fun z => h0 (Q.num_zero.mp z)
    have hs := den_small hb
    refine w_cons (w_asg 2 rfl rfl rfl (ev_mul (ev_fdiv ?_)))
    k_call_by "w" 0
    refine w_call 0 (kn_common_divisor T.toTx) rfl rfl ?_
    k_call_by "w" 0
    have e1 : Int.gcd 1 (q.den : Int) = 1 := by simp
    rw [e1]
    refine ⟨by decide, ?_⟩
    k_call_by "w" 0
    refine ⟨.inr (.inr (by decide)), ?_⟩
    have e2 : (1 : Int) / ((1 : Nat) : Int) * (q.den : Int) = (q.den : Int) := by simp
    rw [e2]
    refine w_cons (w_unpack3 3 4 5 rfl rfl rfl rfl rfl rfl rfl (w_call 1 (kn_weighted_divisor T) rfl rfl ?_))
    k_call_by "w" 0
    refine ⟨by decide, ?_⟩
    k_call_by "w" 0
    refine ⟨.inr (.inr (by decide)), ?_⟩
    rw [Int.zero_mul]
    k_call_by "w" 0
    refine ⟨hs, ?_⟩
    rw [Int.ediv_self (Q.den_ne q)]
    k_call_by "w" 0
    refine ⟨.inr (.inl (by decide)), ?_⟩
    rw [Int.mul_one]
    k_call_by "w" 0
    refine ⟨hn, Nat.lt_trans hb.1 (Nat.pow_lt_pow_right (by omega) (by omega)), ?_⟩
    refine ⟨_, _, _, rfl, ?_⟩
    k_call_by "w" 0
    refine w_call 2 (kn_lowest T.toTx) rfl rfl ?_
    k_call_by "w" 0
    refine ⟨Q.den_ne q, hs.2, ?_⟩
    k_call_by "w" 0
    rw [ab_div, sgi_num]
    exact hR
end
end Wh

set_option Elab.async false
set_option linter.all false
set_option maxRecDepth 100000
set_option maxHeartbeats 4000000
namespace Wh
open PySem L2 PyProof.Rows DL
local macro_rules | `(tactic| k_call_by "n" 0) => `(tactic| ((with_reducible refine' nm_ix rfl ?na ?nb ?nc ?nd); (case na => (repeat (first | with_reducible exact ix0 | with_reducible apply ixS))); (case nb => rfl); (case nc => rfl)))
local macro_rules | `(tactic| k_call_by "v" 0) => `(tactic| first
  | with_reducible refine w_cons ?_
  | with_reducible refine w_nil ?_
  | with_reducible refine w_ret ?_
  | with_reducible refine w_if ?_
  | with_reducible refine ea_cons ?_ (by with_unfolding_all rfl)
  | with_reducible refine ea_nil ?_
  | k_call_by "n" 0
  | with_reducible refine ev_int ?_ | with_reducible refine ev_bl ?_ | with_reducible refine ev_non ?_ | with_reducible refine ev_str ?_
  | with_reducible refine ev_add ?_
  | with_reducible refine ev_sub ?_
  | with_reducible refine ev_mul ?_
  | with_reducible refine ev_fdiv ?_
  | with_reducible refine ev_mod ?_
  | with_reducible refine ev_neg ?_
  | with_reducible refine ev_tup ?_
  | with_reducible refine et_lt ?_ | with_reducible refine et_le ?_ | with_reducible refine et_gt ?_ | with_reducible refine et_ge ?_
  | with_reducible refine ev_lt ?_ | with_reducible refine ev_le ?_ | with_reducible refine ev_gt ?_ | with_reducible refine ev_ge ?_
  | with_reducible refine et_ne ?_ | with_reducible refine et_eq ?_ | with_reducible refine ev_ne ?_ | with_reducible refine ev_eq ?_
  | with_reducible refine et_isN ?_ | with_reducible refine et_notN ?_
  | with_reducible refine et_not ?_
  | with_reducible refine et_and ?_ | with_reducible refine et_or ?_
  | with_reducible refine ew_and ?_ | with_reducible refine ew_or ?_
  | with_reducible refine ew_and1 ?_ | with_reducible refine ew_or1 ?_
  | with_reducible refine ev_and ?_ | with_reducible refine ev_or ?_ | with_reducible refine ev_one ?_ | with_reducible refine ev_not ?_
  | with_reducible refine ev_ifExp ?_
  | with_reducible refine et_call ?_
  | with_reducible refine ev_ixT ?_ (by with_unfolding_all exact fun _ _ => rfl)
  | with_reducible refine ⟨_, _, rfl, rfl, ?_⟩)
local macro_rules | `(tactic| k_call_by "w" 0) => `(tactic| repeat (first | k_call_by "v" 0 | refine ⟨Nat.le_of_ble_eq_true rfl, ?_⟩ | refine ⟨fun z => absurd z (by decide), fun _ => ?_⟩ | refine ⟨fun _ => ?_, fun z => absurd z (by decide)⟩ | refine ⟨_, rfl, ?_⟩ | refine ⟨_, _, _, rfl, rfl, rfl, ?_⟩ | refine ⟨_, _, rfl, ?_⟩ | refine ⟨_, _, _, rfl, ?_⟩ | refine ⟨_, _, _, _, rfl, ?_⟩))
local macro_rules | `(tactic| k_call_by "no" 0) => `(tactic| (intro z; first | (exact absurd z (by decide)) | (exact (nomatch z)) | (simp at z; done)))
local macro_rules | `(tactic| k_call_by "F" 0) => `(tactic| (refine ⟨?no, fun _ => ?_⟩; (case no => k_call_by "no" 0)))
local macro_rules | `(tactic| k_call_by "T" 0) => `(tactic| (refine ⟨fun _ => ?_, ?no⟩; (case no => k_call_by "no" 0)))
local macro_rules | `(tactic| k_call_by "s" 0) => `(tactic| (refine w_cons ?_; k_call_by "w" 0))
section
variable {P : Program} {w : World} {K : PySem.W.Frag} {mg : Str → Option Value} {base : Heap}
theorem one_get {α : Type} {x d : α} {i : Nat} (h : [x][i]? = some d) : i = 0 ∧ d = x := by
  cases i with
  | zero => exact ⟨rfl, by simpa [eq_comm] using h⟩
  | succ n => simp at h
def sp_check_values : SpecD := fun ds R => ∃ q : Rat, ds = [.lst [Fq q]] ∧ R .non
theorem kn_check_values (T : Tc K mg) : Kn P w K mg base CX0 "check_values" 3 (spP K sp_check_values) :=
  T.d_check_values.kn (ps := ["values"]) (fun _ _ _ _ _ _ us hl => match us, hl with | [_], _ => rfl) fun f fd F => def_ok F sc_check_values (fun ds R h => by obtain ⟨_, rfl, _⟩ := h; rfl) fun X hx sc G H ds R h => by
    obtain ⟨q, rfl, hR⟩ := h
    obtain ⟨t12, ht12⟩ := T.c_MOST_VALUES
    k_call_by "s" 0
    refine w_isi 0 T.b_isinstance rfl ?_
    k_call_by "n" 0
    refine w_ty 1 T.b_list PyProof.Rows.boot_list nn_list rfl ?_
    refine ⟨_, _, _, true, rfl, .ty "list", .lst _, kit_lst_lst, _, rfl, ?_⟩
    k_call_by "w" 0
    refine w_chainLL ?_
    k_call_by "w" 0
    refine w_len 2 T.b_len rfl ?_
    k_call_by "w" 0
    k_call_by "F" 0
    refine w_glob (v := .int 12) 3 ht12 ⟨t12, rfl⟩ rfl ?_
    k_call_by "w" 0
    k_call_by "F" 0
    k_call_by "w" 0
    refine w_all 5 T.b_all rfl ?_
    refine w_lcN 1 [1] ["is_fraction"] rfl (by rw [sc]; exact .of (by kernel_rfl)) rfl ?_
    refine iv_list ?_
    k_call_by "n" 0
    refine ⟨_, rfl, [.bl true], Nat.le_of_ble_eq_true rfl, rfl, fun i d c hd Y _ => ?_, [true], rfl, ?_⟩
    · obtain ⟨rfl, rfl⟩ := one_get hd
      refine w_call 0 (kn_is_fraction T.toTx) rfl rfl ?_
      k_call_by "w" 0
      rfl
    · k_call_by "w" 0
      exact hR
end
end Wh

set_option Elab.async false
set_option linter.all false
set_option maxRecDepth 100000
set_option maxHeartbeats 4000000
namespace Wh
open PySem L2 PyProof.Rows DL
local macro_rules | `(tactic| k_call_by "n" 0) => `(tactic| ((with_reducible refine' nm_ix rfl ?na ?nb ?nc ?nd); (case na => (repeat (first | with_reducible exact ix0 | with_reducible apply ixS))); (case nb => rfl); (case nc => rfl)))
local macro_rules | `(tactic| k_call_by "v" 0) => `(tactic| first
  | with_reducible refine w_cons ?_
  | with_reducible refine w_nil ?_
  | with_reducible refine w_ret ?_
  | with_reducible refine w_if ?_
  | with_reducible refine ea_cons ?_ (by with_unfolding_all rfl)
  | with_reducible refine ea_nil ?_
  | k_call_by "n" 0
  | with_reducible refine ev_int ?_ | with_reducible refine ev_bl ?_ | with_reducible refine ev_non ?_ | with_reducible refine ev_str ?_
  | with_reducible refine ev_add ?_
  | with_reducible refine ev_sub ?_
  | with_reducible refine ev_mul ?_
  | with_reducible refine ev_fdiv ?_
  | with_reducible refine ev_mod ?_
  | with_reducible refine ev_neg ?_
  | with_reducible refine ev_tup ?_
  | with_reducible refine et_lt ?_ | with_reducible refine et_le ?_ | with_reducible refine et_gt ?_ | with_reducible refine et_ge ?_
  | with_reducible refine ev_lt ?_ | with_reducible refine ev_le ?_ | with_reducible refine ev_gt ?_ | with_reducible refine ev_ge ?_
  | with_reducible refine et_ne ?_ | with_reducible refine et_eq ?_ | with_reducible refine ev_ne ?_ | with_reducible refine ev_eq ?_
  | with_reducible refine et_isN ?_ | with_reducible refine et_notN ?_
  | with_reducible refine et_not ?_
  | with_reducible refine et_and ?_ | with_reducible refine et_or ?_
  | with_reducible refine ew_and ?_ | with_reducible refine ew_or ?_
  | with_reducible refine ew_and1 ?_ | with_reducible refine ew_or1 ?_
  | with_reducible refine ev_and ?_ | with_reducible refine ev_or ?_ | with_reducible refine ev_one ?_ | with_reducible refine ev_not ?_
  | with_reducible refine ev_ifExp ?_
  | with_reducible refine et_call ?_
  | with_reducible refine ev_ixT ?_ (by with_unfolding_all exact fun _ _ => rfl)
  | with_reducible refine ⟨_, _, rfl, rfl, ?_⟩)
local macro_rules | `(tactic| k_call_by "w" 0) => `(tactic| repeat (first | k_call_by "v" 0 | refine ⟨Nat.le_of_ble_eq_true rfl, ?_⟩ | refine ⟨fun z => absurd z (by decide), fun _ => ?_⟩ | refine ⟨fun _ => ?_, fun z => absurd z (by decide)⟩ | refine ⟨_, rfl, ?_⟩ | refine ⟨_, _, _, rfl, rfl, rfl, ?_⟩ | refine ⟨_, _, rfl, ?_⟩ | refine ⟨_, _, _, rfl, ?_⟩ | refine ⟨_, _, _, _, rfl, ?_⟩))
local macro_rules | `(tactic| k_call_by "no" 0) => `(tactic| (intro z; first | (exact absurd z (by decide)) | (exact (nomatch z)) | (simp at z; done)))
local macro_rules | `(tactic| k_call_by "F" 0) => `(tactic| (refine ⟨?no, fun _ => ?_⟩; (case no => k_call_by "no" 0)))
local macro_rules | `(tactic| k_call_by "T" 0) => `(tactic| (refine ⟨fun _ => ?_, ?no⟩; (case no => k_call_by "no" 0)))
local macro_rules | `(tactic| k_call_by "s" 0) => `(tactic| (refine w_cons ?_; k_call_by "w" 0))
section
variable {P : Program} {w : World} {K : PySem.W.Frag} {mg : Str → Option Value} {base : Heap}
def sp_measure_paper : SpecD := fun ds R => ∃ q : Rat, ds = [.lst [Fq q]] ∧ q ≠ 0 ∧ Bq q ∧ R (.tup [Fq (Q.ab q), .tup [.int (Q.sg q)]])
theorem kn_measure_paper (T : Tc K mg) : Kn P w K mg base CX0 "measure_paper" 4 (spP K sp_measure_paper) :=
  T.d_measure_paper.kn (ps := ["values"]) (fun _ _ _ _ _ _ us hl => match us, hl with | [_], _ => rfl) fun f fd F => def_ok F sc_measure_paper (fun ds R h => by obtain ⟨_, rfl, _⟩ := h; rfl) fun X hx sc G H ds R h => by
    obtain ⟨q, rfl, h0, hb, hR⟩ := h
    refine w_cons (w_expr (w_call 0 (kn_check_values T) rfl rfl ?_))
    k_call_by "w" 0
    refine w_asg 1 rfl rfl rfl ?_
    k_call_by "w" 0
    refine w_newL 2 rfl rfl rfl (ea_nil ⟨Nat.zero_le _, fun p hp => ?_⟩)
    refine w_cons (w_forN 3 rfl rfl rfl (iv_list ?_))
    k_call_by "n" 0
    refine ⟨_, rfl, fun i ω δ => (i = 0 ∧ ω = [Cell.own X.K p []] ∧ δ = [some (.lst [Fq q]), some (.tup [.int 0, .int 1]), some (.s (.ref p)), none, none, none, none]) ∨ (i = 1 ∧ ∃ p', (ent G H [] []).Fr p' ∧ ω = [Cell.own X.K p' [.int (Q.sg q)]] ∧ ∃ a b c d, δ = [a, some (Fq (Q.ab q)), some (.s (.ref p')), b, c, d, none]), .inl ⟨rfl, rfl, rfl⟩, fun i d ω δ hd hP => ?_, fun ω δ hP => ?_⟩
    · obtain ⟨rfl, rfl⟩ := one_get hd
      rcases hP with ⟨_, rfl, rfl⟩ | ⟨z, _⟩
      · refine w_cons (w_unpack3 1 4 5 rfl rfl rfl rfl rfl rfl rfl (w_call 1 (kn_joint_measure T) rfl rfl ?_))
        k_call_by "w" 0
        refine ⟨h0, hb, ?_⟩
        refine ⟨_, _, _, rfl, ?_⟩
        refine bv_freeze (ω1 := []) rfl hp (seen_name (i := 2) rfl) ?_
        refine w_cons (w_svlcOwnN 2 6 [4, 6] [] rfl rfl (by rw [sc]; rfl) rfl rfl (by rw [sc]; exact .of (by kernel_rfl)) rfl (iv_list ?_))
        k_call_by "n" 0
        refine ⟨_, rfl, [], Nat.zero_le _, rfl, fun i d c hd => by simp at hd, fun p' hp' => ?_⟩
        refine w_cons (w_append (ω1 := []) rfl (by decide) ?_)
        k_call_by "n" 0
        refine ⟨rfl, ?_⟩
        k_call_by "n" 0
        exact w_nil (.inr ⟨rfl, p', hp', rfl, _, _, _, _, rfl⟩)
      · omega
    · rcases hP with ⟨z, _⟩ | ⟨_, p', hp', rfl, a, b, c, d, rfl⟩
      · cases z
      · refine bv_freeze (ω1 := []) rfl hp' (seen_name (i := 2) rfl) ?_
        k_call_by "w" 0
        refine w_tuple 2 T.b_tuple rfl ?_
        k_call_by "w" 0
        exact hR
end
end Wh

set_option Elab.async false
set_option linter.all false
set_option maxRecDepth 100000
set_option maxHeartbeats 4000000
/-! The classes' makers and methods. -/
namespace Wh
open PySem L2 PyProof.Rows DL
def perD (r : Rat) : D := if r.num = 0 then .non else .tup [.int (r.den : Int), .int (r.num.natAbs : Int)]
def cyc (K : PySem.W.Frag) (r s : Rat) : D := .ins (He.ga K "Cycle") [("rate", Fq r), ("start", Fq s), ("period", perD r)]
def spn (K : PySem.W.Frag) (a b : Rat) : D := .ins (He.ga K "Span") [("first", Fq a), ("last", Fq b), ("length", Fq (b - a))]
section
variable {X : Cx} {C : CtxI} [hx : XOk X C] {E : Ent} {ω : List Cell} {δ : DE} {R : D → Prop} {a : Expr} {pos : Pos}
theorem w_fC {f : Str} (T : Tc C.K C.mg) (h : EV X E ω δ a fun x => ∃ fs d, x = .ins (He.ga C.K "Cycle") fs ∧ fs.lookup f = some d ∧ R d) (hf : f ∈ (["rate", "start", "period"] : List Str)) (hb : attributeBase a f X.env (eval a X.env) = eval a X.env := by rfl) : EV X E ω δ (.Attribute a f pos) R :=
  w_fld (h.imp fun x ⟨fs, d, e1, e2, r⟩ => ⟨_, fs, d, e1, T.c_Cycle.i.cl, T.na_Cycle f hf, e2, r⟩) hb
theorem w_fS {f : Str} (T : Tc C.K C.mg) (h : EV X E ω δ a fun x => ∃ fs d, x = .ins (He.ga C.K "Span") fs ∧ fs.lookup f = some d ∧ R d) (hf : f ∈ (["first", "last", "length"] : List Str)) (hb : attributeBase a f X.env (eval a X.env) = eval a X.env := by rfl) : EV X E ω δ (.Attribute a f pos) R :=
  w_fld (h.imp fun x ⟨fs, d, e1, e2, r⟩ => ⟨_, fs, d, e1, T.c_Span.i.cl, T.na_Span f hf, e2, r⟩) hb
theorem w_fH {f : Str} (T : Tc C.K C.mg) (h : EV X E ω δ a fun x => ∃ fs d, x = .ins (He.ga C.K "Shade") fs ∧ fs.lookup f = some d ∧ R d) (hf : f ∈ (["light", "cover", "node", "width", "zero_moment", "interval", "gain", "zero_offset"] : List Str)) (hb : attributeBase a f X.env (eval a X.env) = eval a X.env := by rfl) : EV X E ω δ (.Attribute a f pos) R :=
  w_fld (h.imp fun x ⟨fs, d, e1, e2, r⟩ => ⟨_, fs, d, e1, T.c_Shade.i.cl, T.na_Shade f hf, e2, r⟩) hb
end
local macro_rules | `(tactic| k_call_by "n" 0) => `(tactic| ((with_reducible refine' nm_ix rfl ?na ?nb ?nc ?nd); (case na => (repeat (first | with_reducible exact ix0 | with_reducible apply ixS))); (case nb => rfl); (case nc => rfl)))
local macro_rules | `(tactic| k_call_by "v" 0) => `(tactic| first
  | with_reducible refine w_cons ?_
  | with_reducible refine w_nil ?_
  | with_reducible refine w_ret ?_
  | with_reducible refine w_if ?_
  | with_reducible refine ea_cons ?_ (by with_unfolding_all rfl)
  | with_reducible refine ea_nil ?_
  | k_call_by "n" 0
  | with_reducible refine ev_int ?_ | with_reducible refine ev_bl ?_ | with_reducible refine ev_non ?_ | with_reducible refine ev_str ?_
  | with_reducible refine ev_add ?_
  | with_reducible refine ev_sub ?_
  | with_reducible refine ev_mul ?_
  | with_reducible refine ev_fdiv ?_
  | with_reducible refine ev_mod ?_
  | with_reducible refine ev_neg ?_
  | with_reducible refine ev_tup ?_
  | with_reducible refine et_lt ?_ | with_reducible refine et_le ?_ | with_reducible refine et_gt ?_ | with_reducible refine et_ge ?_
  | with_reducible refine ev_lt ?_ | with_reducible refine ev_le ?_ | with_reducible refine ev_gt ?_ | with_reducible refine ev_ge ?_
  | with_reducible refine et_ne ?_ | with_reducible refine et_eq ?_ | with_reducible refine ev_ne ?_ | with_reducible refine ev_eq ?_
  | with_reducible refine et_isN ?_ | with_reducible refine et_notN ?_
  | with_reducible refine et_not ?_
  | with_reducible refine et_and ?_ | with_reducible refine et_or ?_
  | with_reducible refine ew_and ?_ | with_reducible refine ew_or ?_
  | with_reducible refine ew_and1 ?_ | with_reducible refine ew_or1 ?_
  | with_reducible refine ev_and ?_ | with_reducible refine ev_or ?_ | with_reducible refine ev_one ?_ | with_reducible refine ev_not ?_
  | with_reducible refine ev_ifExp ?_
  | with_reducible refine et_call ?_
  | with_reducible refine ev_ixT ?_ (by with_unfolding_all exact fun _ _ => rfl)
  | with_reducible refine ⟨_, _, rfl, rfl, ?_⟩)
local macro_rules | `(tactic| k_call_by "w" 0) => `(tactic| repeat (first | k_call_by "v" 0 | refine ⟨Nat.le_of_ble_eq_true rfl, ?_⟩ | refine ⟨fun z => absurd z (by decide), fun _ => ?_⟩ | refine ⟨fun _ => ?_, fun z => absurd z (by decide)⟩ | refine ⟨_, rfl, ?_⟩ | refine ⟨_, _, _, rfl, rfl, rfl, ?_⟩ | refine ⟨_, _, rfl, ?_⟩ | refine ⟨_, _, _, rfl, ?_⟩ | refine ⟨_, _, _, _, rfl, ?_⟩))
local macro_rules | `(tactic| k_call_by "no" 0) => `(tactic| (intro z; first | (exact absurd z (by decide)) | (exact (nomatch z)) | (simp at z; done)))
local macro_rules | `(tactic| k_call_by "F" 0) => `(tactic| (refine ⟨?no, fun _ => ?_⟩; (case no => k_call_by "no" 0)))
local macro_rules | `(tactic| k_call_by "T" 0) => `(tactic| (refine ⟨fun _ => ?_, ?no⟩; (case no => k_call_by "no" 0)))
local macro_rules | `(tactic| k_call_by "s" 0) => `(tactic| (refine w_cons ?_; k_call_by "w" 0))
section
variable {P : Program} {w : World} {K : PySem.W.Frag} {mg : Str → Option Value} {base : Heap}
def sp_need_fraction : SpecD := fun ds R => ∃ (p : Rat) (d : D), ds = [Fq p, d] ∧ R .non
theorem kn_need_fraction (T : Tc K mg) : Kn P w K mg base CX0 "need_fraction" 3 (spP K sp_need_fraction) :=
  T.d_need_fraction.kn (ps := ["value", "what"]) (fun _ _ _ _ _ _ us hl => match us, hl with | [_, _], _ => rfl) fun f fd F => def_ok F sc_need_fraction (fun ds R h => by obtain ⟨_, _, rfl, _⟩ := h; rfl) fun X hx sc G H ds R h => by
    obtain ⟨p, d, rfl, hR⟩ := h
    k_call_by "s" 0
    refine w_call 0 (kn_is_fraction T.toTx) rfl rfl ?_
    k_call_by "w" 0
    exact hR
def sp_need_place : SpecD := fun ds R => ∃ (p : Rat) (d : D), ds = [Fq p, d] ∧ 0 ≤ p ∧ p < 1 ∧ R .non
theorem place_num {p : Rat} (h0 : 0 ≤ p) (h1 : p < 1) : 0 ≤ p.num ∧ p.num < (p.den : Int) := by
  refine ⟨Rat.num_nonneg.mpr h0, ?_⟩
  have := (Q.lt p 1).mpr h1
  simpa using this
theorem kn_need_place (T : Tc K mg) : Kn P w K mg base CX0 "need_place" 3 (spP K sp_need_place) :=
  T.d_need_place.kn (ps := ["value", "what"]) (fun _ _ _ _ _ _ us hl => match us, hl with | [_, _], _ => rfl) fun f fd F => def_ok F sc_need_place (fun ds R h => by obtain ⟨_, _, rfl, _⟩ := h; rfl) fun X hx sc G H ds R h => by
    obtain ⟨p, d, rfl, h0, h1, hR⟩ := h
    obtain ⟨n0, n1⟩ := place_num h0 h1
    k_call_by "s" 0
    refine w_call 0 (kn_is_fraction T.toTx) rfl rfl ?_
    k_call_by "w" 0
    refine w_chainLT ?_
    k_call_by "w" 0
    refine ⟨fun z => absurd n0 (of_decide_eq_false z), fun _ => ?_⟩
    k_call_by "w" 0
    refine ⟨fun z => absurd n1 (of_decide_eq_false (by simpa using z)), fun _ => ?_⟩
    k_call_by "w" 0
    exact hR
def sp_need_span (K : PySem.W.Frag) : SpecD := fun ds R => ∃ (fs : List (Str × D)) (d : D), ds = [.ins (He.ga K "Span") fs, d] ∧ R .non
theorem kn_need_span (T : Tc K mg) : Kn P w K mg base CX0 "need_span" 1 (spP K (sp_need_span K)) :=
  T.d_need_span.kn (ps := ["value", "what"]) (fun _ _ _ _ _ _ us hl => match us, hl with | [_, _], _ => rfl) fun f fd F => def_ok F sc_need_span (fun ds R h => by obtain ⟨_, _, rfl, _⟩ := h; rfl) fun X hx sc G H ds R h => by
    obtain ⟨fs, d, rfl, hR⟩ := h
    k_call_by "s" 0
    refine w_isi 0 T.b_isinstance rfl ?_
    k_call_by "n" 0
    refine w_glob (v := .ref (He.ga K "Span")) 1 T.c_Span.g rfl rfl ?_
    refine ⟨_, _, _, true, rfl, .own _, .ins T.c_Span.i, kit_self (by simp), _, rfl, ?_⟩
    k_call_by "w" 0
    exact hR
def sp_Cycle_init : SpecI := fun ds R => ∃ r s : Rat, ds = [Fq r, Fq s] ∧ 0 ≤ s ∧ s < 1 ∧ R [("rate", Fq r), ("start", Fq s), ("period", perD r)]
theorem kn_Cycle_init (T : Tc K mg) : KnI P w K mg base "Cycle" (He.ga K "Cycle") 4 sp_Cycle_init := by
  obtain ⟨dvs, fd, hl, F⟩ := T.i_Cycle_init
  refine ⟨_, fd, ["self", "rate", "start"], T.c_Cycle.g, T.c_Cycle.mkr, bindsD (ps := ["self", "rate", "start"]) F (fun z => by rw [z] at hl; cases hl) (fun Tt kV doc pm an cdv ct us its l1 l2 => ?_), def_okI F sc_Cycle_init (fun ds R h => by obtain ⟨_, _, rfl, _⟩ := h; rfl) fun X hx sc p dx E ds R h => ?_⟩
  · match us, l1, its, l2.trans hl with
    | [_, _, _], _, [_], _ => exact ⟨_, rfl, rfl⟩
  · obtain ⟨r, s, rfl, h0, h1, hR⟩ := h
    refine w_cons (w_expr (w_call 0 (kn_need_fraction T) rfl rfl ?_))
    k_call_by "w" 0
    refine w_expr (w_call 1 (kn_need_place T) rfl rfl ?_)
    k_call_by "w" 0
    refine ⟨h0, h1, ?_⟩
    refine w_cons (w_setf T.c_Cycle.i.cl (T.na_Cycle _ (by decide)) (Nat.le_of_ble_eq_true rfl) rfl ?_)
    k_call_by "n" 0
    k_call_by "n" 0
    refine ⟨rfl, ?_⟩
    refine w_cons (w_setf T.c_Cycle.i.cl (T.na_Cycle _ (by decide)) (Nat.le_of_ble_eq_true rfl) rfl ?_)
    k_call_by "n" 0
    k_call_by "n" 0
    refine ⟨rfl, ?_⟩
    refine w_cons (w_setf T.c_Cycle.i.cl (T.na_Cycle _ (by decide)) (Nat.le_of_ble_eq_true rfl) rfl ?_)
    k_call_by "w" 0
    refine ⟨rfl, fun hz => ?_, fun hz => ?_⟩
    · have e : r.num = 0 := V.int.inj (of_decide_eq_true hz)
      k_call_by "w" 0
      refine ⟨rfl, w_nil ⟨_, rfl, ?_⟩⟩
      unfold perD at hR
      rw [if_pos e] at hR
      exact hR
    · have e : r.num ≠ 0 := fun z => (of_decide_eq_false hz) (by rw [z])
      k_call_by "w" 0
      refine w_abs 2 T.b_abs rfl ?_
      k_call_by "w" 0
      refine ⟨rfl, w_nil ⟨_, rfl, ?_⟩⟩
      unfold perD at hR
      rw [if_neg e] at hR
      exact hR
end
end Wh

set_option Elab.async false
set_option linter.all false
set_option maxRecDepth 100000
set_option maxHeartbeats 4000000
namespace Wh
open PySem L2 PyProof.Rows DL
local macro_rules | `(tactic| k_call_by "n" 0) => `(tactic| ((with_reducible refine' nm_ix rfl ?na ?nb ?nc ?nd); (case na => (repeat (first | with_reducible exact ix0 | with_reducible apply ixS))); (case nb => rfl); (case nc => rfl)))
local macro_rules | `(tactic| k_call_by "v" 0) => `(tactic| first
  | with_reducible refine w_cons ?_
  | with_reducible refine w_nil ?_
  | with_reducible refine w_ret ?_
  | with_reducible refine w_if ?_
  | with_reducible refine ea_cons ?_ (by with_unfolding_all rfl)
  | with_reducible refine ea_nil ?_
  | k_call_by "n" 0
  | with_reducible refine ev_int ?_ | with_reducible refine ev_bl ?_ | with_reducible refine ev_non ?_ | with_reducible refine ev_str ?_
  | with_reducible refine ev_add ?_
  | with_reducible refine ev_sub ?_
  | with_reducible refine ev_mul ?_
  | with_reducible refine ev_fdiv ?_
  | with_reducible refine ev_mod ?_
  | with_reducible refine ev_neg ?_
  | with_reducible refine ev_tup ?_
  | with_reducible refine et_lt ?_ | with_reducible refine et_le ?_ | with_reducible refine et_gt ?_ | with_reducible refine et_ge ?_
  | with_reducible refine ev_lt ?_ | with_reducible refine ev_le ?_ | with_reducible refine ev_gt ?_ | with_reducible refine ev_ge ?_
  | with_reducible refine et_ne ?_ | with_reducible refine et_eq ?_ | with_reducible refine ev_ne ?_ | with_reducible refine ev_eq ?_
  | with_reducible refine et_isN ?_ | with_reducible refine et_notN ?_
  | with_reducible refine et_not ?_
  | with_reducible refine et_and ?_ | with_reducible refine et_or ?_
  | with_reducible refine ew_and ?_ | with_reducible refine ew_or ?_
  | with_reducible refine ew_and1 ?_ | with_reducible refine ew_or1 ?_
  | with_reducible refine ev_and ?_ | with_reducible refine ev_or ?_ | with_reducible refine ev_one ?_ | with_reducible refine ev_not ?_
  | with_reducible refine ev_ifExp ?_
  | with_reducible refine et_call ?_
  | with_reducible refine ev_ixT ?_ (by with_unfolding_all exact fun _ _ => rfl)
  | with_reducible refine ⟨_, _, rfl, rfl, ?_⟩)
local macro_rules | `(tactic| k_call_by "w" 0) => `(tactic| repeat (first | k_call_by "v" 0 | refine ⟨Nat.le_of_ble_eq_true rfl, ?_⟩ | refine ⟨fun z => absurd z (by decide), fun _ => ?_⟩ | refine ⟨fun _ => ?_, fun z => absurd z (by decide)⟩ | refine ⟨_, rfl, ?_⟩ | refine ⟨_, _, _, rfl, rfl, rfl, ?_⟩ | refine ⟨_, _, rfl, ?_⟩ | refine ⟨_, _, _, rfl, ?_⟩ | refine ⟨_, _, _, _, rfl, ?_⟩))
local macro_rules | `(tactic| k_call_by "no" 0) => `(tactic| (intro z; first | (exact absurd z (by decide)) | (exact (nomatch z)) | (simp at z; done)))
local macro_rules | `(tactic| k_call_by "F" 0) => `(tactic| (refine ⟨?no, fun _ => ?_⟩; (case no => k_call_by "no" 0)))
local macro_rules | `(tactic| k_call_by "T" 0) => `(tactic| (refine ⟨fun _ => ?_, ?no⟩; (case no => k_call_by "no" 0)))
local macro_rules | `(tactic| k_call_by "s" 0) => `(tactic| (refine w_cons ?_; k_call_by "w" 0))
section
variable {P : Program} {w : World} {K : PySem.W.Frag} {mg : Str → Option Value} {base : Heap}
def sp_Cycle_turns (K : PySem.W.Frag) : SpecD := fun ds R => ∃ r s m : Rat, ds = [cyc K r s, Fq m] ∧ Bq r ∧ Bq s ∧ Bq m ∧ Bq (r * m) ∧ R (Fq (s + r * m))
theorem kn_Cycle_turns (T : Tc K mg) : KnM P w K mg base CX0 (He.ga K "Cycle") "turns" 5 (spP K (sp_Cycle_turns K)) :=
  T.m_Cycle_turns.kn T.c_Cycle (ps := ["self", "moment"]) (fun _ _ _ _ _ _ us hl => match us, hl with | [_, _], _ => rfl) fun f fd F => def_ok F sc_Cycle_turns (fun ds R h => by obtain ⟨_, _, _, rfl, _⟩ := h; rfl) fun X hx sc G H ds R h => by
    obtain ⟨r, s, m, rfl, hr, hs, hm, hrm, hR⟩ := h
    refine w_cons (w_expr (w_call 0 (kn_need_fraction T) rfl rfl ?_))
    k_call_by "w" 0
    refine w_call 1 (kn_plus T.toTx) rfl rfl ?_
    k_call_by "v" 0
    refine w_fC T ?_ (by decide)
    k_call_by "w" 0
    refine w_call 2 (kn_times T.toTx) rfl rfl ?_
    k_call_by "v" 0
    refine w_fC T ?_ (by decide)
    k_call_by "w" 0
    refine ⟨hr, hm, ?_⟩
    k_call_by "w" 0
    exact ⟨hs, hrm, hR⟩
def sp_Cycle_place (K : PySem.W.Frag) : SpecD := fun ds R => ∃ r s m : Rat, ds = [cyc K r s, Fq m] ∧ Bq r ∧ Bq s ∧ Bq m ∧ Bq (r * m) ∧ R (Fq (Q.part (s + r * m)))
theorem kn_Cycle_place (T : Tc K mg) : KnM P w K mg base CX0 (He.ga K "Cycle") "place" 6 (spP K (sp_Cycle_place K)) :=
  T.m_Cycle_place.kn T.c_Cycle (ps := ["self", "moment"]) (fun _ _ _ _ _ _ us hl => match us, hl with | [_, _], _ => rfl) fun f fd F => def_ok F sc_Cycle_place (fun ds R h => by obtain ⟨_, _, _, rfl, _⟩ := h; rfl) fun X hx sc G H ds R h => by
    obtain ⟨r, s, m, rfl, hr, hs, hm, hrm, hR⟩ := h
    refine w_cons (w_ret (w_call 0 (kn_part_of T.toTx) rfl rfl ?_))
    k_call_by "v" 0
    refine w_meth (kn_Cycle_turns T) rfl ?_
    k_call_by "w" 0
    refine ⟨rfl, ?_⟩
    k_call_by "w" 0
    refine ⟨hr, hs, hm, hrm, ?_⟩
    k_call_by "w" 0
    exact hR
def sp_Span_init : SpecI := fun ds R => ∃ a b : Rat, ds = [Fq a, Fq b] ∧ a ≤ b ∧ Bq a ∧ Bq b ∧ R [("first", Fq a), ("last", Fq b), ("length", Fq (b - a))]
theorem kn_Span_init (T : Tc K mg) : KnI P w K mg base "Span" (He.ga K "Span") 5 sp_Span_init := by
  obtain ⟨fd, F⟩ := T.i_Span_init
  refine ⟨_, fd, ["self", "first", "last"], T.c_Span.g, T.c_Span.mkr, F.bindsN (ps := ["self", "first", "last"]) (fun _ _ _ _ _ _ us hl => match us, hl with | [_, _, _], _ => rfl), def_okI F sc_Span_init (fun ds R h => by obtain ⟨_, _, rfl, _⟩ := h; rfl) fun X hx sc p dx E ds R h => ?_⟩
  obtain ⟨a, b, rfl, hab, ha, hb, hR⟩ := h
  k_call_by "s" 0
  refine w_call 0 (kn_is_fraction T.toTx) rfl rfl ?_
  k_call_by "w" 0
  refine w_call 0 (kn_is_fraction T.toTx) rfl rfl ?_
  k_call_by "w" 0
  refine w_call 2 (kn_precedes T.toTx) rfl rfl ?_
  k_call_by "w" 0
  refine ⟨hb, ha, ?_⟩
  refine ⟨_, rfl, fun z => absurd (of_decide_eq_true z) (Rat.not_lt.mpr hab), fun _ => ?_⟩
  k_call_by "v" 0
  refine w_cons (w_setf T.c_Span.i.cl (T.na_Span _ (by decide)) (Nat.le_of_ble_eq_true rfl) rfl ?_)
  k_call_by "n" 0
  k_call_by "n" 0
  refine ⟨rfl, ?_⟩
  refine w_cons (w_setf T.c_Span.i.cl (T.na_Span _ (by decide)) (Nat.le_of_ble_eq_true rfl) rfl ?_)
  k_call_by "n" 0
  k_call_by "n" 0
  refine ⟨rfl, ?_⟩
  refine w_cons (w_setf T.c_Span.i.cl (T.na_Span _ (by decide)) (Nat.le_of_ble_eq_true rfl) rfl (w_call 4 (kn_minus T.toTx) rfl rfl ?_))
  k_call_by "w" 0
  refine ⟨hb, ha, ?_⟩
  k_call_by "n" 0
  exact ⟨rfl, w_nil ⟨_, rfl, hR⟩⟩
def sp_Span_contains (K : PySem.W.Frag) : SpecD := fun ds R => ∃ a b m : Rat, ds = [spn K a b, Fq m] ∧ Bq a ∧ Bq b ∧ Bq m ∧ R (.bl (decide (a ≤ m ∧ m ≤ b)))
theorem kn_Span_contains (T : Tc K mg) : KnM P w K mg base CX0 (He.ga K "Span") "__contains__" 3 (spP K (sp_Span_contains K)) :=
  T.m_Span_contains.kn T.c_Span (ps := ["self", "moment"]) (fun _ _ _ _ _ _ us hl => match us, hl with | [_, _], _ => rfl) fun f fd F => def_ok F sc_Span_contains (fun ds R h => by obtain ⟨_, _, _, rfl, _⟩ := h; rfl) fun X hx sc G H ds R h => by
    obtain ⟨a, b, m, rfl, ha, hb, hm, hR⟩ := h
    k_call_by "s" 0
    refine w_call 0 (kn_is_fraction T.toTx) rfl rfl ?_
    k_call_by "w" 0
    refine w_call 1 (kn_precedes T.toTx) rfl rfl ?_
    k_call_by "w" 0
    refine w_fS T ?_ (by decide)
    k_call_by "w" 0
    refine ⟨hm, ha, ?_⟩
    refine ⟨_, rfl, _, rfl, fun hz => ?_, fun hz => ?_⟩
    · k_call_by "w" 0
      refine w_call 1 (kn_precedes T.toTx) rfl rfl ?_
      k_call_by "v" 0
      refine w_fS T ?_ (by decide)
      k_call_by "w" 0
      refine ⟨hb, hm, ?_⟩
      refine ⟨_, rfl, ?_⟩
      have h1 : a ≤ m := Rat.not_lt.mp (of_decide_eq_false (by simpa using hz))
      have e : (!decide (b < m)) = decide (a ≤ m ∧ m ≤ b) := by
        by_cases h2 : b < m
        · have := Rat.not_le.mpr h2
          simp [h2, this]
        · have := Rat.not_lt.mp h2
          simp [h2, this, h1]
      rw [e]
      exact hR
    · have h1 : ¬ a ≤ m := Rat.not_le.mpr (of_decide_eq_true (by simpa using hz))
      have e : decide (a ≤ m ∧ m ≤ b) = false := by simp [h1]
      rw [e] at hR
      exact hR
end
end Wh

set_option Elab.async false
set_option linter.all false
set_option maxRecDepth 100000
set_option maxHeartbeats 4000000
namespace Wh
open PySem L2 PyProof.Rows DL
theorem Fq_int (z : Int) : Fq (z : Rat) = .tup [.int z, .int 1] := rfl
theorem bq {n : Nat} {x : Rat} (h : Q.B n x) (hn : Nat.ble n 4000 = true := by rfl) : Bq x := h.mono (Nat.le_of_ble_eq_true hn)
local macro_rules | `(tactic| k_call_by "n" 0) => `(tactic| ((with_reducible refine' nm_ix rfl ?na ?nb ?nc ?nd); (case na => (repeat (first | with_reducible exact ix0 | with_reducible apply ixS))); (case nb => rfl); (case nc => rfl)))
local macro_rules | `(tactic| k_call_by "v" 0) => `(tactic| first
  | with_reducible refine w_cons ?_
  | with_reducible refine w_nil ?_
  | with_reducible refine w_ret ?_
  | with_reducible refine w_if ?_
  | with_reducible refine ea_cons ?_ (by with_unfolding_all rfl)
  | with_reducible refine ea_nil ?_
  | k_call_by "n" 0
  | with_reducible refine ev_int ?_ | with_reducible refine ev_bl ?_ | with_reducible refine ev_non ?_ | with_reducible refine ev_str ?_
  | with_reducible refine ev_add ?_
  | with_reducible refine ev_sub ?_
  | with_reducible refine ev_mul ?_
  | with_reducible refine ev_fdiv ?_
  | with_reducible refine ev_mod ?_
  | with_reducible refine ev_neg ?_
  | with_reducible refine ev_tup ?_
  | with_reducible refine et_lt ?_ | with_reducible refine et_le ?_ | with_reducible refine et_gt ?_ | with_reducible refine et_ge ?_
  | with_reducible refine ev_lt ?_ | with_reducible refine ev_le ?_ | with_reducible refine ev_gt ?_ | with_reducible refine ev_ge ?_
  | with_reducible refine et_ne ?_ | with_reducible refine et_eq ?_ | with_reducible refine ev_ne ?_ | with_reducible refine ev_eq ?_
  | with_reducible refine et_isN ?_ | with_reducible refine et_notN ?_
  | with_reducible refine et_not ?_
  | with_reducible refine et_and ?_ | with_reducible refine et_or ?_
  | with_reducible refine ew_and ?_ | with_reducible refine ew_or ?_
  | with_reducible refine ew_and1 ?_ | with_reducible refine ew_or1 ?_
  | with_reducible refine ev_and ?_ | with_reducible refine ev_or ?_ | with_reducible refine ev_one ?_ | with_reducible refine ev_not ?_
  | with_reducible refine ev_ifExp ?_
  | with_reducible refine et_call ?_
  | with_reducible refine ev_ixT ?_ (by with_unfolding_all exact fun _ _ => rfl)
  | with_reducible refine ⟨_, _, rfl, rfl, ?_⟩)
local macro_rules | `(tactic| k_call_by "w" 0) => `(tactic| repeat (first | k_call_by "v" 0 | refine ⟨Nat.le_of_ble_eq_true rfl, ?_⟩ | refine ⟨fun z => absurd z (by decide), fun _ => ?_⟩ | refine ⟨fun _ => ?_, fun z => absurd z (by decide)⟩ | refine ⟨_, rfl, ?_⟩ | refine ⟨_, _, _, rfl, rfl, rfl, ?_⟩ | refine ⟨_, _, rfl, ?_⟩ | refine ⟨_, _, _, rfl, ?_⟩ | refine ⟨_, _, _, _, rfl, ?_⟩))
local macro_rules | `(tactic| k_call_by "no" 0) => `(tactic| (intro z; first | (exact absurd z (by decide)) | (exact (nomatch z)) | (simp at z; done)))
local macro_rules | `(tactic| k_call_by "F" 0) => `(tactic| (refine ⟨?no, fun _ => ?_⟩; (case no => k_call_by "no" 0)))
local macro_rules | `(tactic| k_call_by "T" 0) => `(tactic| (refine ⟨fun _ => ?_, ?no⟩; (case no => k_call_by "no" 0)))
local macro_rules | `(tactic| k_call_by "s" 0) => `(tactic| (refine w_cons ?_; k_call_by "w" 0))
section
variable {P : Program} {w : World} {K : PySem.W.Frag} {mg : Str → Option Value} {base : Heap}
/-- how many steps back from m to f -/
def stp (f i m : Rat) : Int := -((f - m) / i).floor
theorem stp_bd {f i m : Rat} {a b c : Nat} (hf : Q.B a f) (hi : Q.B b i) (hm : Q.B c m) (h0 : i ≠ 0) : (stp f i m).natAbs < 2 ^ (a + c + 1 + b + 1) := by
  unfold stp
  rw [Int.natAbs_neg]
  exact Q.B.floor (Q.B.div (Q.B.sub hf hm) hi h0)
def sp_next_step : SpecD := fun ds R => ∃ f i m : Rat, ds = [Fq f, Fq i, Fq m] ∧ i ≠ 0 ∧ Q.B 200 f ∧ Q.B 100 i ∧ Q.B 400 m ∧ R (Fq (f + (stp f i m : Rat) * i))
theorem kn_next_step (T : Tc K mg) : Kn P w K mg base CX0 "next_step" 5 (spP K sp_next_step) :=
  T.d_next_step.kn (ps := ["first", "interval", "moment"]) (fun _ _ _ _ _ _ us hl => match us, hl with | [_, _, _], _ => rfl) fun f fd F => def_ok F sc_next_step (fun ds R h => by obtain ⟨_, _, _, rfl, _⟩ := h; rfl) fun X hx sc G H ds R h => by
    obtain ⟨f, i, m, rfl, h0, hf, hi, hm, hR⟩ := h
    have hs := stp_bd hf hi hm h0
    refine w_cons (w_asg 3 rfl rfl rfl (ev_neg (w_call 0 (kn_floor_of T.toTx) rfl rfl ?_)))
    k_call_by "v" 0
    refine w_call 1 (kn_over T.toTx) rfl rfl ?_
    k_call_by "v" 0
    refine w_call 2 (kn_minus T.toTx) rfl rfl ?_
    k_call_by "w" 0
    refine ⟨bq hf, bq hm, ?_⟩
    k_call_by "w" 0
    refine ⟨bq (hf.sub hm), bq hi, h0, ?_⟩
    k_call_by "w" 0
    refine ⟨bq ((hf.sub hm).div hi h0), ?_⟩
    refine ⟨_, rfl, ?_⟩
    refine w_cons (w_ret (w_call 3 (kn_plus T.toTx) rfl rfl ?_))
    k_call_by "v" 0
    k_call_by "n" 0
    k_call_by "v" 0
    refine w_call 4 (kn_times T.toTx) rfl rfl ?_
    k_call_by "w" 0
    refine ⟨(stp f i m : Rat), i, rfl, bq (Q.B.ofInt hs), bq hi, ?_⟩
    k_call_by "w" 0
    exact ⟨bq hf, bq ((Q.B.ofInt hs).mul hi), hR⟩
/-- the numbers of the moments from a to b -/
def cnt (f i a b : Rat) : Int := ((b - f) / i).floor - stp f i a + 1
def mom (f i : Rat) (n : Int) : Rat := f + (n : Rat) * i
def sp_steps_within (K : PySem.W.Frag) : SpecX := fun ds R Rx => ∃ f i a b : Rat, ds = [Fq f, Fq i, spn K a b] ∧ 0 < i ∧ Q.B 200 f ∧ Q.B 100 i ∧ Q.B 400 a ∧ Q.B 400 b ∧
  (cnt f i a b ≤ 400 → R (.lst ((List.range (cnt f i a b).toNat).map fun (k : Nat) => Fq (mom f i (stp f i a + k))))) ∧ (400 < cnt f i a b → Rx (He.ga K "TooMany") [("limit", .int 400)])
theorem mom_lt {f i b : Rat} (n : Int) (h : 0 < i) : b < mom f i n ↔ ((b - f) / i).floor < n := by
  have e : n ≤ ((b - f) / i).floor ↔ mom f i n ≤ b := by
    rw [Q.le_floor]
    unfold mom
    rw [Q.le_div h]
    constructor <;> intro h <;> grind
  constructor
  · intro h1
    exact Int.not_le.mp fun z => absurd (e.mp z) (Rat.not_le.mpr h1)
  · intro h1
    exact Rat.not_le.mp fun z => absurd (e.mpr z) (by omega)
theorem cnt_more {f i a b : Rat} (h : 0 < i) : ((b - mom f i (stp f i a)) / i).floor = cnt f i a b - 1 := by
  have e : (b - mom f i (stp f i a)) / i = (b - f) / i + ((-stp f i a : Int) : Rat) := by
    have h0 : i ≠ 0 := by grind
    unfold mom
    push_cast
    rw [Rat.div_def, Rat.div_def]
    have : i * i⁻¹ = 1 := Rat.mul_inv_cancel i h0
    grind
  rw [e, Q.floor_add_int]
  unfold cnt
  omega
theorem kn_steps_within (T : Tc K mg) : Kn P w K mg base (L2.CX P w) "steps_within" 6 (spX K (sp_steps_within K)) :=
  T.d_steps_within.kn (ps := ["first", "interval", "span"]) (fun _ _ _ _ _ _ us hl => match us, hl with | [_, _, _], _ => rfl) fun f fd F => def_okX F sc_steps_within (fun ds R Rx h => by obtain ⟨_, _, _, _, rfl, _⟩ := h; rfl) fun X hx sc G H ds R Rx tk h => by
    obtain ⟨f, i, a, b, rfl, h0, hf, hi, ha, hb, hR, hRx⟩ := h
    have h0' : i ≠ 0 := by grind
    have hs := stp_bd hf hi ha h0'
    obtain ⟨t, ht⟩ := T.c_MOST_MOMENTS
    have hm : ∀ k : Nat, k ≤ 400 → Bq (mom f i (stp f i a + k)) := fun k hk => by
      have : (stp f i a + (k : Int)).natAbs < 2 ^ 703 := by
        have h1 : (2 : Nat) ^ 703 = 2 ^ 702 + 2 ^ 702 := by rw [← Nat.two_mul, ← Nat.pow_succ']
        have h2 : (stp f i a).natAbs < 2 ^ 702 := hs
        have h3 : 400 < 2 ^ 702 := by decide
        omega
      exact bq (hf.add ((Q.B.ofInt this).mul hi))
    refine w_cons (w_asg 3 rfl rfl rfl (w_call 0 (kn_next_step T) rfl rfl ?_))
    k_call_by "w" 0
    refine w_fS T ?_ (by decide)
    k_call_by "w" 0
    refine ⟨h0', hf, hi, ha, ?_⟩
    have hm0 : Bq (f + (stp f i a : Rat) * i) := by have := hm 0 (by omega); simpa [mom] using this
    k_call_by "w" 0
    refine w_call 1 (kn_compare T.toTx) rfl rfl ?_
    k_call_by "w" 0
    refine w_fS T ?_ (by decide)
    k_call_by "w" 0
    refine ⟨hm0, bq hb, ?_⟩
    have hcm : 0 < sgn (f + (stp f i a : Rat) * i) b ↔ cnt f i a b ≤ 0 := by
      have h1 := mom_lt (f := f) (b := b) (stp f i a) h0
      have h2 : cnt f i a b ≤ 0 ↔ ((b - f) / i).floor < stp f i a := by unfold cnt; omega
      rw [h2, ← h1]
      unfold sgn mom
      by_cases h3 : f + (stp f i a : Rat) * i < b
      · rw [if_pos h3]
        constructor
        · intro z; omega
        · intro z; exact absurd h3 (Rat.not_lt.mpr (Rat.le_of_lt z))
      · rw [if_neg h3]
        by_cases h4 : b < f + (stp f i a : Rat) * i
        · rw [if_pos h4]; simp [h4]
        · rw [if_neg h4]; simp [h4]
    k_call_by "w" 0
    refine ⟨fun hc => ?_, fun hc => ?_⟩
    · have hc := hcm.mp (of_decide_eq_true hc)
      k_call_by "w" 0
      refine ev_lst ?_
      k_call_by "w" 0
      have e : (cnt f i a b).toNat = 0 := by omega
      have := hR (by omega)
      rw [e] at this
      exact this
    · have hc : 0 < cnt f i a b := Int.not_le.mp fun z => of_decide_eq_false hc (hcm.mpr z)
      refine w_nil ?_
      refine w_cons (w_asg 4 rfl rfl rfl (w_call 2 (kn_floor_of T.toTx) rfl rfl ?_))
      k_call_by "v" 0
      refine w_call 3 (kn_over T.toTx) rfl rfl ?_
      k_call_by "v" 0
      refine w_call 4 (kn_minus T.toTx) rfl rfl ?_
      k_call_by "v" 0
      refine w_fS T ?_ (by decide)
      k_call_by "w" 0
      have hm0' : Q.B 1004 (f + (stp f i a : Rat) * i) := (hf.add ((Q.B.ofInt hs).mul hi)).mono (by decide)
      refine ⟨bq hb, hm0, ?_⟩
      k_call_by "w" 0
      refine ⟨bq (hb.sub hm0'), bq hi, h0', ?_⟩
      k_call_by "w" 0
      refine ⟨bq ((hb.sub hm0').div hi h0'), ?_⟩
      have e : ((b - (f + (stp f i a : Rat) * i)) / i).floor = cnt f i a b - 1 := cnt_more h0
      rw [e]
      k_call_by "w" 0
      refine w_glob (v := .int 400) 5 ht ⟨t, rfl⟩ rfl ?_
      k_call_by "w" 0
      refine ⟨fun hb => ?_, fun hb => ?_⟩
      · have hb : 400 < cnt f i a b - 1 + 1 := of_decide_eq_true hb
        refine w_cons (w_raise 6 (kne_TooMany T) rfl rfl tk ent_pu (w_glob (v := .int 400) 5 ht ⟨t, rfl⟩ rfl ⟨_, rfl, hRx (by omega)⟩))
      · have hb : ¬ 400 < cnt f i a b - 1 + 1 := of_decide_eq_false hb
        refine w_nil (w_cons (w_newL 5 rfl rfl rfl ?_))
        k_call_by "w" 0
        refine fun p hp => ?_
        refine w_cons (w_forN 6 rfl rfl rfl (iv_range1 7 T.b_range rfl ?_))
        k_call_by "n" 0
        refine ⟨_, rfl, fun k ω δ => k ≤ (cnt f i a b - 1).toNat ∧ ω = [Cell.own X.K p ((List.range (k + 1)).map fun (j : Nat) => Fq (mom f i (stp f i a + j)))] ∧ ∃ z, δ = [some (Fq f), some (Fq i), some (spn K a b), some (Fq (mom f i (stp f i a + k))), some (.int (cnt f i a b - 1)), some (.s (.ref p)), z], ⟨Nat.zero_le _, ?_, none, ?_⟩, fun k d ω δ hd hP => ?_, fun ω δ hP => ?_⟩
        · simp [mom]
          rw [Rat.add_zero]
        · simp [mom, zipN]
          try rw [Rat.add_zero]
        · obtain ⟨hk, rfl, z, rfl⟩ := hP
          obtain ⟨hk', rfl⟩ := intsD_get hd
          refine w_cons (w_asg 3 rfl rfl rfl (w_call 8 (kn_plus T.toTx) rfl rfl ?_))
          k_call_by "w" 0
          refine ⟨hm k (by omega), bq hi, ?_⟩
          have e2 : mom f i (stp f i a + (k : Int)) + i = mom f i (stp f i a + ((k + 1 : Nat) : Int)) := by
            unfold mom
            push_cast
            grind
          rw [e2]
          refine w_cons (w_append (ω1 := []) rfl (by rw [List.length_map, List.length_range]; omega) ?_)
          k_call_by "n" 0
          refine ⟨rfl, ?_⟩
          k_call_by "n" 0
          refine w_nil ⟨by omega, ?_, _, rfl⟩
          rw [List.range_succ (n := k + 1), List.map_append]
          rfl
        · rw [intsD_length] at hP
          obtain ⟨_, rfl, z, rfl⟩ := hP
          refine bv_freeze (ω1 := []) rfl hp (seen_name (i := 5) rfl) ?_
          k_call_by "w" 0
          have e2 : (cnt f i a b - 1).toNat + 1 = (cnt f i a b).toNat := by omega
          rw [e2]
          exact hR (by omega)
end
end Wh

set_option Elab.async false
set_option linter.all false
set_option maxRecDepth 100000
set_option maxHeartbeats 4000000
/-! Meetings of two cycles of different rates. -/
namespace Wh
open PySem L2 PyProof.Rows DL
local macro_rules | `(tactic| k_call_by "n" 0) => `(tactic| ((with_reducible refine' nm_ix rfl ?na ?nb ?nc ?nd); (case na => (repeat (first | with_reducible exact ix0 | with_reducible apply ixS))); (case nb => rfl); (case nc => rfl)))
local macro_rules | `(tactic| k_call_by "v" 0) => `(tactic| first
  | with_reducible refine w_cons ?_
  | with_reducible refine w_nil ?_
  | with_reducible refine w_ret ?_
  | with_reducible refine w_if ?_
  | with_reducible refine ea_cons ?_ (by with_unfolding_all rfl)
  | with_reducible refine ea_nil ?_
  | k_call_by "n" 0
  | with_reducible refine ev_int ?_ | with_reducible refine ev_bl ?_ | with_reducible refine ev_non ?_ | with_reducible refine ev_str ?_
  | with_reducible refine ev_add ?_
  | with_reducible refine ev_sub ?_
  | with_reducible refine ev_mul ?_
  | with_reducible refine ev_fdiv ?_
  | with_reducible refine ev_mod ?_
  | with_reducible refine ev_neg ?_
  | with_reducible refine ev_tup ?_
  | with_reducible refine et_lt ?_ | with_reducible refine et_le ?_ | with_reducible refine et_gt ?_ | with_reducible refine et_ge ?_
  | with_reducible refine ev_lt ?_ | with_reducible refine ev_le ?_ | with_reducible refine ev_gt ?_ | with_reducible refine ev_ge ?_
  | with_reducible refine et_ne ?_ | with_reducible refine et_eq ?_ | with_reducible refine ev_ne ?_ | with_reducible refine ev_eq ?_
  | with_reducible refine et_isN ?_ | with_reducible refine et_notN ?_
  | with_reducible refine et_not ?_
  | with_reducible refine et_and ?_ | with_reducible refine et_or ?_
  | with_reducible refine ew_and ?_ | with_reducible refine ew_or ?_
  | with_reducible refine ew_and1 ?_ | with_reducible refine ew_or1 ?_
  | with_reducible refine ev_and ?_ | with_reducible refine ev_or ?_ | with_reducible refine ev_one ?_ | with_reducible refine ev_not ?_
  | with_reducible refine ev_ifExp ?_
  | with_reducible refine et_call ?_
  | with_reducible refine ev_ixT ?_ (by with_unfolding_all exact fun _ _ => rfl)
  | with_reducible refine ⟨_, _, rfl, rfl, ?_⟩)
local macro_rules | `(tactic| k_call_by "w" 0) => `(tactic| repeat (first | k_call_by "v" 0 | refine ⟨Nat.le_of_ble_eq_true rfl, ?_⟩ | refine ⟨fun z => absurd z (by decide), fun _ => ?_⟩ | refine ⟨fun _ => ?_, fun z => absurd z (by decide)⟩ | refine ⟨_, rfl, ?_⟩ | refine ⟨_, _, _, rfl, rfl, rfl, ?_⟩ | refine ⟨_, _, rfl, ?_⟩ | refine ⟨_, _, _, rfl, ?_⟩ | refine ⟨_, _, _, _, rfl, ?_⟩))
local macro_rules | `(tactic| k_call_by "no" 0) => `(tactic| (intro z; first | (exact absurd z (by decide)) | (exact (nomatch z)) | (simp at z; done)))
local macro_rules | `(tactic| k_call_by "F" 0) => `(tactic| (refine ⟨?no, fun _ => ?_⟩; (case no => k_call_by "no" 0)))
local macro_rules | `(tactic| k_call_by "T" 0) => `(tactic| (refine ⟨fun _ => ?_, ?no⟩; (case no => k_call_by "no" 0)))
local macro_rules | `(tactic| k_call_by "s" 0) => `(tactic| (refine w_cons ?_; k_call_by "w" 0))
section
variable {P : Program} {w : World} {K : PySem.W.Frag} {mg : Str → Option Value} {base : Heap}
def sp_weighed : SpecD := fun ds R => ∃ (z : Int) (d : Rat), ds = [.tup [.int z], .lst [Fq d]] ∧ z.natAbs < 2 ^ 1 ∧ Q.B 300 d ∧ R (Fq ((z : Rat) * d))
theorem kn_weighed (T : Tc K mg) : Kn P w K mg base CX0 "weighed" 5 (spP K sp_weighed) :=
  T.d_weighed.kn (ps := ["weights", "values"]) (fun _ _ _ _ _ _ us hl => match us, hl with | [_, _], _ => rfl) fun f fd F => def_ok F sc_weighed (fun ds R h => by obtain ⟨_, _, rfl, _⟩ := h; rfl) fun X hx sc G H ds R h => by
    obtain ⟨z, d, rfl, hz, hd, hR⟩ := h
    have hzd := (Q.B.ofInt hz).mul hd
    refine w_cons (w_asg 2 rfl rfl rfl ?_)
    k_call_by "w" 0
    refine w_forT [3, 4] rfl (.cons rfl rfl (.cons rfl rfl .nil)) rfl (iv_zipTL 0 T.b_zip rfl ?_)
    k_call_by "n" 0
    k_call_by "n" 0
    refine ⟨_, _, rfl, rfl, rfl, fun i ω δ => (i = 0 ∧ δ = [some (.tup [.int z]), some (.lst [Fq d]), some (Fq 0), none, none]) ∨ (i = 1 ∧ ∃ a b c e, δ = [a, b, some (Fq ((z : Rat) * d)), c, e]), .inl ⟨rfl, rfl⟩, fun i e ω δ hd' hP => ?_, fun ω δ hP => ?_⟩
    · obtain ⟨rfl, rfl⟩ := one_get (x := D.tup [.int z, Fq d]) hd'
      rcases hP with ⟨_, rfl⟩ | ⟨z, _⟩
      · refine ⟨_, rfl, rfl, ?_⟩
        refine w_cons (w_asg 2 rfl rfl rfl (w_call 1 (kn_plus T.toTx) rfl rfl ?_))
        k_call_by "v" 0
        k_call_by "n" 0
        k_call_by "v" 0
        refine w_call 2 (kn_times T.toTx) rfl rfl ?_
        k_call_by "w" 0
        refine ⟨(z : Rat), d, rfl, bq (Q.B.ofInt hz), bq hd, ?_⟩
        refine ea_nil ⟨0, _, rfl, bq ⟨by decide, by decide⟩ (n := 1), bq hzd, w_nil (.inr ⟨rfl, by rw [Rat.zero_add]; exact ⟨_, _, _, _, rfl⟩⟩)⟩
      · omega
    · rcases hP with ⟨z, _⟩ | ⟨_, a, b, c, e, rfl⟩
      · cases z
      · k_call_by "w" 0
        exact hR
def two (K : PySem.W.Frag) (rl sl rc sc : Rat) : D := .lst [cyc K rl sl, cyc K rc sc]
theorem two_get {α : Type} {x y d : α} {i : Nat} (h : [x, y][i]? = some d) : i = 0 ∧ d = x ∨ i = 1 ∧ d = y := by
  match i, h with
  | 0, h => exact .inl ⟨rfl, by simpa [eq_comm] using h⟩
  | 1, h => exact .inr ⟨rfl, by simpa [eq_comm] using h⟩
  | n + 2, h => simp at h
def sp_need_cycles (K : PySem.W.Frag) : SpecD := fun ds R => ∃ (rl sl rc sc : Rat), ds = [two K rl sl rc sc] ∧ R .non
theorem kn_need_cycles (T : Tc K mg) : Kn P w K mg base CX0 "need_cycles" 1 (spP K (sp_need_cycles K)) :=
  T.d_need_cycles.kn (ps := ["cycles"]) (fun _ _ _ _ _ _ us hl => match us, hl with | [_], _ => rfl) fun f fd F => def_ok F sc_need_cycles (fun ds R h => by obtain ⟨_, _, _, _, rfl, _⟩ := h; rfl) fun X hx sc G H ds R h => by
    obtain ⟨rl, sl, rc, sc', rfl, hR⟩ := h
    obtain ⟨t2, ht2⟩ := T.c_LEAST_CYCLES
    obtain ⟨t6, ht6⟩ := T.c_MOST_CYCLES
    k_call_by "s" 0
    refine w_isi 0 T.b_isinstance rfl ?_
    k_call_by "n" 0
    refine w_ty 1 T.b_list PyProof.Rows.boot_list nn_list rfl ?_
    refine ⟨_, _, _, true, rfl, .ty "list", .lst _, kit_lst_lst, _, rfl, ?_⟩
    k_call_by "w" 0
    refine w_chainLL (w_glob (v := .int 2) 2 ht2 ⟨t2, rfl⟩ rfl ?_)
    refine w_len 3 T.b_len rfl ?_
    k_call_by "w" 0
    k_call_by "F" 0
    refine w_glob (v := .int 6) 4 ht6 ⟨t6, rfl⟩ rfl ?_
    k_call_by "w" 0
    k_call_by "F" 0
    k_call_by "w" 0
    refine w_all 6 T.b_all rfl ?_
    refine w_lcN 1 [1] ["isinstance", "Cycle"] rfl (by rw [sc]; exact .of (by kernel_rfl)) rfl ?_
    refine iv_list ?_
    k_call_by "n" 0
    refine ⟨_, rfl, [.bl true, .bl true], Nat.le_of_ble_eq_true rfl, rfl, fun i d c hd Y _ => ?_, [true, true], rfl, ?_⟩
    · have : ∃ r s, d = cyc K r s ∧ ([D.bl true, D.bl true] : List D)[i]? = some (.bl true) := by
        rcases two_get hd with ⟨rfl, rfl⟩ | ⟨rfl, rfl⟩
        · exact ⟨_, _, rfl, rfl⟩
        · exact ⟨_, _, rfl, rfl⟩
      obtain ⟨r, s, rfl, e⟩ := this
      refine w_isi 0 T.b_isinstance rfl ?_
      k_call_by "n" 0
      refine w_glob (v := .ref (He.ga K "Cycle")) 1 T.c_Cycle.g rfl rfl ?_
      exact ⟨_, _, _, true, rfl, .own _, .ins T.c_Cycle.i, kit_self (by simp), e⟩
    · k_call_by "w" 0
      exact hR
end
end Wh

set_option Elab.async false
set_option linter.all false
set_option maxRecDepth 100000
set_option maxHeartbeats 4000000
/-! The meetings' rule. -/
namespace Wh
open PySem L2 PyProof.Rows DL
local macro_rules | `(tactic| k_call_by "n" 0) => `(tactic| ((with_reducible refine' nm_ix rfl ?na ?nb ?nc ?nd); (case na => (repeat (first | with_reducible exact ix0 | with_reducible apply ixS))); (case nb => rfl); (case nc => rfl)))
local macro_rules | `(tactic| k_call_by "v" 0) => `(tactic| first
  | with_reducible refine w_cons ?_
  | with_reducible refine w_nil ?_
  | with_reducible refine w_ret ?_
  | with_reducible refine w_if ?_
  | with_reducible refine ea_cons ?_ (by with_unfolding_all rfl)
  | with_reducible refine ea_nil ?_
  | k_call_by "n" 0
  | with_reducible refine ev_int ?_ | with_reducible refine ev_bl ?_ | with_reducible refine ev_non ?_ | with_reducible refine ev_str ?_
  | with_reducible refine ev_add ?_
  | with_reducible refine ev_sub ?_
  | with_reducible refine ev_mul ?_
  | with_reducible refine ev_fdiv ?_
  | with_reducible refine ev_mod ?_
  | with_reducible refine ev_neg ?_
  | with_reducible refine ev_tup ?_
  | with_reducible refine et_lt ?_ | with_reducible refine et_le ?_ | with_reducible refine et_gt ?_ | with_reducible refine et_ge ?_
  | with_reducible refine ev_lt ?_ | with_reducible refine ev_le ?_ | with_reducible refine ev_gt ?_ | with_reducible refine ev_ge ?_
  | with_reducible refine et_ne ?_ | with_reducible refine et_eq ?_ | with_reducible refine ev_ne ?_ | with_reducible refine ev_eq ?_
  | with_reducible refine et_isN ?_ | with_reducible refine et_notN ?_
  | with_reducible refine et_not ?_
  | with_reducible refine et_and ?_ | with_reducible refine et_or ?_
  | with_reducible refine ew_and ?_ | with_reducible refine ew_or ?_
  | with_reducible refine ew_and1 ?_ | with_reducible refine ew_or1 ?_
  | with_reducible refine ev_and ?_ | with_reducible refine ev_or ?_ | with_reducible refine ev_one ?_ | with_reducible refine ev_not ?_
  | with_reducible refine ev_ifExp ?_
  | with_reducible refine et_call ?_
  | with_reducible refine ev_ixT ?_ (by with_unfolding_all exact fun _ _ => rfl)
  | with_reducible refine ⟨_, _, rfl, rfl, ?_⟩)
local macro_rules | `(tactic| k_call_by "w" 0) => `(tactic| repeat (first | k_call_by "v" 0 | refine ⟨Nat.le_of_ble_eq_true rfl, ?_⟩ | refine ⟨fun z => absurd z (by decide), fun _ => ?_⟩ | refine ⟨fun _ => ?_, fun z => absurd z (by decide)⟩ | refine ⟨_, rfl, ?_⟩ | refine ⟨_, _, _, rfl, rfl, rfl, ?_⟩ | refine ⟨_, _, rfl, ?_⟩ | refine ⟨_, _, _, rfl, ?_⟩ | refine ⟨_, _, _, _, rfl, ?_⟩))
local macro_rules | `(tactic| k_call_by "no" 0) => `(tactic| (intro z; first | (exact absurd z (by decide)) | (exact (nomatch z)) | (simp at z; done)))
local macro_rules | `(tactic| k_call_by "F" 0) => `(tactic| (refine ⟨?no, fun _ => ?_⟩; (case no => k_call_by "no" 0)))
local macro_rules | `(tactic| k_call_by "T" 0) => `(tactic| (refine ⟨fun _ => ?_, ?no⟩; (case no => k_call_by "no" 0)))
local macro_rules | `(tactic| k_call_by "s" 0) => `(tactic| (refine w_cons ?_; k_call_by "w" 0))
section
variable {P : Program} {w : World} {K : PySem.W.Frag} {mg : Str → Option Value} {base : Heap}
/-- the first moment from 0, the interval -/
def ivl (r : Rat) : Rat := 1 / Q.ab r
def zmo (r d : Rat) : Rat := Q.part (0 - (Q.sg r : Rat) * d) * ivl r
def sp_meeting_paper (K : PySem.W.Frag) : SpecD := fun ds R => ∃ (rl sl rc sc : Rat), ds = [two K rl sl rc sc] ∧ rc - rl ≠ 0 ∧ Q.B 40 rl ∧ Q.B 40 sl ∧ Q.B 40 rc ∧ Q.B 40 sc ∧
  R (.tup [.str "every", Fq (zmo (rc - rl) (sc - sl)), Fq (ivl (rc - rl)), .tup [.int 0, .int (Q.sg (rc - rl))]])
theorem kn_meeting_paper (T : Tc K mg) : Kn P w K mg base CX0 "meeting_paper" 6 (spP K (sp_meeting_paper K)) :=
  T.d_meeting_paper.kn (ps := ["cycles"]) (fun _ _ _ _ _ _ us hl => match us, hl with | [_], _ => rfl) fun f fd F => def_ok F sc_meeting_paper (fun ds R h => by obtain ⟨_, _, _, _, rfl, _⟩ := h; rfl) fun X hx sc G H ds R h => by
    obtain ⟨rl, sl, rc, sc', rfl, h0, hrl, hsl, hrc, hsc, hR⟩ := h
    have br : Q.B 81 (rc - rl) := hrc.sub hrl
    have bd : Q.B 81 (sc' - sl) := hsc.sub hsl
    have ba : Q.B 81 (Q.ab (rc - rl)) := br.ab
    have na : Q.ab (rc - rl) ≠ 0 := Q.ab_ne h0
    refine w_cons (w_expr (w_call 0 (kn_need_cycles T) rfl rfl ?_))
    k_call_by "w" 0
    refine w_asg 1 rfl rfl rfl (ev_ixL ?_)
    k_call_by "w" 0
    refine w_svlcN 2 13 [1, 13] ["minus"] rfl rfl (by rw [sc]; rfl) rfl rfl (by rw [sc]; exact .of (by kernel_rfl)) rfl (iv_list (ev_sliceL ?_))
    k_call_by "w" 0
    refine ⟨[Fq (rc - rl)], Nat.le_of_ble_eq_true rfl, rfl, fun i d c hd Y _ => ?_, ?_⟩
    · obtain ⟨rfl, rfl⟩ := one_get (x := cyc K rc sc') hd
      refine w_call 0 (kn_minus T.toTx) rfl rfl ?_
      k_call_by "v" 0
      refine w_fC T ?_ (by decide)
      k_call_by "w" 0
      refine w_fC T ?_ (by decide)
      k_call_by "w" 0
      exact ⟨bq hrc, bq hrl, rfl⟩
    k_call_by "v" 0
    refine w_svlcN 3 13 [1, 13] ["minus"] rfl rfl (by rw [sc]; rfl) rfl rfl (by rw [sc]; exact .of (by kernel_rfl)) rfl (iv_list (ev_sliceL ?_))
    k_call_by "w" 0
    refine ⟨[Fq (sc' - sl)], Nat.le_of_ble_eq_true rfl, rfl, fun i d c hd Y _ => ?_, ?_⟩
    · obtain ⟨rfl, rfl⟩ := one_get (x := cyc K rc sc') hd
      refine w_call 0 (kn_minus T.toTx) rfl rfl ?_
      k_call_by "v" 0
      refine w_fC T ?_ (by decide)
      k_call_by "w" 0
      refine w_fC T ?_ (by decide)
      k_call_by "w" 0
      exact ⟨bq hsc, bq hsl, rfl⟩
    refine w_cons (w_unpack2 4 5 rfl rfl rfl rfl rfl (w_call 1 (kn_measure_paper T) rfl rfl ?_))
    k_call_by "w" 0
    refine ⟨h0, bq br, ?_⟩
    refine ⟨_, _, rfl, ?_⟩
    refine w_cons (w_svlcN 6 14 [4, 14] ["over"] rfl rfl (by rw [sc]; rfl) rfl rfl (by rw [sc]; exact .of (by kernel_rfl)) rfl (iv_list ?_))
    k_call_by "n" 0
    refine ⟨_, rfl, [.int (Q.sg (rc - rl))], Nat.le_of_ble_eq_true rfl, rfl, fun i d c hd Y _ => ?_, ?_⟩
    · obtain ⟨rfl, rfl⟩ := one_get (x := Fq (rc - rl)) hd
      k_call_by "w" 0
      refine ⟨rfl, fun z => absurd (of_decide_eq_true z) fun e => na (Q.num_zero.mp (V.int.inj e)), fun _ => ?_⟩
      k_call_by "w" 0
      refine w_call 0 (kn_over T.toTx) rfl rfl ?_
      k_call_by "w" 0
      refine ⟨bq br, bq ba, na, ?_⟩
      rw [Q.div_ab h0, Fq_int]
      k_call_by "w" 0
      rfl
    refine w_cons (w_asg 7 rfl rfl rfl (w_call 2 (kn_weighed T) rfl rfl ?_))
    k_call_by "w" 0
    refine ⟨Q.sg_bd _, bd.mono (by decide), ?_⟩
    have bx : Q.B 83 ((Q.sg (rc - rl) : Rat) * (sc' - sl)) := (Q.B.ofInt (Q.sg_bd _)).mul bd
    have e0 : (sc' - sl) - (Q.sg (rc - rl) : Rat) * ((Q.sg (rc - rl) : Rat) * (sc' - sl)) = 0 := by
      have := Q.sg_sq (rc - rl)
      grind
    refine w_cons (w_forT [8, 9] rfl (.cons rfl rfl (.cons rfl rfl .nil)) rfl (iv_enum 3 T.b_enumerate rfl ?_))
    k_call_by "n" 0
    refine ⟨_, rfl, fun i ω δ => ∃ a b c, δ = [some (two K rl sl rc sc'), some (cyc K rl sl), some (.lst [Fq (rc - rl)]), some (.lst [Fq (sc' - sl)]), some (Fq (Q.ab (rc - rl))), some (.tup [.int (Q.sg (rc - rl))]), some (.lst [.int (Q.sg (rc - rl))]), some (Fq ((Q.sg (rc - rl) : Rat) * (sc' - sl))), a, b, c, none, none, none, none], ⟨none, none, none, rfl⟩, fun i e ω δ hd' hP => ?_, fun ω δ hP => ?_⟩
    · obtain ⟨rfl, rfl⟩ := one_get (x := D.tup [.int 0, Fq (sc' - sl)]) hd'
      obtain ⟨a, b, c, rfl⟩ := hP
      refine ⟨_, rfl, rfl, ?_⟩
      refine w_cons (w_asg 10 rfl rfl rfl (w_call 4 (kn_minus T.toTx) rfl rfl ?_))
      k_call_by "v" 0
      k_call_by "n" 0
      k_call_by "v" 0
      refine w_call 5 (kn_times T.toTx) rfl rfl ?_
      k_call_by "v" 0
      refine ev_tup ?_
      k_call_by "v" 0
      refine ev_ixL ?_
      k_call_by "w" 0
      refine ⟨(Q.sg (rc - rl) : Rat), _, rfl, bq (Q.B.ofInt (Q.sg_bd _)), bq bx, ?_⟩
      k_call_by "w" 0
      refine ⟨bq bd, bq ((Q.B.ofInt (Q.sg_bd _)).mul bx), ?_⟩
      rw [e0]
      k_call_by "w" 0
      refine ⟨rfl, fun z => absurd z (by decide), fun _ => ?_⟩
      exact w_nil (w_nil ⟨_, _, _, rfl⟩)
    · obtain ⟨a, b, c, rfl⟩ := hP
      k_call_by "w" 0
      refine ⟨rfl, fun z => absurd (of_decide_eq_true z) fun e => na (Q.num_zero.mp (V.int.inj e)), fun _ => ?_⟩
      refine w_nil (w_cons (w_asg 11 rfl rfl rfl (w_call 7 (kn_over T.toTx) rfl rfl ?_)))
      k_call_by "w" 0
      refine ⟨1, _, rfl, bq ⟨by decide, by decide⟩ (n := 1), bq ba, na, ?_⟩
      refine w_cons (w_asg 12 rfl rfl rfl (w_call 5 (kn_times T.toTx) rfl rfl ?_))
      k_call_by "v" 0
      refine w_call 8 (kn_part_of T.toTx) rfl rfl ?_
      k_call_by "v" 0
      refine w_call 4 (kn_minus T.toTx) rfl rfl ?_
      k_call_by "w" 0
      refine ⟨0, _, rfl, bq ⟨by decide, by decide⟩ (n := 1), bq bx, ?_⟩
      k_call_by "w" 0
      have bz : Q.B 85 (0 - (Q.sg (rc - rl) : Rat) * (sc' - sl)) := Q.B.sub (a := 1) ⟨by decide, by decide⟩ bx
      refine ⟨bq bz.part, bq (Q.one_div_bd ba na), ?_⟩
      refine w_cons (w_ret (ev_tup (ea_cons (ev_str (ea_cons ?_)))))
      k_call_by "n" 0
      k_call_by "v" 0
      k_call_by "n" 0
      k_call_by "v" 0
      refine ev_catT ?_
      k_call_by "w" 0
      refine w_tuple 9 T.b_tuple rfl ?_
      k_call_by "w" 0
      refine ⟨fun z => (nomatch z), fun z => (nomatch z), Nat.le_of_ble_eq_true rfl, ?_⟩
      k_call_by "w" 0
      exact hR
def sp_meeting_rule (K : PySem.W.Frag) : SpecD := fun ds R => ∃ (rl sl rc sc : Rat), ds = [two K rl sl rc sc] ∧ rc - rl ≠ 0 ∧ Q.B 40 rl ∧ Q.B 40 sl ∧ Q.B 40 rc ∧ Q.B 40 sc ∧ R (.tup [Fq (zmo (rc - rl) (sc - sl)), Fq (ivl (rc - rl))])
theorem kn_meeting_rule (T : Tc K mg) : Kn P w K mg base CX0 "meeting_rule" 7 (spP K (sp_meeting_rule K)) :=
  T.d_meeting_rule.kn (ps := ["cycles"]) (fun _ _ _ _ _ _ us hl => match us, hl with | [_], _ => rfl) fun f fd F => def_ok F sc_meeting_rule (fun ds R h => by obtain ⟨_, _, _, _, rfl, _⟩ := h; rfl) fun X hx sc G H ds R h => by
    obtain ⟨rl, sl, rc, sc', rfl, h0, hrl, hsl, hrc, hsc, hR⟩ := h
    refine w_cons (w_asg 1 rfl rfl rfl (w_call 0 (kn_meeting_paper T) rfl rfl ?_))
    k_call_by "w" 0
    refine ⟨h0, hrl, hsl, hrc, hsc, ?_⟩
    k_call_by "w" 0
    refine ⟨rfl, fun z => absurd z (by decide), fun _ => ?_⟩
    k_call_by "w" 0
    refine ⟨rfl, fun z => absurd z (by decide), fun _ => ?_⟩
    k_call_by "w" 0
    exact hR
end
end Wh

set_option Elab.async false
set_option linter.all false
set_option maxRecDepth 100000
set_option maxHeartbeats 4000000
namespace Wh
open PySem L2 PyProof.Rows DL
theorem ivl_pos {r : Rat} (h : r ≠ 0) : 0 < ivl r := by
  unfold ivl
  rw [Rat.div_def, Rat.one_mul]
  exact Rat.inv_pos.mpr (Q.ab_pos h)
theorem ivl_ne {r : Rat} (h : r ≠ 0) : ivl r ≠ 0 := by have := ivl_pos h; grind
theorem ivl_bd {r : Rat} (h : r ≠ 0) (b : Q.B 81 r) : Q.B 82 (ivl r) := Q.one_div_bd b.ab (Q.ab_ne h)
theorem zmo_bd {r d : Rat} (h : r ≠ 0) (b : Q.B 81 r) (c : Q.B 81 d) : Q.B 167 (zmo r d) := by
  have bx : Q.B 83 ((Q.sg r : Rat) * d) := (Q.B.ofInt (Q.sg_bd _)).mul c
  have bz : Q.B 85 (0 - (Q.sg r : Rat) * d) := Q.B.sub (a := 1) ⟨by decide, by decide⟩ bx
  exact bz.part.mul (ivl_bd h b)
local macro_rules | `(tactic| k_call_by "n" 0) => `(tactic| ((with_reducible refine' nm_ix rfl ?na ?nb ?nc ?nd); (case na => (repeat (first | with_reducible exact ix0 | with_reducible apply ixS))); (case nb => rfl); (case nc => rfl)))
local macro_rules | `(tactic| k_call_by "v" 0) => `(tactic| first
  | with_reducible refine w_cons ?_
  | with_reducible refine w_nil ?_
  | with_reducible refine w_ret ?_
  | with_reducible refine w_if ?_
  | with_reducible refine ea_cons ?_ (by with_unfolding_all rfl)
  | with_reducible refine ea_nil ?_
  | k_call_by "n" 0
  | with_reducible refine ev_int ?_ | with_reducible refine ev_bl ?_ | with_reducible refine ev_non ?_ | with_reducible refine ev_str ?_
  | with_reducible refine ev_add ?_
  | with_reducible refine ev_sub ?_
  | with_reducible refine ev_mul ?_
  | with_reducible refine ev_fdiv ?_
  | with_reducible refine ev_mod ?_
  | with_reducible refine ev_neg ?_
  | with_reducible refine ev_tup ?_
  | with_reducible refine et_lt ?_ | with_reducible refine et_le ?_ | with_reducible refine et_gt ?_ | with_reducible refine et_ge ?_
  | with_reducible refine ev_lt ?_ | with_reducible refine ev_le ?_ | with_reducible refine ev_gt ?_ | with_reducible refine ev_ge ?_
  | with_reducible refine et_ne ?_ | with_reducible refine et_eq ?_ | with_reducible refine ev_ne ?_ | with_reducible refine ev_eq ?_
  | with_reducible refine et_isN ?_ | with_reducible refine et_notN ?_
  | with_reducible refine et_not ?_
  | with_reducible refine et_and ?_ | with_reducible refine et_or ?_
  | with_reducible refine ew_and ?_ | with_reducible refine ew_or ?_
  | with_reducible refine ew_and1 ?_ | with_reducible refine ew_or1 ?_
  | with_reducible refine ev_and ?_ | with_reducible refine ev_or ?_ | with_reducible refine ev_one ?_ | with_reducible refine ev_not ?_
  | with_reducible refine ev_ifExp ?_
  | with_reducible refine et_call ?_
  | with_reducible refine ev_ixT ?_ (by with_unfolding_all exact fun _ _ => rfl)
  | with_reducible refine ⟨_, _, rfl, rfl, ?_⟩)
local macro_rules | `(tactic| k_call_by "w" 0) => `(tactic| repeat (first | k_call_by "v" 0 | refine ⟨Nat.le_of_ble_eq_true rfl, ?_⟩ | refine ⟨fun z => absurd z (by decide), fun _ => ?_⟩ | refine ⟨fun _ => ?_, fun z => absurd z (by decide)⟩ | refine ⟨_, rfl, ?_⟩ | refine ⟨_, _, _, rfl, rfl, rfl, ?_⟩ | refine ⟨_, _, rfl, ?_⟩ | refine ⟨_, _, _, rfl, ?_⟩ | refine ⟨_, _, _, _, rfl, ?_⟩))
local macro_rules | `(tactic| k_call_by "no" 0) => `(tactic| (intro z; first | (exact absurd z (by decide)) | (exact (nomatch z)) | (simp at z; done)))
local macro_rules | `(tactic| k_call_by "F" 0) => `(tactic| (refine ⟨?no, fun _ => ?_⟩; (case no => k_call_by "no" 0)))
local macro_rules | `(tactic| k_call_by "T" 0) => `(tactic| (refine ⟨fun _ => ?_, ?no⟩; (case no => k_call_by "no" 0)))
local macro_rules | `(tactic| k_call_by "s" 0) => `(tactic| (refine w_cons ?_; k_call_by "w" 0))
section
variable {P : Program} {w : World} {K : PySem.W.Frag} {mg : Str → Option Value} {base : Heap}
def sp_meetings (K : PySem.W.Frag) : SpecX := fun ds R Rx => ∃ (rl sl rc sc a b : Rat), ds = [two K rl sl rc sc, spn K a b] ∧ rc - rl ≠ 0 ∧ Q.B 40 rl ∧ Q.B 40 sl ∧ Q.B 40 rc ∧ Q.B 40 sc ∧ Q.B 400 a ∧ Q.B 400 b ∧
  (cnt (zmo (rc - rl) (sc - sl)) (ivl (rc - rl)) a b ≤ 400 → R (.lst ((List.range (cnt (zmo (rc - rl) (sc - sl)) (ivl (rc - rl)) a b).toNat).map fun (k : Nat) => Fq (mom (zmo (rc - rl) (sc - sl)) (ivl (rc - rl)) (stp (zmo (rc - rl) (sc - sl)) (ivl (rc - rl)) a + k))))) ∧
  (400 < cnt (zmo (rc - rl) (sc - sl)) (ivl (rc - rl)) a b → Rx (He.ga K "TooMany") [("limit", .int 400)])
theorem kn_meetings (T : Tc K mg) : Kn P w K mg base (L2.CX P w) "meetings" 8 (spX K (sp_meetings K)) :=
  T.d_meetings.kn (ps := ["cycles", "span"]) (fun _ _ _ _ _ _ us hl => match us, hl with | [_, _], _ => rfl) fun f fd F => def_okX F sc_meetings (fun ds R Rx h => by obtain ⟨_, _, _, _, _, _, rfl, _⟩ := h; rfl) fun X hx sc G H ds R Rx tk h => by
    obtain ⟨rl, sl, rc, sc', a, b, rfl, h0, hrl, hsl, hrc, hsc, ha, hb, hR, hRx⟩ := h
    have br : Q.B 81 (rc - rl) := hrc.sub hrl
    have bd : Q.B 81 (sc' - sl) := hsc.sub hsl
    refine w_cons (w_expr (w_call 0 (kn_need_cycles T) rfl rfl ?_))
    k_call_by "w" 0
    refine w_expr (w_call 1 (kn_need_span T) rfl rfl ?_)
    k_call_by "w" 0
    refine w_asg 2 rfl rfl rfl (w_call 2 (kn_meeting_rule T) rfl rfl ?_)
    k_call_by "w" 0
    refine ⟨h0, hrl, hsl, hrc, hsc, ?_⟩
    k_call_by "w" 0
    k_call_by "F" 0
    k_call_by "w" 0
    k_call_by "F" 0
    k_call_by "w" 0
    refine w_callX 4 (kn_steps_within T) rfl rfl tk ent_pu ?_
    k_call_by "w" 0
    exact ⟨ivl_pos h0, (zmo_bd h0 br bd).mono (by decide), (ivl_bd h0 br).mono (by decide), ha, hb, hR, hRx⟩
end
end Wh

set_option Elab.async false
set_option linter.all false
set_option maxRecDepth 100000
set_option maxHeartbeats 4000000
/-! Shades. -/
namespace Wh
open PySem L2 PyProof.Rows DL
/-- light, cover, node, width -/
structure Sd where
  rl : Rat
  sl : Rat
  rc : Rat
  sc : Rat
  rn : Rat
  sn : Rat
  w : Rat
namespace Sd
variable (S : Sd)
def r : Rat := S.rc - S.rl
def d : Rat := S.sc - S.sl
def z : Rat := zmo S.r S.d
def i : Rat := ivl S.r
def g : Rat := S.i * (S.rn - S.rl)
def o : Rat := Q.offs (Q.part (S.sn + S.rn * S.z) - Q.part (S.sl + S.rl * S.z))
structure Ok : Prop where
  r0 : S.r ≠ 0
  rl : Q.B 40 S.rl
  sl : Q.B 40 S.sl
  rc : Q.B 40 S.rc
  sc : Q.B 40 S.sc
  rn : Q.B 40 S.rn
  sn : Q.B 140 S.sn
  w : Q.B 140 S.w
  w0 : 0 ≤ S.w
  w4 : 4 * S.w < 1
variable {S}
theorem Ok.br (h : S.Ok) : Q.B 81 S.r := h.rc.sub h.rl
theorem Ok.bd (h : S.Ok) : Q.B 81 S.d := h.sc.sub h.sl
theorem Ok.bi (h : S.Ok) : Q.B 82 S.i := ivl_bd h.r0 h.br
theorem Ok.bz (h : S.Ok) : Q.B 167 S.z := zmo_bd h.r0 h.br h.bd
theorem Ok.bg (h : S.Ok) : Q.B 163 S.g := h.bi.mul (h.rn.sub h.rl)
theorem Ok.btn (h : S.Ok) : Q.B 348 (S.sn + S.rn * S.z) := h.sn.add (h.rn.mul h.bz)
theorem Ok.btl (h : S.Ok) : Q.B 248 (S.sl + S.rl * S.z) := h.sl.add (h.rl.mul h.bz)
theorem Ok.bo (h : S.Ok) : Q.B 597 S.o := (h.btn.part.sub h.btl.part).offs
theorem Ok.i0 (h : S.Ok) : S.i ≠ 0 := ivl_ne h.r0
theorem Ok.ip (h : S.Ok) : 0 < S.i := ivl_pos h.r0
end Sd
def shd (K : PySem.W.Frag) (S : Sd) : D := .ins (He.ga K "Shade") [("light", cyc K S.rl S.sl), ("cover", cyc K S.rc S.sc), ("node", cyc K S.rn S.sn), ("width", Fq S.w), ("zero_moment", Fq S.z), ("interval", Fq S.i), ("gain", Fq S.g), ("zero_offset", Fq S.o)]
local macro_rules | `(tactic| k_call_by "n" 0) => `(tactic| ((with_reducible refine' nm_ix rfl ?na ?nb ?nc ?nd); (case na => (repeat (first | with_reducible exact ix0 | with_reducible apply ixS))); (case nb => rfl); (case nc => rfl)))
local macro_rules | `(tactic| k_call_by "v" 0) => `(tactic| first
  | with_reducible refine w_cons ?_
  | with_reducible refine w_nil ?_
  | with_reducible refine w_ret ?_
  | with_reducible refine w_if ?_
  | with_reducible refine ea_cons ?_ (by with_unfolding_all rfl)
  | with_reducible refine ea_nil ?_
  | k_call_by "n" 0
  | with_reducible refine ev_int ?_ | with_reducible refine ev_bl ?_ | with_reducible refine ev_non ?_ | with_reducible refine ev_str ?_
  | with_reducible refine ev_add ?_
  | with_reducible refine ev_sub ?_
  | with_reducible refine ev_mul ?_
  | with_reducible refine ev_fdiv ?_
  | with_reducible refine ev_mod ?_
  | with_reducible refine ev_neg ?_
  | with_reducible refine ev_tup ?_
  | with_reducible refine et_lt ?_ | with_reducible refine et_le ?_ | with_reducible refine et_gt ?_ | with_reducible refine et_ge ?_
  | with_reducible refine ev_lt ?_ | with_reducible refine ev_le ?_ | with_reducible refine ev_gt ?_ | with_reducible refine ev_ge ?_
  | with_reducible refine et_ne ?_ | with_reducible refine et_eq ?_ | with_reducible refine ev_ne ?_ | with_reducible refine ev_eq ?_
  | with_reducible refine et_isN ?_ | with_reducible refine et_notN ?_
  | with_reducible refine et_not ?_
  | with_reducible refine et_and ?_ | with_reducible refine et_or ?_
  | with_reducible refine ew_and ?_ | with_reducible refine ew_or ?_
  | with_reducible refine ew_and1 ?_ | with_reducible refine ew_or1 ?_
  | with_reducible refine ev_and ?_ | with_reducible refine ev_or ?_ | with_reducible refine ev_one ?_ | with_reducible refine ev_not ?_
  | with_reducible refine ev_ifExp ?_
  | with_reducible refine et_call ?_
  | with_reducible refine ev_ixT ?_ (by with_unfolding_all exact fun _ _ => rfl)
  | with_reducible refine ⟨_, _, rfl, rfl, ?_⟩)
local macro_rules | `(tactic| k_call_by "w" 0) => `(tactic| repeat (first | k_call_by "v" 0 | refine ⟨Nat.le_of_ble_eq_true rfl, ?_⟩ | refine ⟨fun z => absurd z (by decide), fun _ => ?_⟩ | refine ⟨fun _ => ?_, fun z => absurd z (by decide)⟩ | refine ⟨_, rfl, ?_⟩ | refine ⟨_, _, _, rfl, rfl, rfl, ?_⟩ | refine ⟨_, _, rfl, ?_⟩ | refine ⟨_, _, _, rfl, ?_⟩ | refine ⟨_, _, _, _, rfl, ?_⟩))
local macro_rules | `(tactic| k_call_by "no" 0) => `(tactic| (intro z; first | (exact absurd z (by decide)) | (exact (nomatch z)) | (simp at z; done)))
local macro_rules | `(tactic| k_call_by "F" 0) => `(tactic| (refine ⟨?no, fun _ => ?_⟩; (case no => k_call_by "no" 0)))
local macro_rules | `(tactic| k_call_by "T" 0) => `(tactic| (refine ⟨fun _ => ?_, ?no⟩; (case no => k_call_by "no" 0)))
local macro_rules | `(tactic| k_call_by "s" 0) => `(tactic| (refine w_cons ?_; k_call_by "w" 0))
section
variable {P : Program} {w : World} {K : PySem.W.Frag} {mg : Str → Option Value} {base : Heap}
abbrev sp_whole_number_darkening : SpecD := sp_whole
theorem kn_whole_number_darkening (T : Tc K mg) : Kn P w K mg base CX0 "whole_number_darkening" 1 (spP K sp_whole_number_darkening) :=
  T.d_whole_number_darkening.kn (ps := ["value"]) (fun _ _ _ _ _ _ us hl => match us, hl with | [_], _ => rfl) fun f fd F => def_ok F sc_whole_number_darkening (fun ds R h => by obtain ⟨_, rfl, _⟩ := h; rfl) fun X hx sc G H ds R h => by
    obtain ⟨i, rfl, hR⟩ := h
    refine w_cons (w_ret (ev_and ?_))
    refine w_isi 0 T.b_isinstance rfl ?_
    k_call_by "v" 0
    refine w_ty 1 T.b_int PyProof.Rows.boot_int nn_int rfl ?_
    refine ⟨_, _, _, true, rfl, .ty "int", .int i, kit_int_int, _, rfl, fun _ => ?_, fun z => nomatch z⟩
    refine ev_one (ev_not ?_)
    refine w_isi 0 T.b_isinstance rfl ?_
    k_call_by "v" 0
    refine w_ty 2 T.b_bool bt_bool nn_bool rfl ?_
    exact ⟨_, _, _, false, rfl, .ty "bool", .int i, kit_int_bool, _, rfl, hR⟩
def sp_check_whole : SpecD := fun ds R => ∃ (n : Int) (d : D), ds = [.int n, d] ∧ R .non
theorem kn_check_whole (T : Tc K mg) : Kn P w K mg base CX0 "check_whole" 2 (spP K sp_check_whole) :=
  T.d_check_whole.kn (ps := ["value", "what"]) (fun _ _ _ _ _ _ us hl => match us, hl with | [_, _], _ => rfl) fun f fd F => def_ok F sc_check_whole (fun ds R h => by obtain ⟨_, _, rfl, _⟩ := h; rfl) fun X hx sc G H ds R h => by
    obtain ⟨n, d, rfl, hR⟩ := h
    k_call_by "s" 0
    refine w_call 0 (kn_whole_number_darkening T) rfl rfl ?_
    k_call_by "w" 0
    exact hR
def sp_check_shade (K : PySem.W.Frag) : SpecX := fun ds R Rx => ∃ (d : D) (t : Value) (b : Bool), ds = [d] ∧ TyD K d t ∧ PySem.W.kitOne K t (.ref (He.ga K "Shade")) = some b ∧ (b = true → R .non) ∧ (b = false → Rx (He.ga K "BadValue") [("what", .str "shade")])
theorem kn_check_shade (T : Tc K mg) : Kn P w K mg base (L2.CX P w) "check_shade" 3 (spX K (sp_check_shade K)) :=
  T.d_check_shade.kn (ps := ["shade"]) (fun _ _ _ _ _ _ us hl => match us, hl with | [_], _ => rfl) fun f fd F => def_okX F sc_check_shade (fun ds R Rx h => by obtain ⟨_, _, _, rfl, _⟩ := h; rfl) fun X hx sc G H ds R Rx tk h => by
    obtain ⟨d, t, b, rfl, ht, hk, hR, hRx⟩ := h
    k_call_by "s" 0
    refine w_isi 0 T.b_isinstance rfl ?_
    k_call_by "n" 0
    refine w_glob (v := .ref (He.ga K "Shade")) 1 T.c_Shade.g rfl rfl ?_
    refine ⟨_, _, _, b, rfl, .own _, ht, hk, b, rfl, fun hb => ?_, fun hb => ?_⟩
    · refine w_cons (w_raise 2 (kne_BadValue T) rfl rfl tk ent_pu (ev_str ⟨_, rfl, hRx (by simpa using hb)⟩))
    · refine w_nil (w_nil (hR (by simpa using hb)))
def sp_check_span_darkening (K : PySem.W.Frag) : SpecX := fun ds R Rx => ∃ (d : D) (t : Value) (b : Bool), ds = [d] ∧ TyD K d t ∧ PySem.W.kitOne K t (.ref (He.ga K "Span")) = some b ∧ (b = true → R .non) ∧ (b = false → Rx (He.ga K "BadValue") [("what", .str "span")])
theorem kn_check_span_darkening (T : Tc K mg) : Kn P w K mg base (L2.CX P w) "check_span_darkening" 3 (spX K (sp_check_span_darkening K)) :=
  T.d_check_span_darkening.kn (ps := ["span"]) (fun _ _ _ _ _ _ us hl => match us, hl with | [_], _ => rfl) fun f fd F => def_okX F sc_check_span_darkening (fun ds R Rx h => by obtain ⟨_, _, _, rfl, _⟩ := h; rfl) fun X hx sc G H ds R Rx tk h => by
    obtain ⟨d, t, b, rfl, ht, hk, hR, hRx⟩ := h
    k_call_by "s" 0
    refine w_isi 0 T.b_isinstance rfl ?_
    k_call_by "n" 0
    refine w_glob (v := .ref (He.ga K "Span")) 1 T.c_Span.g rfl rfl ?_
    refine ⟨_, _, _, b, rfl, .own _, ht, hk, b, rfl, fun hb => ?_, fun hb => ?_⟩
    · refine w_cons (w_raise 2 (kne_BadValue T) rfl rfl tk ent_pu (ev_str ⟨_, rfl, hRx (by simpa using hb)⟩))
    · refine w_nil (w_nil (hR (by simpa using hb)))
def sp_check_width_darkening : SpecD := fun ds R => ∃ q : Rat, ds = [Fq q] ∧ 0 ≤ q ∧ 4 * q < 1 ∧ R .non
theorem four_num {q : Rat} (h : 4 * q < 1) : 4 * q.num < (q.den : Int) := by
  have h' : q < 1 / 4 := by grind
  have := (Q.lt q (1 / 4)).mpr h'
  have e1 : ((1 : Rat) / 4).num = 1 := by decide +kernel
  have e2 : ((1 : Rat) / 4).den = 4 := by decide +kernel
  rw [e1, e2] at this
  omega
theorem kn_check_width_darkening (T : Tc K mg) : Kn P w K mg base CX0 "check_width_darkening" 3 (spP K sp_check_width_darkening) :=
  T.d_check_width_darkening.kn (ps := ["width"]) (fun _ _ _ _ _ _ us hl => match us, hl with | [_], _ => rfl) fun f fd F => def_ok F sc_check_width_darkening (fun ds R h => by obtain ⟨_, rfl, _⟩ := h; rfl) fun X hx sc G H ds R h => by
    obtain ⟨q, rfl, h0, h4, hR⟩ := h
    have n0 : 0 ≤ q.num := Rat.num_nonneg.mpr h0
    have n4 := four_num h4
    k_call_by "s" 0
    refine w_call 0 (kn_is_fraction T.toTx) rfl rfl ?_
    k_call_by "w" 0
    refine ⟨fun _ => ?_, fun z => absurd (of_decide_eq_true z) (by omega)⟩
    k_call_by "w" 0
    refine ⟨.inr (.inr (by decide)), ?_⟩
    k_call_by "w" 0
    refine ⟨fun z => absurd (of_decide_eq_true z) (by omega), fun _ => ?_⟩
    k_call_by "w" 0
    exact hR
def sp_offset_is_dark : SpecD := fun ds R => ∃ o q : Rat, ds = [Fq o, Fq q] ∧ Bq o ∧ Bq q ∧ R (.bl (decide (Q.ab o ≤ q)))
theorem Fq_ab (o : Rat) : Fq (Q.ab o) = .tup [.int (o.num.natAbs : Int), .int (o.den : Int)] := by
  obtain ⟨e1, e2⟩ := Q.ab_nd o
  unfold Fq
  rw [e1, e2]
theorem sgn_le (p q : Rat) : decide (sgn p q ≤ 0) = decide (p ≤ q) := by
  apply decide_eq_decide.mpr
  unfold sgn
  by_cases h : p < q
  · simp [h, Rat.le_of_lt h]
  · by_cases h2 : q < p
    · simp [h, h2, Rat.not_le.mpr h2]
    · simp [h, h2, Rat.not_lt.mp h2]
theorem kn_offset_is_dark (T : Tc K mg) : Kn P w K mg base CX0 "offset_is_dark" 5 (spP K sp_offset_is_dark) :=
  T.d_offset_is_dark.kn (ps := ["offset", "width"]) (fun _ _ _ _ _ _ us hl => match us, hl with | [_, _], _ => rfl) fun f fd F => def_ok F sc_offset_is_dark (fun ds R h => by obtain ⟨_, _, rfl, _⟩ := h; rfl) fun X hx sc G H ds R h => by
    obtain ⟨o, q, rfl, ho, hq, hR⟩ := h
    refine w_cons (w_ret (ev_le (w_call 0 (kn_compare T.toTx) rfl rfl ?_)))
    k_call_by "w" 0
    refine w_abs 1 T.b_abs rfl ?_
    k_call_by "w" 0
    refine ⟨Q.ab o, q, by rw [Fq_ab], ho.ab, hq, ?_⟩
    k_call_by "w" 0
    rw [sgn_le]
    exact hR
end
end Wh

set_option Elab.async false
set_option linter.all false
set_option maxRecDepth 100000
set_option maxHeartbeats 4000000
namespace Wh
open PySem L2 PyProof.Rows DL
theorem three_get {α : Type} {x y z d : α} {i : Nat} (h : [x, y, z][i]? = some d) : i = 0 ∧ d = x ∨ i = 1 ∧ d = y ∨ i = 2 ∧ d = z := by
  match i, h with
  | 0, h => exact .inl ⟨rfl, by simpa [eq_comm] using h⟩
  | 1, h => exact .inr (.inl ⟨rfl, by simpa [eq_comm] using h⟩)
  | 2, h => exact .inr (.inr ⟨rfl, by simpa [eq_comm] using h⟩)
  | n + 3, h => simp at h
local macro_rules | `(tactic| k_call_by "n" 0) => `(tactic| ((with_reducible refine' nm_ix rfl ?na ?nb ?nc ?nd); (case na => (repeat (first | with_reducible exact ix0 | with_reducible apply ixS))); (case nb => rfl); (case nc => rfl)))
local macro_rules | `(tactic| k_call_by "v" 0) => `(tactic| first
  | with_reducible refine w_cons ?_
  | with_reducible refine w_nil ?_
  | with_reducible refine w_ret ?_
  | with_reducible refine w_if ?_
  | with_reducible refine ea_cons ?_ (by with_unfolding_all rfl)
  | with_reducible refine ea_nil ?_
  | k_call_by "n" 0
  | with_reducible refine ev_int ?_ | with_reducible refine ev_bl ?_ | with_reducible refine ev_non ?_ | with_reducible refine ev_str ?_
  | with_reducible refine ev_add ?_
  | with_reducible refine ev_sub ?_
  | with_reducible refine ev_mul ?_
  | with_reducible refine ev_fdiv ?_
  | with_reducible refine ev_mod ?_
  | with_reducible refine ev_neg ?_
  | with_reducible refine ev_tup ?_
  | with_reducible refine et_lt ?_ | with_reducible refine et_le ?_ | with_reducible refine et_gt ?_ | with_reducible refine et_ge ?_
  | with_reducible refine ev_lt ?_ | with_reducible refine ev_le ?_ | with_reducible refine ev_gt ?_ | with_reducible refine ev_ge ?_
  | with_reducible refine et_ne ?_ | with_reducible refine et_eq ?_ | with_reducible refine ev_ne ?_ | with_reducible refine ev_eq ?_
  | with_reducible refine et_isN ?_ | with_reducible refine et_notN ?_
  | with_reducible refine et_not ?_
  | with_reducible refine et_and ?_ | with_reducible refine et_or ?_
  | with_reducible refine ew_and ?_ | with_reducible refine ew_or ?_
  | with_reducible refine ew_and1 ?_ | with_reducible refine ew_or1 ?_
  | with_reducible refine ev_and ?_ | with_reducible refine ev_or ?_ | with_reducible refine ev_one ?_ | with_reducible refine ev_not ?_
  | with_reducible refine ev_ifExp ?_
  | with_reducible refine et_call ?_
  | with_reducible refine ev_ixT ?_ (by with_unfolding_all exact fun _ _ => rfl)
  | with_reducible refine ⟨_, _, rfl, rfl, ?_⟩)
local macro_rules | `(tactic| k_call_by "w" 0) => `(tactic| repeat (first | k_call_by "v" 0 | refine ⟨Nat.le_of_ble_eq_true rfl, ?_⟩ | refine ⟨fun z => absurd z (by decide), fun _ => ?_⟩ | refine ⟨fun _ => ?_, fun z => absurd z (by decide)⟩ | refine ⟨_, rfl, ?_⟩ | refine ⟨_, _, _, rfl, rfl, rfl, ?_⟩ | refine ⟨_, _, rfl, ?_⟩ | refine ⟨_, _, _, rfl, ?_⟩ | refine ⟨_, _, _, _, rfl, ?_⟩))
local macro_rules | `(tactic| k_call_by "no" 0) => `(tactic| (intro z; first | (exact absurd z (by decide)) | (exact (nomatch z)) | (simp at z; done)))
local macro_rules | `(tactic| k_call_by "F" 0) => `(tactic| (refine ⟨?no, fun _ => ?_⟩; (case no => k_call_by "no" 0)))
local macro_rules | `(tactic| k_call_by "T" 0) => `(tactic| (refine ⟨fun _ => ?_, ?no⟩; (case no => k_call_by "no" 0)))
local macro_rules | `(tactic| k_call_by "s" 0) => `(tactic| (refine w_cons ?_; k_call_by "w" 0))
section
variable {P : Program} {w : World} {K : PySem.W.Frag} {mg : Str → Option Value} {base : Heap}
def sp_Shade_init (K : PySem.W.Frag) : SpecI := fun ds R => ∃ S : Sd, ds = [cyc K S.rl S.sl, cyc K S.rc S.sc, cyc K S.rn S.sn, Fq S.w] ∧ S.Ok ∧ R [("light", cyc K S.rl S.sl), ("cover", cyc K S.rc S.sc), ("node", cyc K S.rn S.sn), ("width", Fq S.w), ("zero_moment", Fq S.z), ("interval", Fq S.i), ("gain", Fq S.g), ("zero_offset", Fq S.o)]
theorem rat_eq {p q : Rat} (h : p.num = q.num ∧ (p.den : Int) = (q.den : Int)) : p = q := by
  rw [← Q.self p, ← Q.self q, h.1, h.2]
theorem kn_Shade_init (T : Tc K mg) : KnIK P w K mg base "Shade" "width" (He.ga K "Shade") 3 8 (sp_Shade_init K) := by
  obtain ⟨fd, F⟩ := T.i_Shade_init
  refine ⟨_, fd, ["self", "light", "cover", "node", "width"], T.c_Shade.g, T.c_Shade.mkr, bindsK (n := 4) F (fun _ _ _ _ _ _ us v hl => match us, hl with | [_, _, _, _], _ => rfl), def_okI F sc_Shade_init (fun ds R h => by obtain ⟨_, rfl, _⟩ := h; rfl) fun X hx sc p dx E ds R h => ?_⟩
  obtain ⟨S, rfl, hS, hR⟩ := h
  have eg : S.rc - S.rl = S.r := rfl
  have ed : S.sc - S.sl = S.d := rfl
  refine w_cons (w_forT [5, 6] rfl (.cons rfl rfl (.cons rfl rfl .nil)) rfl (iv_tup ?_))
  k_call_by "w" 0
  refine ⟨fun i ω δ => ω = [Cell.inst K p (He.ga K "Shade") dx []] ∧ ∃ a b, δ = [some (.s (.ref p)), some (cyc K S.rl S.sl), some (cyc K S.rc S.sc), some (cyc K S.rn S.sn), some (Fq S.w), a, b], ⟨rfl, none, none, rfl⟩, fun i e ω δ hd hP => ?_, fun ω δ hP => ?_⟩
  · obtain ⟨rfl, a, b, rfl⟩ := hP
    have : ∃ (x : Str) (r s : Rat), e = .tup [.str x, cyc K r s] := by
      rcases three_get hd with ⟨_, rfl⟩ | ⟨_, rfl⟩ | ⟨_, rfl⟩ <;> exact ⟨_, _, _, rfl⟩
    obtain ⟨x, r, s, rfl⟩ := this
    refine ⟨_, rfl, rfl, ?_⟩
    k_call_by "s" 0
    refine w_isi 0 T.b_isinstance rfl ?_
    k_call_by "n" 0
    refine w_glob (v := .ref (He.ga K "Cycle")) 1 T.c_Cycle.g rfl rfl ?_
    refine ⟨_, _, _, true, rfl, .own _, .ins T.c_Cycle.i, kit_self (by simp), _, rfl, ?_⟩
    k_call_by "w" 0
    exact ⟨rfl, _, _, rfl⟩
  · obtain ⟨rfl, a, b, rfl⟩ := hP
    refine w_cons (w_expr (w_call 3 (kn_check_width_darkening T) rfl rfl ?_))
    k_call_by "w" 0
    refine ⟨hS.w0, hS.w4, ?_⟩
    refine w_cons (w_if (et_eqP (w_fC T ?_ (by decide))))
    k_call_by "n" 0
    refine ⟨_, _, rfl, rfl, w_fC T ?_ (by decide)⟩
    k_call_by "n" 0
    refine ⟨_, _, rfl, rfl, ?_⟩
    refine ⟨_, _, _, _, rfl, rfl, fun hc => ?_, fun _ => ?_⟩
    · have h1 := rat_eq (of_decide_eq_true hc)
      have h2 := hS.r0
      rw [Sd.r, h1] at h2
      exact absurd (Rat.sub_self) h2
    refine w_nil (w_cons (w_setf T.c_Shade.i.cl (T.na_Shade _ (by decide)) (Nat.le_of_ble_eq_true rfl) rfl ?_))
    k_call_by "n" 0
    k_call_by "n" 0
    refine ⟨rfl, ?_⟩
    refine w_cons (w_setf T.c_Shade.i.cl (T.na_Shade _ (by decide)) (Nat.le_of_ble_eq_true rfl) rfl ?_)
    k_call_by "n" 0
    k_call_by "n" 0
    refine ⟨rfl, ?_⟩
    refine w_cons (w_setf T.c_Shade.i.cl (T.na_Shade _ (by decide)) (Nat.le_of_ble_eq_true rfl) rfl ?_)
    k_call_by "n" 0
    k_call_by "n" 0
    refine ⟨rfl, ?_⟩
    refine w_cons (w_setf T.c_Shade.i.cl (T.na_Shade _ (by decide)) (Nat.le_of_ble_eq_true rfl) rfl ?_)
    k_call_by "n" 0
    k_call_by "n" 0
    refine ⟨rfl, ?_⟩
    refine w_cons (w_setf2 T.c_Shade.i.cl (T.na_Shade _ (by decide)) (T.na_Shade _ (by decide)) (Nat.le_of_ble_eq_true rfl) rfl (w_call 5 (kn_meeting_rule T) rfl rfl ?_) (fun _ => Nat.le_of_ble_eq_true rfl))
    k_call_by "v" 0
    refine ev_lst ?_
    k_call_by "v" 0
    k_call_by "n" 0
    k_call_by "v" 0
    k_call_by "n" 0
    k_call_by "v" 0
    refine ⟨Nat.le_of_ble_eq_true rfl, ?_⟩
    k_call_by "v" 0
    refine ⟨S.rl, S.sl, S.rc, S.sc, rfl, hS.r0, hS.rl, hS.sl, hS.rc, hS.sc, _, _, rfl, ?_⟩
    k_call_by "n" 0
    refine ⟨rfl, ?_⟩
    k_call_by "n" 0
    refine ⟨rfl, ?_⟩
    refine w_cons (w_setf T.c_Shade.i.cl (T.na_Shade _ (by decide)) (Nat.le_of_ble_eq_true rfl) rfl (w_call 6 (kn_times T.toTx) rfl rfl ?_))
    k_call_by "v" 0
    refine w_own T.c_Shade.i.cl (T.na_Shade _ (by decide)) rfl ?_
    k_call_by "n" 0
    refine ⟨rfl, Fq S.i, rfl, ?_⟩
    k_call_by "v" 0
    refine w_call 7 (kn_minus T.toTx) rfl rfl ?_
    k_call_by "v" 0
    refine w_fC T ?_ (by decide)
    k_call_by "w" 0
    refine w_fC T ?_ (by decide)
    k_call_by "w" 0
    refine ⟨bq hS.rn, bq hS.rl, ?_⟩
    k_call_by "w" 0
    refine ⟨bq hS.bi, bq (hS.rn.sub hS.rl), ?_⟩
    k_call_by "n" 0
    refine ⟨rfl, ?_⟩
    refine w_cons (w_setf T.c_Shade.i.cl (T.na_Shade _ (by decide)) (Nat.le_of_ble_eq_true rfl) rfl (w_call 8 (kn_offset_of T.toTx) rfl rfl ?_))
    k_call_by "v" 0
    refine w_call 7 (kn_minus T.toTx) rfl rfl ?_
    k_call_by "v" 0
    refine w_meth (kn_Cycle_place T) rfl ?_
    k_call_by "w" 0
    refine ⟨rfl, ?_⟩
    k_call_by "v" 0
    refine w_own T.c_Shade.i.cl (T.na_Shade _ (by decide)) rfl ?_
    k_call_by "n" 0
    refine ⟨rfl, Fq S.z, rfl, ?_⟩
    k_call_by "w" 0
    refine ⟨bq hS.rn, bq hS.sn, bq hS.bz, bq (hS.rn.mul hS.bz), ?_⟩
    k_call_by "v" 0
    refine w_meth (kn_Cycle_place T) rfl ?_
    k_call_by "w" 0
    refine ⟨rfl, ?_⟩
    k_call_by "v" 0
    refine w_own T.c_Shade.i.cl (T.na_Shade _ (by decide)) rfl ?_
    k_call_by "n" 0
    refine ⟨rfl, Fq S.z, rfl, ?_⟩
    k_call_by "w" 0
    refine ⟨bq hS.rl, bq hS.sl, bq hS.bz, bq (hS.rl.mul hS.bz), ?_⟩
    k_call_by "w" 0
    refine ⟨bq hS.btn.part, bq hS.btl.part, ?_⟩
    k_call_by "w" 0
    refine ⟨rfl, w_nil ⟨_, rfl, ?_⟩⟩
    exact hR
end
end Wh

set_option Elab.async false
set_option linter.all false
set_option maxRecDepth 100000
set_option maxHeartbeats 4000000
namespace Wh
open PySem L2 PyProof.Rows DL
namespace Sd
variable {S : Sd}
def off (S : Sd) (n : Int) : Rat := Q.offs (S.o + (n : Rat) * S.g)
theorem Ok.bm {n : Int} (h : S.Ok) (hn : n.natAbs < 2 ^ 660) : Q.B 911 (mom S.z S.i n) := h.bz.add ((Q.B.ofInt hn).mul h.bi)
end Sd
/-- n % bottom * top / bottom, up to an int -/
theorem frac_int (n : Int) (g : Rat) : Rat.divInt (n % (g.den : Int) * g.num) (g.den : Int) = (n : Rat) * g + ((-(n / (g.den : Int) * g.num) : Int) : Rat) := by
  have hd : ((g.den : Int) : Rat) ≠ 0 := by have := Q.den_ne g; exact_mod_cast this
  have e := Q.val g
  rw [Rat.divInt_eq_div]
  have h1 : n % (g.den : Int) = n - (g.den : Int) * (n / (g.den : Int)) := Int.emod_def _ _
  rw [h1]
  push_cast
  rw [Rat.div_def] at e ⊢
  have key : ∀ (N D Di q n g : Rat), g = N * Di → D * Di = 1 → (n - D * q) * N * Di = n * g + -(q * N) := by
    intro N D Di q n g h1 h2
    subst h1
    grind
  exact key _ _ _ _ _ _ e (Q.mul_inv hd)
local macro_rules | `(tactic| k_call_by "n" 0) => `(tactic| ((with_reducible refine' nm_ix rfl ?na ?nb ?nc ?nd); (case na => (repeat (first | with_reducible exact ix0 | with_reducible apply ixS))); (case nb => rfl); (case nc => rfl)))
local macro_rules | `(tactic| k_call_by "v" 0) => `(tactic| first
  | with_reducible refine w_cons ?_
  | with_reducible refine w_nil ?_
  | with_reducible refine w_ret ?_
  | with_reducible refine w_if ?_
  | with_reducible refine ea_cons ?_ (by with_unfolding_all rfl)
  | with_reducible refine ea_nil ?_
  | k_call_by "n" 0
  | with_reducible refine ev_int ?_ | with_reducible refine ev_bl ?_ | with_reducible refine ev_non ?_ | with_reducible refine ev_str ?_
  | with_reducible refine ev_add ?_
  | with_reducible refine ev_sub ?_
  | with_reducible refine ev_mul ?_
  | with_reducible refine ev_fdiv ?_
  | with_reducible refine ev_mod ?_
  | with_reducible refine ev_neg ?_
  | with_reducible refine ev_tup ?_
  | with_reducible refine et_lt ?_ | with_reducible refine et_le ?_ | with_reducible refine et_gt ?_ | with_reducible refine et_ge ?_
  | with_reducible refine ev_lt ?_ | with_reducible refine ev_le ?_ | with_reducible refine ev_gt ?_ | with_reducible refine ev_ge ?_
  | with_reducible refine et_ne ?_ | with_reducible refine et_eq ?_ | with_reducible refine ev_ne ?_ | with_reducible refine ev_eq ?_
  | with_reducible refine et_isN ?_ | with_reducible refine et_notN ?_
  | with_reducible refine et_not ?_
  | with_reducible refine et_and ?_ | with_reducible refine et_or ?_
  | with_reducible refine ew_and ?_ | with_reducible refine ew_or ?_
  | with_reducible refine ew_and1 ?_ | with_reducible refine ew_or1 ?_
  | with_reducible refine ev_and ?_ | with_reducible refine ev_or ?_ | with_reducible refine ev_one ?_ | with_reducible refine ev_not ?_
  | with_reducible refine ev_ifExp ?_
  | with_reducible refine et_call ?_
  | with_reducible refine ev_ixT ?_ (by with_unfolding_all exact fun _ _ => rfl)
  | with_reducible refine ⟨_, _, rfl, rfl, ?_⟩)
local macro_rules | `(tactic| k_call_by "w" 0) => `(tactic| repeat (first | k_call_by "v" 0 | refine ⟨Nat.le_of_ble_eq_true rfl, ?_⟩ | refine ⟨fun z => absurd z (by decide), fun _ => ?_⟩ | refine ⟨fun _ => ?_, fun z => absurd z (by decide)⟩ | refine ⟨_, rfl, ?_⟩ | refine ⟨_, _, _, rfl, rfl, rfl, ?_⟩ | refine ⟨_, _, rfl, ?_⟩ | refine ⟨_, _, _, rfl, ?_⟩ | refine ⟨_, _, _, _, rfl, ?_⟩))
local macro_rules | `(tactic| k_call_by "no" 0) => `(tactic| (intro z; first | (exact absurd z (by decide)) | (exact (nomatch z)) | (simp at z; done)))
local macro_rules | `(tactic| k_call_by "F" 0) => `(tactic| (refine ⟨?no, fun _ => ?_⟩; (case no => k_call_by "no" 0)))
local macro_rules | `(tactic| k_call_by "T" 0) => `(tactic| (refine ⟨fun _ => ?_, ?no⟩; (case no => k_call_by "no" 0)))
local macro_rules | `(tactic| k_call_by "s" 0) => `(tactic| (refine w_cons ?_; k_call_by "w" 0))
section
variable {P : Program} {w : World} {K : PySem.W.Frag} {mg : Str → Option Value} {base : Heap}
def sp_Shade_moment_of (K : PySem.W.Frag) : SpecD := fun ds R => ∃ (S : Sd) (n : Int), ds = [shd K S, .int n] ∧ S.Ok ∧ n.natAbs < 2 ^ 660 ∧ R (Fq (mom S.z S.i n))
theorem kn_Shade_moment_of (T : Tc K mg) : KnM P w K mg base CX0 (He.ga K "Shade") "moment_of" 5 (spP K (sp_Shade_moment_of K)) :=
  T.m_Shade_moment_of.kn T.c_Shade (ps := ["self", "number"]) (fun _ _ _ _ _ _ us hl => match us, hl with | [_, _], _ => rfl) fun f fd F => def_ok F sc_Shade_moment_of (fun ds R h => by obtain ⟨_, _, rfl, _⟩ := h; rfl) fun X hx sc G H ds R h => by
    obtain ⟨S, n, rfl, hS, hn, hR⟩ := h
    refine w_cons (w_expr (w_call 0 (kn_check_whole T) rfl rfl ?_))
    k_call_by "w" 0
    refine w_call 1 (kn_plus T.toTx) rfl rfl ?_
    k_call_by "v" 0
    refine w_fH T ?_ (by decide)
    k_call_by "w" 0
    refine w_call 2 (kn_times T.toTx) rfl rfl ?_
    k_call_by "w" 0
    refine w_fH T ?_ (by decide)
    k_call_by "w" 0
    refine ⟨(n : Rat), S.i, rfl, bq (Q.B.ofInt hn), bq hS.bi, ?_⟩
    k_call_by "w" 0
    exact ⟨bq hS.bz, bq ((Q.B.ofInt hn).mul hS.bi), hR⟩
def sp_Shade_offset (K : PySem.W.Frag) : SpecD := fun ds R => ∃ (S : Sd) (n : Int), ds = [shd K S, .int n] ∧ S.Ok ∧ R (Fq (S.off n))
theorem kn_Shade_offset (T : Tc K mg) : KnM P w K mg base CX0 (He.ga K "Shade") "offset" 5 (spP K (sp_Shade_offset K)) :=
  T.m_Shade_offset.kn T.c_Shade (ps := ["self", "number"]) (fun _ _ _ _ _ _ us hl => match us, hl with | [_, _], _ => rfl) fun f fd F => def_ok F sc_Shade_offset (fun ds R h => by obtain ⟨_, _, rfl, _⟩ := h; rfl) fun X hx sc G H ds R h => by
    obtain ⟨S, n, rfl, hS, hR⟩ := h
    have bg := hS.bg
    have hd := den_small (bq hS.bg)
    refine w_cons (w_expr (w_call 0 (kn_check_whole T) rfl rfl ?_))
    k_call_by "w" 0
    refine w_unpack2 2 3 rfl rfl rfl rfl rfl (w_fH T ?_ (by decide))
    k_call_by "w" 0
    refine w_call 1 (kn_offset_of T.toTx) rfl rfl ?_
    k_call_by "v" 0
    refine w_call 2 (kn_plus T.toTx) rfl rfl ?_
    k_call_by "v" 0
    refine w_fH T ?_ (by decide)
    k_call_by "w" 0
    refine w_call 3 (kn_fraction T) rfl rfl ?_
    k_call_by "w" 0
    refine ⟨Q.den_pos _, ?_⟩
    k_call_by "w" 0
    have bm : (n % (S.g.den : Int)).natAbs < 2 ^ 163 := by
      have h1 := Int.emod_nonneg n (Q.den_ne S.g)
      have h2 := Int.emod_lt_of_pos n (Q.den_pos S.g)
      have h3 := bg.2
      omega
    refine ⟨mulOk bm bg.1, ?_⟩
    k_call_by "w" 0
    refine ⟨Q.den_ne _, hd.2, ?_⟩
    k_call_by "w" 0
    have bf : Q.B 326 (Rat.divInt (n % (S.g.den : Int) * S.g.num) (S.g.den : Int)) := Q.B.low (Q.den_ne _) (mul_bd bm bg.1 _) (Nat.lt_of_lt_of_le bg.2 (Nat.pow_le_pow_right (by omega) (by omega)))
    refine ⟨bq hS.bo, bq bf, ?_⟩
    k_call_by "w" 0
    rw [frac_int, ← Rat.add_assoc, Q.offs_add]
    exact hR
def sp_Shade_is_dark (K : PySem.W.Frag) : SpecD := fun ds R => ∃ (S : Sd) (n : Int), ds = [shd K S, .int n] ∧ S.Ok ∧ R (.bl (decide (Q.ab (S.off n) ≤ S.w)))
def sp_Shade_number_from (K : PySem.W.Frag) : SpecD := fun ds R => ∃ (S : Sd) (m : Rat), ds = [shd K S, Fq m] ∧ S.Ok ∧ Q.B 400 m ∧ R (.int (stp S.z S.i m))
theorem kn_Shade_number_from (T : Tc K mg) : KnM P w K mg base CX0 (He.ga K "Shade") "number_from" 5 (spP K (sp_Shade_number_from K)) :=
  T.m_Shade_number_from.kn T.c_Shade (ps := ["self", "moment"]) (fun _ _ _ _ _ _ us hl => match us, hl with | [_, _], _ => rfl) fun f fd F => def_ok F sc_Shade_number_from (fun ds R h => by obtain ⟨_, _, rfl, _⟩ := h; rfl) fun X hx sc G H ds R h => by
    obtain ⟨S, m, rfl, hS, hm, hR⟩ := h
    k_call_by "s" 0
    refine w_call 0 (kn_is_fraction T.toTx) rfl rfl ?_
    k_call_by "w" 0
    refine w_call 2 (kn_floor_of T.toTx) rfl rfl ?_
    k_call_by "v" 0
    refine w_call 3 (kn_over T.toTx) rfl rfl ?_
    k_call_by "v" 0
    refine w_call 4 (kn_minus T.toTx) rfl rfl ?_
    k_call_by "v" 0
    refine w_fH T ?_ (by decide)
    k_call_by "w" 0
    refine ⟨bq hS.bz, bq hm, ?_⟩
    k_call_by "w" 0
    refine w_fH T ?_ (by decide)
    k_call_by "w" 0
    refine ⟨bq (hS.bz.sub hm), bq hS.bi, hS.i0, ?_⟩
    k_call_by "w" 0
    refine ⟨bq ((hS.bz.sub hm).div hS.bi hS.i0), ?_⟩
    k_call_by "w" 0
    exact hR
end
end Wh

set_option Elab.async false
set_option linter.all false
set_option maxRecDepth 100000
set_option maxHeartbeats 4000000
namespace Wh
open PySem L2 PyProof.Rows DL
namespace Sd
variable {S : Sd}
/-- the number of the meetings from a to b; the first one's number -/
def c (S : Sd) (a b : Rat) : Int := cnt S.z S.i a b
def l (S : Sd) (a : Rat) : Int := stp S.z S.i a
theorem Ok.bl {a : Rat} (h : S.Ok) (ha : Q.B 400 a) : (S.l a).natAbs < 2 ^ 651 := by
  have h1 := stp_bd h.bz h.bi ha h.i0
  exact Nat.lt_of_lt_of_le h1 (Nat.pow_le_pow_right (by omega) (by decide))
theorem boff {n : Int} (h : S.Ok) (hn : n.natAbs < 2 ^ 660) : Q.B 1422 (S.off n) := (h.bo.add ((Q.B.ofInt hn).mul h.bg)).offs
/-- a row of the roll -/
def row (S : Sd) (n : Int) : D := .tup [.int n, Fq (mom S.z S.i n), Fq (S.off n), .bl (decide (Q.ab (S.off n) ≤ S.w))]
def rows (S : Sd) (a b : Rat) : List D := (List.range (S.c a b).toNat).map fun (k : Nat) => S.row (S.l a + k)
end Sd
local macro_rules | `(tactic| k_call_by "n" 0) => `(tactic| ((with_reducible refine' nm_ix rfl ?na ?nb ?nc ?nd); (case na => (repeat (first | with_reducible exact ix0 | with_reducible apply ixS))); (case nb => rfl); (case nc => rfl)))
local macro_rules | `(tactic| k_call_by "v" 0) => `(tactic| first
  | with_reducible refine w_cons ?_
  | with_reducible refine w_nil ?_
  | with_reducible refine w_ret ?_
  | with_reducible refine w_if ?_
  | with_reducible refine ea_cons ?_ (by with_unfolding_all rfl)
  | with_reducible refine ea_nil ?_
  | k_call_by "n" 0
  | with_reducible refine ev_int ?_ | with_reducible refine ev_bl ?_ | with_reducible refine ev_non ?_ | with_reducible refine ev_str ?_
  | with_reducible refine ev_add ?_
  | with_reducible refine ev_sub ?_
  | with_reducible refine ev_mul ?_
  | with_reducible refine ev_fdiv ?_
  | with_reducible refine ev_mod ?_
  | with_reducible refine ev_neg ?_
  | with_reducible refine ev_tup ?_
  | with_reducible refine et_lt ?_ | with_reducible refine et_le ?_ | with_reducible refine et_gt ?_ | with_reducible refine et_ge ?_
  | with_reducible refine ev_lt ?_ | with_reducible refine ev_le ?_ | with_reducible refine ev_gt ?_ | with_reducible refine ev_ge ?_
  | with_reducible refine et_ne ?_ | with_reducible refine et_eq ?_ | with_reducible refine ev_ne ?_ | with_reducible refine ev_eq ?_
  | with_reducible refine et_isN ?_ | with_reducible refine et_notN ?_
  | with_reducible refine et_not ?_
  | with_reducible refine et_and ?_ | with_reducible refine et_or ?_
  | with_reducible refine ew_and ?_ | with_reducible refine ew_or ?_
  | with_reducible refine ew_and1 ?_ | with_reducible refine ew_or1 ?_
  | with_reducible refine ev_and ?_ | with_reducible refine ev_or ?_ | with_reducible refine ev_one ?_ | with_reducible refine ev_not ?_
  | with_reducible refine ev_ifExp ?_
  | with_reducible refine et_call ?_
  | with_reducible refine ev_ixT ?_ (by with_unfolding_all exact fun _ _ => rfl)
  | with_reducible refine ⟨_, _, rfl, rfl, ?_⟩)
local macro_rules | `(tactic| k_call_by "w" 0) => `(tactic| repeat (first | k_call_by "v" 0 | refine ⟨Nat.le_of_ble_eq_true rfl, ?_⟩ | refine ⟨fun z => absurd z (by decide), fun _ => ?_⟩ | refine ⟨fun _ => ?_, fun z => absurd z (by decide)⟩ | refine ⟨_, rfl, ?_⟩ | refine ⟨_, _, _, rfl, rfl, rfl, ?_⟩ | refine ⟨_, _, rfl, ?_⟩ | refine ⟨_, _, _, rfl, ?_⟩ | refine ⟨_, _, _, _, rfl, ?_⟩))
local macro_rules | `(tactic| k_call_by "no" 0) => `(tactic| (intro z; first | (exact absurd z (by decide)) | (exact (nomatch z)) | (simp at z; done)))
local macro_rules | `(tactic| k_call_by "F" 0) => `(tactic| (refine ⟨?no, fun _ => ?_⟩; (case no => k_call_by "no" 0)))
local macro_rules | `(tactic| k_call_by "T" 0) => `(tactic| (refine ⟨fun _ => ?_, ?no⟩; (case no => k_call_by "no" 0)))
local macro_rules | `(tactic| k_call_by "s" 0) => `(tactic| (refine w_cons ?_; k_call_by "w" 0))
section
variable {P : Program} {w : World} {K : PySem.W.Frag} {mg : Str → Option Value} {base : Heap}
def sp_Shade_is_dark' (K : PySem.W.Frag) : SpecD := fun ds R => ∃ (S : Sd) (n : Int), ds = [shd K S, .int n] ∧ S.Ok ∧ n.natAbs < 2 ^ 660 ∧ R (.bl (decide (Q.ab (S.off n) ≤ S.w)))
theorem kn_Shade_is_dark (T : Tc K mg) : KnM P w K mg base CX0 (He.ga K "Shade") "is_dark" 6 (spP K (sp_Shade_is_dark' K)) :=
  T.m_Shade_is_dark.kn T.c_Shade (ps := ["self", "number"]) (fun _ _ _ _ _ _ us hl => match us, hl with | [_, _], _ => rfl) fun f fd F => def_ok F sc_Shade_is_dark (fun ds R h => by obtain ⟨_, _, rfl, _⟩ := h; rfl) fun X hx sc G H ds R h => by
    obtain ⟨S, n, rfl, hS, hn, hR⟩ := h
    refine w_cons (w_ret (w_call 0 (kn_offset_is_dark T) rfl rfl ?_))
    k_call_by "v" 0
    refine w_meth (kn_Shade_offset T) rfl ?_
    k_call_by "w" 0
    refine ⟨rfl, ?_⟩
    k_call_by "w" 0
    refine ⟨hS, ?_⟩
    k_call_by "v" 0
    refine w_fH T ?_ (by decide)
    k_call_by "w" 0
    exact ⟨bq (Sd.boff hS hn), bq hS.w, hR⟩
def sp_roll_bounds (K : PySem.W.Frag) : SpecX := fun ds R Rx => ∃ (S : Sd) (a b : Rat), ds = [shd K S, spn K a b] ∧ S.Ok ∧ Q.B 400 a ∧ Q.B 400 b ∧ (S.c a b ≤ 400 → R (.tup [.int (S.l a), .int (S.l a + S.c a b)])) ∧ (400 < S.c a b → Rx (He.ga K "TooMany") [("limit", .int 400)])
theorem kn_roll_bounds (T : Tc K mg) : Kn P w K mg base (L2.CX P w) "roll_bounds" 6 (spX K (sp_roll_bounds K)) :=
  T.d_roll_bounds.kn (ps := ["shade", "span"]) (fun _ _ _ _ _ _ us hl => match us, hl with | [_, _], _ => rfl) fun f fd F => def_okX F sc_roll_bounds (fun ds R Rx h => by obtain ⟨_, _, _, rfl, _⟩ := h; rfl) fun X hx sc G H ds R Rx tk h => by
    obtain ⟨S, a, b, rfl, hS, ha, hb, hR, hRx⟩ := h
    obtain ⟨t, ht⟩ := T.c_ROLL_LIMIT
    refine w_cons (w_asg 2 rfl rfl rfl (w_meth (kn_Shade_number_from T) rfl ?_))
    k_call_by "w" 0
    refine ⟨rfl, ?_⟩
    k_call_by "v" 0
    refine w_fS T ?_ (by decide)
    k_call_by "w" 0
    refine ⟨hS, ha, ?_⟩
    refine w_cons (w_asg 3 rfl rfl rfl (w_call 0 (kn_minus T.toTx) rfl rfl ?_))
    k_call_by "v" 0
    refine w_fS T ?_ (by decide)
    k_call_by "w" 0
    refine w_meth (kn_Shade_moment_of T) rfl ?_
    k_call_by "w" 0
    refine ⟨rfl, ?_⟩
    k_call_by "w" 0
    refine ⟨hS, by decide, ?_⟩
    have e0 : mom S.z S.i 0 = S.z := by unfold mom; rw [show ((0 : Int) : Rat) = 0 from rfl, Rat.zero_mul, Rat.add_zero]
    rw [e0]
    k_call_by "w" 0
    refine ⟨bq hb, bq hS.bz, ?_⟩
    refine w_cons (w_asg 4 rfl rfl rfl (ev_add (w_call 1 (kn_floor_of T.toTx) rfl rfl ?_)))
    k_call_by "v" 0
    refine w_call 2 (kn_over T.toTx) rfl rfl ?_
    k_call_by "w" 0
    refine w_fH T ?_ (by decide)
    k_call_by "w" 0
    refine ⟨bq (hb.sub hS.bz), bq hS.bi, hS.i0, ?_⟩
    k_call_by "w" 0
    refine ⟨bq ((hb.sub hS.bz).div hS.bi hS.i0), ?_⟩
    have e1 : ((b - S.z) / S.i).floor + 1 = S.l a + S.c a b := by unfold Sd.l Sd.c cnt; omega
    k_call_by "w" 0
    rw [e1]
    k_call_by "w" 0
    refine w_glob (v := .int 400) 3 ht ⟨t, rfl⟩ rfl ?_
    k_call_by "w" 0
    have e3 : stp S.z S.i a = S.l a := rfl
    rw [e3]
    refine ⟨fun hc => ?_, fun hc => ?_⟩
    · have hc : 400 < S.c a b := by have := of_decide_eq_true hc; omega
      exact w_cons (w_raise 4 (kne_TooMany T) rfl rfl tk ent_pu (w_glob (v := .int 400) 3 ht ⟨t, rfl⟩ rfl ⟨_, rfl, hRx hc⟩))
    · have hc : S.c a b ≤ 400 := by have := of_decide_eq_false hc; omega
      k_call_by "w" 0
      exact hR hc
def sp_roll (K : PySem.W.Frag) : SpecXO := fun ds R Rx => ∃ (d1 d2 : D) (t1 t2 : Value) (b1 b2 : Bool), ds = [d1, d2] ∧ TyD K d1 t1 ∧ TyD K d2 t2 ∧ PySem.W.kitOne K t1 (.ref (He.ga K "Shade")) = some b1 ∧ PySem.W.kitOne K t2 (.ref (He.ga K "Span")) = some b2 ∧
  (b1 = false → Rx (He.ga K "BadValue") [("what", .str "shade")]) ∧ (b1 = true → b2 = false → Rx (He.ga K "BadValue") [("what", .str "span")]) ∧
  (b1 = true → b2 = true → ∃ (S : Sd) (a b : Rat), d1 = shd K S ∧ d2 = spn K a b ∧ S.Ok ∧ Q.B 400 a ∧ Q.B 400 b ∧ (S.c a b ≤ 400 → R (S.rows a b)) ∧ (400 < S.c a b → Rx (He.ga K "TooMany") [("limit", .int 400)]))
theorem lk_bd {x : Int} {k : Nat} (h : x.natAbs < 2 ^ 651) (hk : k ≤ 400) : (x + (k : Int)).natAbs < 2 ^ 660 := by
  have h1 : (2 : Nat) ^ 652 = 2 ^ 651 + 2 ^ 651 := by rw [← Nat.two_mul, ← Nat.pow_succ']
  have h3 : 400 < 2 ^ 651 := by decide
  have h4 : (2 : Nat) ^ 652 ≤ 2 ^ 660 := Nat.pow_le_pow_right (by omega) (by omega)
  omega
theorem kn_roll (T : Tc K mg) : Kn P w K mg base (L2.CX P w) "roll" 7 (spXO K (sp_roll K)) :=
  T.d_roll.kn (ps := ["shade", "span"]) (fun _ _ _ _ _ _ us hl => match us, hl with | [_, _], _ => rfl) fun f fd F => def_okXO F sc_roll (fun ds R Rx h => by obtain ⟨_, _, _, _, _, _, rfl, _⟩ := h; rfl) fun X hx sc G H ds R Rx tk h => by
    obtain ⟨d1, d2, t1, t2, b1, b2, rfl, ht1, ht2, hk1, hk2, hx1, hx2, hok⟩ := h
    refine w_cons (w_expr (w_callX 0 (kn_check_shade T) rfl rfl tk ent_pu ?_))
    k_call_by "w" 0
    refine ⟨_, t1, b1, rfl, ht1, hk1, fun hb1 => ?_, hx1⟩
    refine w_cons (w_expr (w_callX 1 (kn_check_span_darkening T) rfl rfl tk ent_pu ?_))
    k_call_by "w" 0
    refine ⟨_, t2, b2, rfl, ht2, hk2, fun hb2 => ?_, hx2 hb1⟩
    obtain ⟨S, a, b, rfl, rfl, hS, ha, hb, hR, hRx⟩ := hok hb1 hb2
    have hl := hS.bl ha
    refine w_cons (w_unpack2 2 3 rfl rfl rfl rfl rfl (w_callX 2 (kn_roll_bounds T) rfl rfl tk ent_pu ?_))
    k_call_by "w" 0
    refine ⟨hS, ha, hb, fun hc => ?_, hRx⟩
    refine ⟨_, _, rfl, ?_⟩
    refine w_cons (w_newL 4 rfl rfl rfl (ea_nil ⟨Nat.zero_le _, fun p hp => ?_⟩))
    refine w_cons (w_forN 5 rfl rfl rfl (iv_range2 3 T.b_range rfl ?_))
    k_call_by "n" 0
    k_call_by "n" 0
    have e1 : (S.l a + S.c a b - S.l a).toNat = (S.c a b).toNat := by omega
    refine ⟨_, _, rfl, rfl, ?_⟩
    rw [e1]
    refine ⟨fun k ω δ => k ≤ (S.c a b).toNat ∧ ω = [Cell.own X.K p ((List.range k).map fun (j : Nat) => S.row (S.l a + j))] ∧ ∃ x y, δ = [some (shd K S), some (spn K a b), some (.int (S.l a)), some (.int (S.l a + S.c a b)), some (.s (.ref p)), x, y], ⟨Nat.zero_le _, rfl, none, none, rfl⟩, fun k d ω δ hd hP => ?_, fun ω δ hP => ?_⟩
    · obtain ⟨hk, rfl, x, y, rfl⟩ := hP
      obtain ⟨hk', rfl⟩ := intsD_get hd
      have hn : (S.l a + (k : Int)).natAbs < 2 ^ 660 := lk_bd hl (by omega)
      refine w_cons (w_asg 6 rfl rfl rfl (w_meth (kn_Shade_offset T) rfl ?_))
      k_call_by "w" 0
      refine ⟨rfl, ?_⟩
      k_call_by "w" 0
      refine ⟨hS, ?_⟩
      refine w_cons (w_append (ω1 := []) rfl (by rw [List.length_map, List.length_range]; omega) ?_)
      k_call_by "n" 0
      refine ⟨rfl, ?_⟩
      k_call_by "v" 0
      k_call_by "v" 0
      k_call_by "n" 0
      k_call_by "v" 0
      refine w_meth (kn_Shade_moment_of T) rfl ?_
      k_call_by "w" 0
      refine ⟨rfl, ?_⟩
      k_call_by "w" 0
      refine ⟨hS, hn, ?_⟩
      k_call_by "w" 0
      refine w_call 4 (kn_offset_is_dark T) rfl rfl ?_
      k_call_by "w" 0
      refine w_fH T ?_ (by decide)
      k_call_by "w" 0
      refine ⟨bq (Sd.boff hS hn), bq hS.w, ?_⟩
      k_call_by "w" 0
      refine ⟨by omega, ?_, _, _, rfl⟩
      rw [List.range_succ, List.map_append]
      rfl
    · rw [intsD_length] at hP
      obtain ⟨_, rfl, x, y, rfl⟩ := hP
      k_call_by "w" 0
      refine ⟨p, _, rfl, by rw [hx.K]; exact List.Sublist.refl _, hR hc⟩
end
end Wh

set_option Elab.async false
set_option linter.all false
set_option maxRecDepth 100000
set_option maxHeartbeats 4000000
/-! Nearness at a moment. -/
namespace Wh
open PySem L2 PyProof.Rows DL
/-- the line of a rate and a start -/
def lnd (r s : Rat) : D := .tup [.int (r.num * (s.den : Int)), .int (s.num * (r.den : Int)), .int ((r.den : Int) * (s.den : Int))]
def tT (r s m : Rat) : Int := r.num * (s.den : Int) * m.num + s.num * (r.den : Int) * (m.den : Int)
def tB (r s m : Rat) : Int := (r.den : Int) * (s.den : Int) * (m.den : Int)
theorem tB_pos (r s m : Rat) : 0 < tB r s m := Int.mul_pos (Int.mul_pos (Q.den_pos r) (Q.den_pos s)) (Q.den_pos m)
theorem tT_val (r s m : Rat) : (s + r * m) * ((tB r s m : Int) : Rat) = ((tT r s m : Int) : Rat) := by
  have h1 := Q.num_den r
  have h2 := Q.num_den s
  have h3 := Q.num_den m
  unfold tB tT
  push_cast at h1 h2 h3 ⊢
  rw [← h1, ← h2, ← h3]
  grind
local macro_rules | `(tactic| k_call_by "n" 0) => `(tactic| ((with_reducible refine' nm_ix rfl ?na ?nb ?nc ?nd); (case na => (repeat (first | with_reducible exact ix0 | with_reducible apply ixS))); (case nb => rfl); (case nc => rfl)))
local macro_rules | `(tactic| k_call_by "v" 0) => `(tactic| first
  | with_reducible refine w_cons ?_
  | with_reducible refine w_nil ?_
  | with_reducible refine w_ret ?_
  | with_reducible refine w_if ?_
  | with_reducible refine ea_cons ?_ (by with_unfolding_all rfl)
  | with_reducible refine ea_nil ?_
  | k_call_by "n" 0
  | with_reducible refine ev_int ?_ | with_reducible refine ev_bl ?_ | with_reducible refine ev_non ?_ | with_reducible refine ev_str ?_
  | with_reducible refine ev_add ?_
  | with_reducible refine ev_sub ?_
  | with_reducible refine ev_mul ?_
  | with_reducible refine ev_fdiv ?_
  | with_reducible refine ev_mod ?_
  | with_reducible refine ev_neg ?_
  | with_reducible refine ev_tup ?_
  | with_reducible refine et_lt ?_ | with_reducible refine et_le ?_ | with_reducible refine et_gt ?_ | with_reducible refine et_ge ?_
  | with_reducible refine ev_lt ?_ | with_reducible refine ev_le ?_ | with_reducible refine ev_gt ?_ | with_reducible refine ev_ge ?_
  | with_reducible refine et_ne ?_ | with_reducible refine et_eq ?_ | with_reducible refine ev_ne ?_ | with_reducible refine ev_eq ?_
  | with_reducible refine et_isN ?_ | with_reducible refine et_notN ?_
  | with_reducible refine et_not ?_
  | with_reducible refine et_and ?_ | with_reducible refine et_or ?_
  | with_reducible refine ew_and ?_ | with_reducible refine ew_or ?_
  | with_reducible refine ew_and1 ?_ | with_reducible refine ew_or1 ?_
  | with_reducible refine ev_and ?_ | with_reducible refine ev_or ?_ | with_reducible refine ev_one ?_ | with_reducible refine ev_not ?_
  | with_reducible refine ev_ifExp ?_
  | with_reducible refine et_call ?_
  | with_reducible refine ev_ixT ?_ (by with_unfolding_all exact fun _ _ => rfl)
  | with_reducible refine ⟨_, _, rfl, rfl, ?_⟩)
local macro_rules | `(tactic| k_call_by "w" 0) => `(tactic| repeat (first | k_call_by "v" 0 | refine ⟨Nat.le_of_ble_eq_true rfl, ?_⟩ | refine ⟨fun z => absurd z (by decide), fun _ => ?_⟩ | refine ⟨fun _ => ?_, fun z => absurd z (by decide)⟩ | refine ⟨_, rfl, ?_⟩ | refine ⟨_, _, _, rfl, rfl, rfl, ?_⟩ | refine ⟨_, _, rfl, ?_⟩ | refine ⟨_, _, _, rfl, ?_⟩ | refine ⟨_, _, _, _, rfl, ?_⟩))
local macro_rules | `(tactic| k_call_by "no" 0) => `(tactic| (intro z; first | (exact absurd z (by decide)) | (exact (nomatch z)) | (simp at z; done)))
local macro_rules | `(tactic| k_call_by "F" 0) => `(tactic| (refine ⟨?no, fun _ => ?_⟩; (case no => k_call_by "no" 0)))
local macro_rules | `(tactic| k_call_by "T" 0) => `(tactic| (refine ⟨fun _ => ?_, ?no⟩; (case no => k_call_by "no" 0)))
local macro_rules | `(tactic| k_call_by "s" 0) => `(tactic| (refine w_cons ?_; k_call_by "w" 0))
section
variable {P : Program} {w : World} {K : PySem.W.Frag} {mg : Str → Option Value} {base : Heap}
def sp_turns_on : SpecD := fun ds R => ∃ r s m : Rat, ds = [lnd r s, Fq m] ∧ Q.B 300 r ∧ Q.B 300 s ∧ Q.B 1000 m ∧ R (.tup [.int (tT r s m), .int (tB r s m)])
theorem kn_turns_on (T : Tc K mg) : Kn P w K mg base CX0 "turns_on" 1 (spP K sp_turns_on) :=
  T.d_turns_on.kn (ps := ["line", "moment"]) (fun _ _ _ _ _ _ us hl => match us, hl with | [_, _], _ => rfl) fun f fd F => def_ok F sc_turns_on (fun ds R h => by obtain ⟨_, _, _, rfl, _⟩ := h; rfl) fun X hx sc G H ds R h => by
    obtain ⟨r, s, m, rfl, hr, hs, hm, hR⟩ := h
    have b1 := mul_bd hr.1 (dabs hs) 600
    have b2 := mul_bd hs.1 (dabs hr) 600
    have b3 := mul_bd (dabs hr) (dabs hs) 600
    refine w_cons (w_unpack3 2 3 4 rfl rfl rfl rfl rfl rfl rfl ?_)
    k_call_by "w" 0
    refine ⟨mulOk b1 hm.1, ?_⟩
    k_call_by "w" 0
    refine ⟨mulOk b2 (dabs hm), ?_⟩
    k_call_by "w" 0
    refine ⟨mulOk b3 (dabs hm), ?_⟩
    k_call_by "w" 0
    exact hR
def sp_is_within : SpecD := fun ds R => ∃ (r s m w : Rat) (k : Int), ds = [.tup [.int (tT r s m), .int (tB r s m)], .int k, Fq w] ∧ k.natAbs < 2 ^ 2000 ∧ (tT r s m).natAbs < 2 ^ 4000 ∧ (tB r s m).natAbs < 2 ^ 2000 ∧ Q.B 300 w ∧ R (.bl (decide (Q.ab (s + r * m - (k : Rat)) ≤ w)))
theorem kn_is_within (T : Tc K mg) : Kn P w K mg base CX0 "is_within" 1 (spP K sp_is_within) :=
  T.d_is_within.kn (ps := ["turns", "whole", "width"]) (fun _ _ _ _ _ _ us hl => match us, hl with | [_, _, _], _ => rfl) fun f fd F => def_ok F sc_is_within (fun ds R h => by obtain ⟨_, _, _, _, _, rfl, _⟩ := h; rfl) fun X hx sc G H ds R h => by
    obtain ⟨r, s, m, w', k, rfl, hk, hT, hB, hw, hR⟩ := h
    have e : decide (((tT r s m - k * tB r s m).natAbs : Int) * (w'.den : Int) ≤ w'.num * tB r s m) = decide (Q.ab (s + r * m - (k : Rat)) ≤ w') := decide_eq_decide.mpr (Q.within (tT r s m) (tB r s m) k w' _ (tB_pos r s m) (tT_val r s m))
    have b1 : (k * tB r s m).natAbs < 2 ^ 4000 := mul_bd hk hB 4000
    have b2 : (tT r s m - k * tB r s m).natAbs < 2 ^ 4001 := by
      have h1 : (2 : Nat) ^ 4001 = 2 ^ 4000 + 2 ^ 4000 := by rw [← Nat.two_mul, ← Nat.pow_succ']
      omega
    refine w_cons (w_unpack2 3 4 rfl rfl rfl rfl rfl ?_)
    k_call_by "w" 0
    refine w_abs 0 T.b_abs rfl ?_
    k_call_by "w" 0
    refine ⟨mulOk hk hB, ?_⟩
    k_call_by "w" 0
    refine ⟨mulOk (m := 4001) (by rw [Int.natAbs_natCast]; exact b2) (dabs hw), ?_⟩
    k_call_by "w" 0
    refine ⟨mulOk hw.1 hB, ?_⟩
    k_call_by "w" 0
    rw [e]
    exact hR
def sp_whole_near : SpecD := fun ds R => ∃ (r s m : Rat), ds = [.tup [.int (tT r s m), .int (tB r s m)]] ∧ (tB r s m).natAbs < 2 ^ 2000 ∧ R (.int (Q.rn (s + r * m)))
theorem kn_whole_near (T : Tc K mg) : Kn P w K mg base CX0 "whole_near" 1 (spP K sp_whole_near) :=
  T.d_whole_near.kn (ps := ["turns"]) (fun _ _ _ _ _ _ us hl => match us, hl with | [_], _ => rfl) fun f fd F => def_ok F sc_whole_near (fun ds R h => by obtain ⟨_, _, _, rfl, _⟩ := h; rfl) fun X hx sc G H ds R h => by
    obtain ⟨r, s, m, rfl, hB, hR⟩ := h
    have e := Q.rn_eq (tB_pos r s m) (tT_val r s m)
    have hp := tB_pos r s m
    refine w_cons (w_unpack2 1 2 rfl rfl rfl rfl rfl ?_)
    k_call_by "w" 0
    refine ⟨.inr (.inr (by decide)), ?_⟩
    k_call_by "w" 0
    refine ⟨.inr (.inr (by decide)), ?_⟩
    k_call_by "w" 0
    refine ⟨⟨by omega, ?_⟩, ?_⟩
    · have h2 : (2 * tB r s m).natAbs < 2 ^ 2002 := by
        have h1 : (2 : Nat) ^ 2002 = 2 ^ 2001 + 2 ^ 2001 := by rw [← Nat.two_mul, ← Nat.pow_succ']
        have h3 : (2 : Nat) ^ 2001 = 2 ^ 2000 + 2 ^ 2000 := by rw [← Nat.two_mul, ← Nat.pow_succ']
        omega
      exact Nat.lt_trans h2 (Nat.pow_lt_pow_right (by omega) (by omega))
    · rw [e]
      exact hR
def sp_line_is_near : SpecD := fun ds R => ∃ (r s m w : Rat), ds = [lnd r s, Fq m, Fq w] ∧ Q.B 300 r ∧ Q.B 300 s ∧ Q.B 1000 m ∧ Q.B 300 w ∧ R (.bl (decide (Q.ab (Q.offs (s + r * m)) ≤ w)))
theorem kn_line_is_near (T : Tc K mg) : Kn P w K mg base CX0 "line_is_near" 2 (spP K sp_line_is_near) :=
  T.d_line_is_near.kn (ps := ["line", "moment", "width"]) (fun _ _ _ _ _ _ us hl => match us, hl with | [_, _, _], _ => rfl) fun f fd F => def_ok F sc_line_is_near (fun ds R h => by obtain ⟨_, _, _, _, rfl, _⟩ := h; rfl) fun X hx sc G H ds R h => by
    obtain ⟨r, s, m, w', rfl, hr, hs, hm, hw, hR⟩ := h
    have b3 : (tB r s m).natAbs < 2 ^ 2000 := mul_bd (mul_bd (dabs hr) (dabs hs) 600) (dabs hm) 2000
    have b1 := mul_bd (mul_bd hr.1 (dabs hs) 600) hm.1 1600
    have b2 := mul_bd (mul_bd hs.1 (dabs hr) 600) (dabs hm) 1600
    have b4 : (tT r s m).natAbs < 2 ^ 4000 := by
      have h1 : (2 : Nat) ^ 1601 = 2 ^ 1600 + 2 ^ 1600 := by rw [← Nat.two_mul, ← Nat.pow_succ']
      have h2 : (2 : Nat) ^ 1601 ≤ 2 ^ 4000 := Nat.pow_le_pow_right (by omega) (by omega)
      unfold tT
      omega
    have bt : Q.B 1601 (s + r * m) := (hs.add (hr.mul hm)).mono (by decide)
    have bk : (Q.rn (s + r * m)).natAbs < 2 ^ 2000 := by
      have : Q.B 1605 (s + r * m + 1 / 2) := (bt.add (b := 2) (q := 1 / 2) ⟨by decide +kernel, by decide +kernel⟩).mono (by decide)
      exact Nat.lt_of_lt_of_le this.floor (Nat.pow_le_pow_right (by omega) (by omega))
    refine w_cons (w_asg 3 rfl rfl rfl (w_call 0 (kn_turns_on T) rfl rfl ?_))
    k_call_by "w" 0
    refine ⟨hr, hs, hm, ?_⟩
    refine w_cons (w_ret (w_call 1 (kn_is_within T) rfl rfl ?_))
    k_call_by "w" 0
    refine w_call 2 (kn_whole_near T) rfl rfl ?_
    k_call_by "w" 0
    refine ⟨b3, ?_⟩
    k_call_by "w" 0
    refine ⟨r, s, m, w', _, rfl, bk, b4, b3, hw, ?_⟩
    rw [Q.rn_offs]
    exact hR
end
end Wh

set_option Elab.async false
set_option linter.all false
set_option maxRecDepth 100000
set_option maxHeartbeats 4000000
namespace Wh
open PySem L2 PyProof.Rows DL
local macro_rules | `(tactic| k_call_by "n" 0) => `(tactic| ((with_reducible refine' nm_ix rfl ?na ?nb ?nc ?nd); (case na => (repeat (first | with_reducible exact ix0 | with_reducible apply ixS))); (case nb => rfl); (case nc => rfl)))
local macro_rules | `(tactic| k_call_by "v" 0) => `(tactic| first
  | with_reducible refine w_cons ?_
  | with_reducible refine w_nil ?_
  | with_reducible refine w_ret ?_
  | with_reducible refine w_if ?_
  | with_reducible refine ea_cons ?_ (by with_unfolding_all rfl)
  | with_reducible refine ea_nil ?_
  | k_call_by "n" 0
  | with_reducible refine ev_int ?_ | with_reducible refine ev_bl ?_ | with_reducible refine ev_non ?_ | with_reducible refine ev_str ?_
  | with_reducible refine ev_add ?_
  | with_reducible refine ev_sub ?_
  | with_reducible refine ev_mul ?_
  | with_reducible refine ev_fdiv ?_
  | with_reducible refine ev_mod ?_
  | with_reducible refine ev_neg ?_
  | with_reducible refine ev_tup ?_
  | with_reducible refine et_lt ?_ | with_reducible refine et_le ?_ | with_reducible refine et_gt ?_ | with_reducible refine et_ge ?_
  | with_reducible refine ev_lt ?_ | with_reducible refine ev_le ?_ | with_reducible refine ev_gt ?_ | with_reducible refine ev_ge ?_
  | with_reducible refine et_ne ?_ | with_reducible refine et_eq ?_ | with_reducible refine ev_ne ?_ | with_reducible refine ev_eq ?_
  | with_reducible refine et_isN ?_ | with_reducible refine et_notN ?_
  | with_reducible refine et_not ?_
  | with_reducible refine et_and ?_ | with_reducible refine et_or ?_
  | with_reducible refine ew_and ?_ | with_reducible refine ew_or ?_
  | with_reducible refine ew_and1 ?_ | with_reducible refine ew_or1 ?_
  | with_reducible refine ev_and ?_ | with_reducible refine ev_or ?_ | with_reducible refine ev_one ?_ | with_reducible refine ev_not ?_
  | with_reducible refine ev_ifExp ?_
  | with_reducible refine et_call ?_
  | with_reducible refine ev_ixT ?_ (by with_unfolding_all exact fun _ _ => rfl)
  | with_reducible refine ⟨_, _, rfl, rfl, ?_⟩)
local macro_rules | `(tactic| k_call_by "w" 0) => `(tactic| repeat (first | k_call_by "v" 0 | refine ⟨Nat.le_of_ble_eq_true rfl, ?_⟩ | refine ⟨fun z => absurd z (by decide), fun _ => ?_⟩ | refine ⟨fun _ => ?_, fun z => absurd z (by decide)⟩ | refine ⟨_, rfl, ?_⟩ | refine ⟨_, _, _, rfl, rfl, rfl, ?_⟩ | refine ⟨_, _, rfl, ?_⟩ | refine ⟨_, _, _, rfl, ?_⟩ | refine ⟨_, _, _, _, rfl, ?_⟩))
local macro_rules | `(tactic| k_call_by "no" 0) => `(tactic| (intro z; first | (exact absurd z (by decide)) | (exact (nomatch z)) | (simp at z; done)))
local macro_rules | `(tactic| k_call_by "F" 0) => `(tactic| (refine ⟨?no, fun _ => ?_⟩; (case no => k_call_by "no" 0)))
local macro_rules | `(tactic| k_call_by "T" 0) => `(tactic| (refine ⟨fun _ => ?_, ?no⟩; (case no => k_call_by "no" 0)))
local macro_rules | `(tactic| k_call_by "s" 0) => `(tactic| (refine w_cons ?_; k_call_by "w" 0))
section
variable {P : Program} {w : World} {K : PySem.W.Frag} {mg : Str → Option Value} {base : Heap}
def sp_lines_are_near : SpecD := fun ds R => ∃ (r s m w : Rat), ds = [.lst [lnd r s], Fq m, Fq w] ∧ Q.B 300 r ∧ Q.B 300 s ∧ Q.B 1000 m ∧ Q.B 300 w ∧ R (.bl (decide (Q.ab (Q.offs (s + r * m)) ≤ w)))
theorem kn_lines_are_near (T : Tc K mg) : Kn P w K mg base CX0 "lines_are_near" 3 (spP K sp_lines_are_near) :=
  T.d_lines_are_near.kn (ps := ["lines", "moment", "width"]) (fun _ _ _ _ _ _ us hl => match us, hl with | [_, _, _], _ => rfl) fun f fd F => def_ok F sc_lines_are_near (fun ds R h => by obtain ⟨_, _, _, _, rfl, _⟩ := h; rfl) fun X hx sc G H ds R h => by
    obtain ⟨r, s, m, w', rfl, hr, hs, hm, hw, hR⟩ := h
    refine w_cons (w_forN 3 rfl rfl rfl (iv_list ?_))
    k_call_by "n" 0
    refine ⟨_, rfl, fun i ω δ => (i = 0 ∧ ω = [] ∧ δ = [some (.lst [lnd r s]), some (Fq m), some (Fq w'), none]) ∨ (i = 1 ∧ R (.bl true)), .inl ⟨rfl, rfl, rfl⟩, fun i d ω δ hd hP => ?_, fun ω δ hP => ?_⟩
    · obtain ⟨rfl, rfl⟩ := one_get hd
      rcases hP with ⟨_, rfl, rfl⟩ | ⟨z, _⟩
      · k_call_by "s" 0
        refine w_call 0 (kn_line_is_near T) rfl rfl ?_
        k_call_by "w" 0
        refine ⟨hr, hs, hm, hw, ?_⟩
        refine ⟨_, rfl, fun hc => ?_, fun hc => ?_⟩
        · have e : decide (Q.ab (Q.offs (s + r * m)) ≤ w') = false := by simpa using hc
          rw [e] at hR
          k_call_by "w" 0
          exact hR
        · have e : decide (Q.ab (Q.offs (s + r * m)) ≤ w') = true := by simpa using hc
          rw [e] at hR
          exact w_nil (w_nil (.inr ⟨rfl, hR⟩))
      · omega
    · rcases hP with ⟨z, _⟩ | ⟨_, hR⟩
      · cases z
      · refine w_cons (w_ret (ev_bl hR))
def sp_lines_of (K : PySem.W.Frag) : SpecD := fun ds R => ∃ (ra sa rb sb : Rat), ds = [two K ra sa rb sb] ∧ Q.B 40 ra ∧ Q.B 140 sa ∧ Q.B 40 rb ∧ Q.B 140 sb ∧ R (.lst [lnd (rb - ra) (sb - sa)])
theorem kn_lines_of (T : Tc K mg) : Kn P w K mg base CX0 "lines_of" 5 (spP K (sp_lines_of K)) :=
  T.d_lines_of.kn (ps := ["cycles"]) (fun _ _ _ _ _ _ us hl => match us, hl with | [_], _ => rfl) fun f fd F => def_ok F sc_lines_of (fun ds R h => by obtain ⟨_, _, _, _, rfl, _⟩ := h; rfl) fun X hx sc G H ds R h => by
    obtain ⟨ra, sa, rb, sb, rfl, hra, hsa, hrb, hsb, hR⟩ := h
    have br : Q.B 81 (rb - ra) := hrb.sub hra
    have bs : Q.B 281 (sb - sa) := hsb.sub hsa
    refine w_cons (w_asg 1 rfl rfl rfl (ev_ixL ?_))
    k_call_by "w" 0
    refine w_newL 2 rfl rfl rfl (ea_nil ⟨Nat.zero_le _, fun p hp => ?_⟩)
    refine w_cons (w_forN 3 rfl rfl rfl (iv_list (ev_sliceL ?_)))
    k_call_by "w" 0
    refine ⟨fun i ω δ => (i = 0 ∧ ω = [Cell.own X.K p []] ∧ δ = [some (two K ra sa rb sb), some (cyc K ra sa), some (.s (.ref p)), none, none, none]) ∨ (i = 1 ∧ ω = [Cell.own X.K p [lnd (rb - ra) (sb - sa)]] ∧ ∃ a b c d e, δ = [a, b, some (.s (.ref p)), c, d, e]), .inl ⟨rfl, rfl, rfl⟩, fun i d ω δ hd hP => ?_, fun ω δ hP => ?_⟩
    · obtain ⟨rfl, rfl⟩ := one_get (x := cyc K rb sb) hd
      rcases hP with ⟨_, rfl, rfl⟩ | ⟨z, _⟩
      · refine w_cons (w_asg 4 rfl rfl rfl (w_call 0 (kn_minus T.toTx) rfl rfl ?_))
        k_call_by "v" 0
        refine w_fC T ?_ (by decide)
        k_call_by "w" 0
        refine w_fC T ?_ (by decide)
        k_call_by "w" 0
        refine ⟨bq hrb, bq hra, ?_⟩
        refine w_cons (w_asg 5 rfl rfl rfl (w_call 0 (kn_minus T.toTx) rfl rfl ?_))
        k_call_by "v" 0
        refine w_fC T ?_ (by decide)
        k_call_by "w" 0
        refine w_fC T ?_ (by decide)
        k_call_by "w" 0
        refine ⟨bq hsb, bq hsa, ?_⟩
        refine w_cons (w_append (ω1 := []) rfl (by decide) ?_)
        k_call_by "n" 0
        refine ⟨rfl, ?_⟩
        k_call_by "w" 0
        refine ⟨mulOk br.1 (dabs bs), ?_⟩
        k_call_by "w" 0
        refine ⟨mulOk bs.1 (dabs br), ?_⟩
        k_call_by "w" 0
        refine ⟨mulOk (dabs br) (dabs bs), ?_⟩
        k_call_by "w" 0
        exact .inr ⟨rfl, rfl, _, _, _, _, _, rfl⟩
      · omega
    · rcases hP with ⟨z, _⟩ | ⟨_, rfl, a, b, c, d, e, rfl⟩
      · cases z
      · refine bv_freeze (ω1 := []) rfl hp (seen_name (i := 2) rfl) ?_
        k_call_by "w" 0
        exact hR
def sp_check_cycles (K : PySem.W.Frag) : SpecD := fun ds R => ∃ (rl sl rc sc : Rat), ds = [two K rl sl rc sc] ∧ R .non
theorem kn_check_cycles (T : Tc K mg) : Kn P w K mg base CX0 "check_cycles" 1 (spP K (sp_check_cycles K)) :=
  T.d_check_cycles.kn (ps := ["cycles"]) (fun _ _ _ _ _ _ us hl => match us, hl with | [_], _ => rfl) fun f fd F => def_ok F sc_check_cycles (fun ds R h => by obtain ⟨_, _, _, _, rfl, _⟩ := h; rfl) fun X hx sc G H ds R h => by
    obtain ⟨rl, sl, rc, sc', rfl, hR⟩ := h
    k_call_by "s" 0
    refine w_isi 0 T.b_isinstance rfl ?_
    k_call_by "n" 0
    refine w_ty 1 T.b_list PyProof.Rows.boot_list nn_list rfl ?_
    refine ⟨_, _, _, true, rfl, .ty "list", .lst _, kit_lst_lst, _, rfl, ?_⟩
    k_call_by "w" 0
    refine w_chainLL (ev_int ?_)
    refine w_len 2 T.b_len rfl ?_
    k_call_by "w" 0
    k_call_by "F" 0
    k_call_by "w" 0
    k_call_by "F" 0
    k_call_by "w" 0
    refine w_forN 1 rfl rfl rfl (iv_list ?_)
    k_call_by "n" 0
    refine ⟨_, rfl, fun i ω δ => True ∧ ∃ a b, δ = [a, b], ⟨trivial, _, _, rfl⟩, fun i d ω δ hd hP => ?_, fun ω δ hP => ?_⟩
    · obtain ⟨_, a, b, rfl⟩ := hP
      have : ∃ r s, d = cyc K r s := by
        rcases two_get hd with ⟨_, rfl⟩ | ⟨_, rfl⟩ <;> exact ⟨_, _, rfl⟩
      obtain ⟨r, s, rfl⟩ := this
      k_call_by "s" 0
      refine w_isi 0 T.b_isinstance rfl ?_
      k_call_by "n" 0
      refine w_glob (v := .ref (He.ga K "Cycle")) 4 T.c_Cycle.g rfl rfl ?_
      refine ⟨_, _, _, true, rfl, .own _, .ins T.c_Cycle.i, kit_self (by simp), _, rfl, ?_⟩
      k_call_by "w" 0
      exact ⟨trivial, _, _, rfl⟩
    · exact w_nil hR
def sp_check_moment : SpecD := fun ds R => ∃ q : Rat, ds = [Fq q] ∧ R .non
theorem kn_check_moment (T : Tc K mg) : Kn P w K mg base CX0 "check_moment" 3 (spP K sp_check_moment) :=
  T.d_check_moment.kn (ps := ["moment"]) (fun _ _ _ _ _ _ us hl => match us, hl with | [_], _ => rfl) fun f fd F => def_ok F sc_check_moment (fun ds R h => by obtain ⟨_, rfl, _⟩ := h; rfl) fun X hx sc G H ds R h => by
    obtain ⟨q, rfl, hR⟩ := h
    k_call_by "s" 0
    refine w_call 0 (kn_is_fraction T.toTx) rfl rfl ?_
    k_call_by "w" 0
    exact hR
def sp_check_span_nearness (K : PySem.W.Frag) : SpecD := fun ds R => ∃ (a b : Rat), ds = [spn K a b] ∧ R .non
theorem kn_check_span_nearness (T : Tc K mg) : Kn P w K mg base CX0 "check_span_nearness" 1 (spP K (sp_check_span_nearness K)) :=
  T.d_check_span_nearness.kn (ps := ["span"]) (fun _ _ _ _ _ _ us hl => match us, hl with | [_], _ => rfl) fun f fd F => def_ok F sc_check_span_nearness (fun ds R h => by obtain ⟨_, _, rfl, _⟩ := h; rfl) fun X hx sc G H ds R h => by
    obtain ⟨a, b, rfl, hR⟩ := h
    k_call_by "s" 0
    refine w_isi 0 T.b_isinstance rfl ?_
    k_call_by "n" 0
    refine w_glob (v := .ref (He.ga K "Span")) 1 T.c_Span.g rfl rfl ?_
    refine ⟨_, _, _, true, rfl, .own _, .ins T.c_Span.i, kit_self (by simp), _, rfl, ?_⟩
    k_call_by "w" 0
    exact hR
def sp_check_width_nearness : SpecD := fun ds R => ∃ q : Rat, ds = [Fq q] ∧ 0 ≤ q ∧ 4 * q < 1 ∧ R .non
theorem kn_check_width_nearness (T : Tc K mg) : Kn P w K mg base CX0 "check_width_nearness" 3 (spP K sp_check_width_nearness) :=
  T.d_check_width_nearness.kn (ps := ["width"]) (fun _ _ _ _ _ _ us hl => match us, hl with | [_], _ => rfl) fun f fd F => def_ok F sc_check_width_nearness (fun ds R h => by obtain ⟨_, rfl, _⟩ := h; rfl) fun X hx sc G H ds R h => by
    obtain ⟨q, rfl, h0, h4, hR⟩ := h
    have n0 : 0 ≤ q.num := Rat.num_nonneg.mpr h0
    have n4 := four_num h4
    k_call_by "s" 0
    refine w_call 0 (kn_is_fraction T.toTx) rfl rfl ?_
    k_call_by "w" 0
    refine ⟨fun _ => ?_, fun z => absurd (of_decide_eq_true z) (by omega)⟩
    k_call_by "w" 0
    refine ⟨.inr (.inr (by decide)), ?_⟩
    k_call_by "w" 0
    refine ⟨fun z => absurd (of_decide_eq_true z) (by omega), fun _ => ?_⟩
    k_call_by "w" 0
    exact hR
def sp_is_near (K : PySem.W.Frag) : SpecD := fun ds R => ∃ (ra sa rb sb m w : Rat), ds = [two K ra sa rb sb, Fq m, Fq w] ∧ Q.B 40 ra ∧ Q.B 140 sa ∧ Q.B 40 rb ∧ Q.B 140 sb ∧ Q.B 1000 m ∧ Q.B 300 w ∧ 0 ≤ w ∧ 4 * w < 1 ∧ R (.bl (decide (Q.ab (Q.offs ((sb - sa) + (rb - ra) * m)) ≤ w)))
theorem kn_is_near (T : Tc K mg) : KnK P w K mg base CX0 "is_near" "width" 2 6 (spP K (sp_is_near K)) := by
  obtain ⟨f, fd, hm, F⟩ := T.d_is_near.ex
  refine ⟨f, fd, ["cycles", "moment", "width"], hm, F.kp, bindsK (n := 2) F (fun _ _ _ _ _ _ us v hl => match us, hl with | [_, _], _ => rfl), def_ok F sc_is_near (fun ds R h => by obtain ⟨_, _, _, _, _, _, rfl, _⟩ := h; rfl) fun X hx sc G H ds R h => ?_⟩
  obtain ⟨ra, sa, rb, sb, m, w', rfl, hra, hsa, hrb, hsb, hm', hw, w0, w4, hR⟩ := h
  refine w_cons (w_expr (w_call 0 (kn_check_cycles T) rfl rfl ?_))
  k_call_by "w" 0
  refine w_expr (w_call 1 (kn_check_moment T) rfl rfl ?_)
  k_call_by "w" 0
  refine w_expr (w_call 2 (kn_check_width_nearness T) rfl rfl ?_)
  k_call_by "w" 0
  refine ⟨w0, w4, ?_⟩
  refine w_cons (w_ret (w_call 3 (kn_lines_are_near T) rfl rfl ?_))
  k_call_by "v" 0
  refine w_call 4 (kn_lines_of T) rfl rfl ?_
  k_call_by "w" 0
  refine ⟨hra, hsa, hrb, hsb, ?_⟩
  k_call_by "w" 0
  exact ⟨(hrb.sub hra).mono (by decide), (hsb.sub hsa).mono (by decide), hm', hw, hR⟩
end
end Wh

set_option Elab.async false
set_option linter.all false
set_option maxRecDepth 100000
set_option maxHeartbeats 4000000
/-! Near spans. -/
namespace Wh
open PySem L2 PyProof.Rows DL
def tnd (r s m : Rat) : D := .tup [.int (tT r s m), .int (tB r s m)]
def loM (r a b : Rat) : Rat := if 0 < r then a else b
def hiM (r a b : Rat) : Rat := if 0 < r then b else a
def lea (r s a b w : Rat) : Int := -(w - (s + r * loM r a b)).floor
def mos (r s a b w : Rat) : Int := (s + r * hiM r a b + w).floor
theorem slope_pos (r s : Rat) : 0 < r.num * (s.den : Int) ↔ 0 < r := by
  rw [← Q.num_pos]
  have h := Q.den_pos s
  constructor
  · intro h1; exact Int.pos_of_mul_pos_left h1 h |> fun z => z
  · intro h1; exact Int.mul_pos h1 h
local macro_rules | `(tactic| k_call_by "n" 0) => `(tactic| ((with_reducible refine' nm_ix rfl ?na ?nb ?nc ?nd); (case na => (repeat (first | with_reducible exact ix0 | with_reducible apply ixS))); (case nb => rfl); (case nc => rfl)))
local macro_rules | `(tactic| k_call_by "v" 0) => `(tactic| first
  | with_reducible refine w_cons ?_
  | with_reducible refine w_nil ?_
  | with_reducible refine w_ret ?_
  | with_reducible refine w_if ?_
  | with_reducible refine ea_cons ?_ (by with_unfolding_all rfl)
  | with_reducible refine ea_nil ?_
  | k_call_by "n" 0
  | with_reducible refine ev_int ?_ | with_reducible refine ev_bl ?_ | with_reducible refine ev_non ?_ | with_reducible refine ev_str ?_
  | with_reducible refine ev_add ?_
  | with_reducible refine ev_sub ?_
  | with_reducible refine ev_mul ?_
  | with_reducible refine ev_fdiv ?_
  | with_reducible refine ev_mod ?_
  | with_reducible refine ev_neg ?_
  | with_reducible refine ev_tup ?_
  | with_reducible refine et_lt ?_ | with_reducible refine et_le ?_ | with_reducible refine et_gt ?_ | with_reducible refine et_ge ?_
  | with_reducible refine ev_lt ?_ | with_reducible refine ev_le ?_ | with_reducible refine ev_gt ?_ | with_reducible refine ev_ge ?_
  | with_reducible refine et_ne ?_ | with_reducible refine et_eq ?_ | with_reducible refine ev_ne ?_ | with_reducible refine ev_eq ?_
  | with_reducible refine et_isN ?_ | with_reducible refine et_notN ?_
  | with_reducible refine et_not ?_
  | with_reducible refine et_and ?_ | with_reducible refine et_or ?_
  | with_reducible refine ew_and ?_ | with_reducible refine ew_or ?_
  | with_reducible refine ew_and1 ?_ | with_reducible refine ew_or1 ?_
  | with_reducible refine ev_and ?_ | with_reducible refine ev_or ?_ | with_reducible refine ev_one ?_ | with_reducible refine ev_not ?_
  | with_reducible refine ev_ifExp ?_
  | with_reducible refine et_call ?_
  | with_reducible refine ev_ixT ?_ (by with_unfolding_all exact fun _ _ => rfl)
  | with_reducible refine ⟨_, _, rfl, rfl, ?_⟩)
local macro_rules | `(tactic| k_call_by "w" 0) => `(tactic| repeat (first | k_call_by "v" 0 | refine ⟨Nat.le_of_ble_eq_true rfl, ?_⟩ | refine ⟨fun z => absurd z (by decide), fun _ => ?_⟩ | refine ⟨fun _ => ?_, fun z => absurd z (by decide)⟩ | refine ⟨_, rfl, ?_⟩ | refine ⟨_, _, _, rfl, rfl, rfl, ?_⟩ | refine ⟨_, _, rfl, ?_⟩ | refine ⟨_, _, _, rfl, ?_⟩ | refine ⟨_, _, _, _, rfl, ?_⟩))
local macro_rules | `(tactic| k_call_by "no" 0) => `(tactic| (intro z; first | (exact absurd z (by decide)) | (exact (nomatch z)) | (simp at z; done)))
local macro_rules | `(tactic| k_call_by "F" 0) => `(tactic| (refine ⟨?no, fun _ => ?_⟩; (case no => k_call_by "no" 0)))
local macro_rules | `(tactic| k_call_by "T" 0) => `(tactic| (refine ⟨fun _ => ?_, ?no⟩; (case no => k_call_by "no" 0)))
local macro_rules | `(tactic| k_call_by "s" 0) => `(tactic| (refine w_cons ?_; k_call_by "w" 0))
section
variable {P : Program} {w : World} {K : PySem.W.Frag} {mg : Str → Option Value} {base : Heap}
def sp_turned_bounds : SpecD := fun ds R => ∃ r s a b : Rat, ds = [lnd r s, Fq a, Fq b] ∧ Q.B 300 r ∧ Q.B 300 s ∧ Q.B 1000 a ∧ Q.B 1000 b ∧ R (.tup [tnd r s (loM r a b), tnd r s (hiM r a b)])
theorem kn_turned_bounds (T : Tc K mg) : Kn P w K mg base CX0 "turned_bounds" 2 (spP K sp_turned_bounds) :=
  T.d_turned_bounds.kn (ps := ["line", "first", "last"]) (fun _ _ _ _ _ _ us hl => match us, hl with | [_, _, _], _ => rfl) fun f fd F => def_ok F sc_turned_bounds (fun ds R h => by obtain ⟨_, _, _, _, rfl, _⟩ := h; rfl) fun X hx sc G H ds R h => by
    obtain ⟨r, s, a, b, rfl, hr, hs, ha, hb, hR⟩ := h
    have hp := slope_pos r s
    k_call_by "s" 0
    refine ⟨fun hc => ?_, fun hc => ?_⟩
    · have hc : 0 < r := hp.mp (of_decide_eq_true hc)
      unfold loM hiM at hR
      rw [if_pos hc, if_pos hc] at hR
      k_call_by "w" 0
      refine w_call 0 (kn_turns_on T) rfl rfl ?_
      k_call_by "w" 0
      refine ⟨hr, hs, ha, ?_⟩
      k_call_by "w" 0
      refine w_call 0 (kn_turns_on T) rfl rfl ?_
      k_call_by "w" 0
      refine ⟨hr, hs, hb, ?_⟩
      k_call_by "w" 0
      exact hR
    · have hc : ¬ 0 < r := fun z => of_decide_eq_false hc (hp.mpr z)
      unfold loM hiM at hR
      rw [if_neg hc, if_neg hc] at hR
      k_call_by "w" 0
      refine w_call 0 (kn_turns_on T) rfl rfl ?_
      k_call_by "w" 0
      refine ⟨hr, hs, hb, ?_⟩
      k_call_by "w" 0
      refine w_call 0 (kn_turns_on T) rfl rfl ?_
      k_call_by "w" 0
      refine ⟨hr, hs, ha, ?_⟩
      k_call_by "w" 0
      exact hR
theorem tB_bd {r s m : Rat} (hr : Q.B 300 r) (hs : Q.B 300 s) (hm : Q.B 1000 m) : (tB r s m).natAbs < 2 ^ 2000 := mul_bd (mul_bd (dabs hr) (dabs hs) 600) (dabs hm) 2000
theorem tT_bd {r s m : Rat} (hr : Q.B 300 r) (hs : Q.B 300 s) (hm : Q.B 1000 m) : (tT r s m).natAbs < 2 ^ 2000 := by
  have b1 := mul_bd (mul_bd hr.1 (dabs hs) 600) hm.1 1600
  have b2 := mul_bd (mul_bd hs.1 (dabs hr) 600) (dabs hm) 1600
  have h1 : (2 : Nat) ^ 1601 = 2 ^ 1600 + 2 ^ 1600 := by rw [← Nat.two_mul, ← Nat.pow_succ']
  have h2 : (2 : Nat) ^ 1601 ≤ 2 ^ 2000 := Nat.pow_le_pow_right (by omega) (by omega)
  unfold tT
  omega
theorem lea_eq {r s m w : Rat} : -((w.num * tB r s m - tT r s m * (w.den : Int)) / (tB r s m * (w.den : Int))) = -(w - (s + r * m)).floor := by
  rw [Q.floor_eq (q := w - (s + r * m)) (Int.mul_pos (tB_pos r s m) (Q.den_pos w))]
  have h1 := tT_val r s m
  have h2 := Q.num_den w
  push_cast at h2 ⊢
  rw [← h1, ← h2]
  grind
theorem mos_eq {r s m w : Rat} : (tT r s m * (w.den : Int) + w.num * tB r s m) / (tB r s m * (w.den : Int)) = (s + r * m + w).floor := by
  rw [Q.floor_eq (q := s + r * m + w) (Int.mul_pos (tB_pos r s m) (Q.den_pos w))]
  have h1 := tT_val r s m
  have h2 := Q.num_den w
  push_cast at h2 ⊢
  rw [← h1, ← h2]
  grind
theorem loM_bd {r a b : Rat} {n : Nat} (ha : Q.B n a) (hb : Q.B n b) : Q.B n (loM r a b) := by unfold loM; split <;> assumption
theorem hiM_bd {r a b : Rat} {n : Nat} (ha : Q.B n a) (hb : Q.B n b) : Q.B n (hiM r a b) := by unfold hiM; split <;> assumption
def sp_wholes_met (K : PySem.W.Frag) : SpecD := fun ds R => ∃ r s a b w : Rat, ds = [lnd r s, spn K a b, Fq w] ∧ Q.B 300 r ∧ Q.B 300 s ∧ Q.B 1000 a ∧ Q.B 1000 b ∧ Q.B 300 w ∧ R (.tup [.int (lea r s a b w), .int (mos r s a b w)])
theorem kn_wholes_met (T : Tc K mg) : Kn P w K mg base CX0 "wholes_met" 3 (spP K (sp_wholes_met K)) :=
  T.d_wholes_met.kn (ps := ["line", "span", "width"]) (fun _ _ _ _ _ _ us hl => match us, hl with | [_, _, _], _ => rfl) fun f fd F => def_ok F sc_wholes_met (fun ds R h => by obtain ⟨_, _, _, _, _, rfl, _⟩ := h; rfl) fun X hx sc G H ds R h => by
    obtain ⟨r, s, a, b, w', rfl, hr, hs, ha, hb, hw, hR⟩ := h
    have bl := loM_bd (r := r) ha hb
    have bh := hiM_bd (r := r) ha hb
    have p1 := tB_pos r s (loM r a b)
    have p2 := tB_pos r s (hiM r a b)
    have d1 : (tB r s (loM r a b) * (w'.den : Int)).natAbs < 2 ^ 8999 := Nat.lt_of_lt_of_le (mul_bd (tB_bd hr hs bl) (dabs hw) 2300) (Nat.pow_le_pow_right (by omega) (by omega))
    have d2 : (tB r s (hiM r a b) * (w'.den : Int)).natAbs < 2 ^ 8999 := Nat.lt_of_lt_of_le (mul_bd (tB_bd hr hs bh) (dabs hw) 2300) (Nat.pow_le_pow_right (by omega) (by omega))
    refine w_cons (w_unpack2 3 4 rfl rfl rfl rfl rfl (w_call 0 (kn_turned_bounds T) rfl rfl ?_))
    k_call_by "v" 0
    k_call_by "n" 0
    k_call_by "v" 0
    refine w_fS T ?_ (by decide)
    k_call_by "w" 0
    refine w_fS T ?_ (by decide)
    k_call_by "w" 0
    refine ⟨hr, hs, ha, hb, ?_⟩
    refine ⟨_, _, rfl, ?_⟩
    refine w_cons (w_unpack2 5 6 rfl rfl rfl rfl rfl ?_)
    k_call_by "w" 0
    refine w_asg 7 rfl rfl rfl (ev_neg ?_)
    k_call_by "w" 0
    refine ⟨mulOk hw.1 (tB_bd hr hs bl), ?_⟩
    k_call_by "w" 0
    refine ⟨mulOk (tT_bd hr hs bl) (dabs hw), ?_⟩
    k_call_by "w" 0
    refine ⟨mulOk (tB_bd hr hs bl) (dabs hw), ?_⟩
    k_call_by "w" 0
    refine ⟨⟨Int.mul_pos p1 (Q.den_pos _), d1⟩, ?_⟩
    k_call_by "w" 0
    rw [lea_eq]
    refine w_asg 8 rfl rfl rfl ?_
    k_call_by "w" 0
    refine ⟨mulOk (tT_bd hr hs bh) (dabs hw), ?_⟩
    k_call_by "w" 0
    refine ⟨mulOk hw.1 (tB_bd hr hs bh), ?_⟩
    k_call_by "w" 0
    refine ⟨mulOk (tB_bd hr hs bh) (dabs hw), ?_⟩
    k_call_by "w" 0
    refine ⟨⟨Int.mul_pos p2 (Q.den_pos _), d2⟩, ?_⟩
    k_call_by "w" 0
    rw [mos_eq]
    exact hR
end
end Wh

set_option Elab.async false
set_option linter.all false
set_option maxRecDepth 100000
set_option maxHeartbeats 4000000
/-! The spans of a line. -/
namespace Wh
open PySem L2 PyProof.Rows DL
/-- signed width -/
def sw (r w : Rat) : Rat := if r < 0 then -w else w
def cf (r s a w : Rat) (k : Int) : Rat := if ((k : Rat) - sw r w - s) / r < a then a else ((k : Rat) - sw r w - s) / r
def cl (r s b w : Rat) (k : Int) : Rat := if b < ((k : Rat) + sw r w - s) / r then b else ((k : Rat) + sw r w - s) / r
def whs (r s a b w : Rat) : List Int := (List.range (mos r s a b w - lea r s a b w + 1).toNat).map fun (j : Nat) => lea r s a b w + (j : Int)
def whl (r s a b w : Rat) : List Int := if r < 0 then (whs r s a b w).reverse else whs r s a b w
def lsp (r s a b w : Rat) : List D := (whl r s a b w).map fun k => .tup [Fq (cf r s a w k), Fq (cl r s b w k)]
theorem slope_neg (r s : Rat) : r.num * (s.den : Int) < 0 ↔ r < 0 := by
  have h := Q.den_pos s
  rw [← Q.num_neg]
  constructor
  · intro h1
    exact Int.not_le.mp fun z => absurd (Int.mul_nonneg z (Int.le_of_lt h)) (by omega)
  · intro h1; exact Int.mul_neg_of_neg_of_pos h1 h
theorem slope_zero (r s : Rat) : r.num * (s.den : Int) = 0 ↔ r = 0 := by
  rw [← Q.num_zero]
  have h := Q.den_ne s
  constructor
  · intro h1; exact (Int.mul_eq_zero.mp h1).resolve_right h
  · intro h1; rw [h1, Int.zero_mul]
/-- p: the part as it stands, e its fraction -/
theorem bound_eq {r s w e : Rat} {p k : Int} (h0 : r ≠ 0) (hp : e * ((w.den : Int) : Rat) = (p : Rat)) :
    Rat.divInt ((k * (w.den : Int) - p) * ((r.den : Int) * (s.den : Int)) - s.num * (r.den : Int) * (w.den : Int)) (r.num * (s.den : Int) * (w.den : Int)) = ((k : Rat) - e - s) / r := by
  have h1 := Q.num_den r
  have h2 := Q.num_den s
  have n1 : ((r.den : Int) : Rat) ≠ 0 := by have := Q.den_ne r; exact_mod_cast this
  have n2 : ((s.den : Int) : Rat) ≠ 0 := by have := Q.den_ne s; exact_mod_cast this
  have n3 : ((w.den : Int) : Rat) ≠ 0 := by have := Q.den_ne w; exact_mod_cast this
  rw [Rat.divInt_eq_div]
  push_cast at h1 h2 n1 n2 n3 hp ⊢
  rw [← h1, ← h2, ← hp]
  generalize (r.den : Rat) = dr at *
  generalize (s.den : Rat) = ds at *
  generalize (w.den : Rat) = dw at *
  have m1 := Q.mul_inv n1
  have m2 := Q.mul_inv n2
  have m3 := Q.mul_inv n3
  have m0 := Q.mul_inv h0
  have hb : r * dr * ds * dw ≠ 0 := by
    intro z
    have : r * dr * ds * dw * (r⁻¹ * dr⁻¹ * ds⁻¹ * dw⁻¹) = 1 := by grind
    rw [z, Rat.zero_mul] at this
    exact absurd this (by decide)
  have mb := Q.mul_inv hb
  rw [Rat.div_def, Rat.div_def]
  have e1 : (r * dr * ds * dw)⁻¹ = r⁻¹ * (dr⁻¹ * ds⁻¹ * dw⁻¹) := by
    rw [Rat.inv_mul_rev, Rat.inv_mul_rev, Rat.inv_mul_rev]; grind
  rw [e1]
  grind
end Wh

set_option Elab.async false
set_option linter.all false
set_option maxRecDepth 100000
set_option maxHeartbeats 4000000
namespace Wh
open PySem L2 PyProof.Rows DL
theorem cutM {X : Cx} {E : Ent} {ω : List Cell} {δ : DE} {st : Stmt} {rest : List Stmt} {nx : List Cell → DE → Prop} {rt : List Cell → D → Prop} {bk ct : List Cell → DE → Prop} (M : List Cell → DE → Prop) (h : SV X E ω δ st ⟨M, rt, bk, ct⟩) (h2 : ∀ ω' δ', M ω' δ' → BV X E ω' δ' rest ⟨nx, rt, bk, ct⟩) : BV X E ω δ (st :: rest) ⟨nx, rt, bk, ct⟩ := bv_cut M h h2
theorem whl_mem {r s a b w : Rat} {k : Int} (h : k ∈ whl r s a b w) : lea r s a b w ≤ k ∧ k ≤ mos r s a b w := by
  have h : k ∈ whs r s a b w := by
    unfold whl at h
    split at h
    · exact List.mem_reverse.mp h
    · exact h
  unfold whs at h
  obtain ⟨j, hj, rfl⟩ := List.mem_map.mp h
  have := List.mem_range.mp hj
  omega
theorem whl_len {r s a b w : Rat} : (whl r s a b w).length = (mos r s a b w - lea r s a b w + 1).toNat := by
  unfold whl whs
  split <;> simp
theorem lea_bd {r s a b w : Rat} (hr : Q.B 81 r) (hs : Q.B 281 s) (ha : Q.B 400 a) (hb : Q.B 400 b) (hw : Q.B 140 w) : (lea r s a b w).natAbs < 2 ^ 905 := by
  unfold lea
  rw [Int.natAbs_neg]
  exact Nat.lt_of_lt_of_le (hw.sub (hs.add (hr.mul (loM_bd ha hb)))).floor (Nat.pow_le_pow_right (by omega) (by decide))
theorem k_bd {x k : Int} (h : x.natAbs < 2 ^ 905) (h1 : x ≤ k) (h2 : k ≤ x + 60) : k.natAbs < 2 ^ 906 := by
  have e : (2 : Nat) ^ 906 = 2 ^ 905 + 2 ^ 905 := by rw [← Nat.two_mul, ← Nat.pow_succ']
  have e2 : 60 < 2 ^ 905 := by decide
  rw [e]
  generalize (2 : Nat) ^ 905 = y at *
  omega
local macro_rules | `(tactic| k_call_by "n" 0) => `(tactic| ((with_reducible refine' nm_ix rfl ?na ?nb ?nc ?nd); (case na => (repeat (first | with_reducible exact ix0 | with_reducible apply ixS))); (case nb => rfl); (case nc => rfl)))
local macro_rules | `(tactic| k_call_by "v" 0) => `(tactic| first
  | with_reducible refine w_cons ?_
  | with_reducible refine w_nil ?_
  | with_reducible refine w_ret ?_
  | with_reducible refine w_if ?_
  | with_reducible refine ea_cons ?_ (by with_unfolding_all rfl)
  | with_reducible refine ea_nil ?_
  | k_call_by "n" 0
  | with_reducible refine ev_int ?_ | with_reducible refine ev_bl ?_ | with_reducible refine ev_non ?_ | with_reducible refine ev_str ?_
  | with_reducible refine ev_add ?_
  | with_reducible refine ev_sub ?_
  | with_reducible refine ev_mul ?_
  | with_reducible refine ev_fdiv ?_
  | with_reducible refine ev_mod ?_
  | with_reducible refine ev_neg ?_
  | with_reducible refine ev_tup ?_
  | with_reducible refine et_lt ?_ | with_reducible refine et_le ?_ | with_reducible refine et_gt ?_ | with_reducible refine et_ge ?_
  | with_reducible refine ev_lt ?_ | with_reducible refine ev_le ?_ | with_reducible refine ev_gt ?_ | with_reducible refine ev_ge ?_
  | with_reducible refine et_ne ?_ | with_reducible refine et_eq ?_ | with_reducible refine ev_ne ?_ | with_reducible refine ev_eq ?_
  | with_reducible refine et_isN ?_ | with_reducible refine et_notN ?_
  | with_reducible refine et_not ?_
  | with_reducible refine et_and ?_ | with_reducible refine et_or ?_
  | with_reducible refine ew_and ?_ | with_reducible refine ew_or ?_
  | with_reducible refine ew_and1 ?_ | with_reducible refine ew_or1 ?_
  | with_reducible refine ev_and ?_ | with_reducible refine ev_or ?_ | with_reducible refine ev_one ?_ | with_reducible refine ev_not ?_
  | with_reducible refine ev_ifExp ?_
  | with_reducible refine et_call ?_
  | with_reducible refine ev_ixT ?_ (by with_unfolding_all exact fun _ _ => rfl)
  | with_reducible refine ⟨_, _, rfl, rfl, ?_⟩)
local macro_rules | `(tactic| k_call_by "w" 0) => `(tactic| repeat (first | k_call_by "v" 0 | refine ⟨Nat.le_of_ble_eq_true rfl, ?_⟩ | refine ⟨fun z => absurd z (by decide), fun _ => ?_⟩ | refine ⟨fun _ => ?_, fun z => absurd z (by decide)⟩ | refine ⟨_, rfl, ?_⟩ | refine ⟨_, _, _, rfl, rfl, rfl, ?_⟩ | refine ⟨_, _, rfl, ?_⟩ | refine ⟨_, _, _, rfl, ?_⟩ | refine ⟨_, _, _, _, rfl, ?_⟩))
local macro_rules | `(tactic| k_call_by "no" 0) => `(tactic| (intro z; first | (exact absurd z (by decide)) | (exact (nomatch z)) | (simp at z; done)))
local macro_rules | `(tactic| k_call_by "F" 0) => `(tactic| (refine ⟨?no, fun _ => ?_⟩; (case no => k_call_by "no" 0)))
local macro_rules | `(tactic| k_call_by "T" 0) => `(tactic| (refine ⟨fun _ => ?_, ?no⟩; (case no => k_call_by "no" 0)))
local macro_rules | `(tactic| k_call_by "s" 0) => `(tactic| (refine w_cons ?_; k_call_by "w" 0))
section
variable {P : Program} {w : World} {K : PySem.W.Frag} {mg : Str → Option Value} {base : Heap}
theorem sb_bd {x p : Int} {m n : Nat} (h1 : x.natAbs < 2 ^ m) (h2 : p.natAbs < 2 ^ n) (hn : n ≤ m) (k : Nat) (hk : k = m + 1) : (x - p).natAbs < 2 ^ k ∧ (x + p).natAbs < 2 ^ k := by
  subst hk
  have e : (2 : Nat) ^ n ≤ 2 ^ m := Nat.pow_le_pow_right (by decide) hn
  rw [Nat.pow_succ]
  generalize 2 ^ m = A at *
  generalize 2 ^ n = B at *
  omega
def sp_line_spans (K : PySem.W.Frag) : SpecD := fun ds R => ∃ r s a b w : Rat, ds = [lnd r s, spn K a b, Fq w] ∧ Q.B 81 r ∧ Q.B 281 s ∧ Q.B 400 a ∧ Q.B 400 b ∧ Q.B 140 w ∧ (r ≠ 0 → mos r s a b w - lea r s a b w + 1 ≤ 60) ∧
  (r = 0 → R (.lst (if Q.ab (Q.offs (s + r * a)) ≤ w then [.tup [Fq a, Fq b]] else []))) ∧ (r ≠ 0 → R (.lst (lsp r s a b w)))
theorem kn_line_spans (T : Tc K mg) : Kn P w K mg base CX0 "line_spans" 4 (spP K (sp_line_spans K)) :=
  T.d_line_spans.kn (ps := ["line", "span", "width"]) (fun _ _ _ _ _ _ us hl => match us, hl with | [_, _, _], _ => rfl) fun f fd F => def_ok F sc_line_spans (fun ds R h => by obtain ⟨_, _, _, _, _, rfl, _⟩ := h; rfl) fun X hx sc G H ds R h => by
    obtain ⟨r, s, a, b, w', rfl, hr, hs, ha, hb, hw, hm, hR0, hR1⟩ := h
    obtain ⟨t, ht⟩ := T.c_MOST_NEAR
    have hr3 : Q.B 300 r := hr.mono (by decide)
    have hs3 : Q.B 300 s := hs.mono (by decide)
    have ha3 : Q.B 1000 a := ha.mono (by decide)
    have hb3 : Q.B 1000 b := hb.mono (by decide)
    have hw3 : Q.B 300 w' := hw.mono (by decide)
    refine w_cons (w_unpack3 3 4 5 rfl rfl rfl rfl rfl rfl rfl ?_)
    k_call_by "w" 0
    refine ⟨rfl, fun hc => ?_, fun hc => ?_⟩
    · have hc : r = 0 := (slope_zero r s).mp (V.int.inj (of_decide_eq_true hc))
      k_call_by "s" 0
      refine w_call 0 (kn_line_is_near T) rfl rfl ?_
      k_call_by "v" 0
      k_call_by "n" 0
      k_call_by "v" 0
      refine w_fS T ?_ (by decide)
      k_call_by "w" 0
      refine ⟨hr3, hs3, ha3, hw3, ?_⟩
      have := hR0 hc
      refine ⟨_, rfl, fun h1 => ?_, fun h1 => ?_⟩
      · rw [if_pos (of_decide_eq_true h1)] at this
        refine w_cons (w_ret (ev_lst ?_))
        k_call_by "w" 0
        refine w_fS T ?_ (by decide)
        k_call_by "w" 0
        refine w_fS T ?_ (by decide)
        k_call_by "w" 0
        exact this
      · rw [if_neg (of_decide_eq_false h1)] at this
        refine w_nil (w_cons (w_ret (ev_lst ?_)))
        k_call_by "w" 0
        exact this
    · have h0 : r ≠ 0 := fun z => of_decide_eq_false hc (by rw [(slope_zero r s).mpr z])
      have hm := hm h0
      have hR := hR1 h0
      refine w_nil (w_cons (w_unpack2 6 7 rfl rfl rfl rfl rfl (w_call 1 (kn_wholes_met T) rfl rfl ?_)))
      k_call_by "w" 0
      refine ⟨r, s, a, b, w', rfl, hr3, hs3, ha3, hb3, hw3, ?_⟩
      refine ⟨_, _, rfl, ?_⟩
      k_call_by "s" 0
      refine w_glob (v := .int 200) 2 ht ⟨t, rfl⟩ rfl ?_
      k_call_by "w" 0
      refine ⟨fun z => absurd (of_decide_eq_true z) (by omega), fun _ => ?_⟩
      refine w_nil (w_cons (w_svlcN 8 15 [6, 15] [] rfl rfl (by rw [sc]; rfl) rfl rfl (by rw [sc]; exact .of (by kernel_rfl)) rfl (iv_range1 4 T.b_range rfl ?_)))
      k_call_by "w" 0
      refine ⟨(whs r s a b w').map D.int, ?_, ?_, fun i d c hd Y _ => ?_, ?_⟩
      · rw [intsD_length]; omega
      · rw [intsD_length]; simp [whs]
      · obtain ⟨hi, rfl⟩ := intsD_get hd
        k_call_by "w" 0
        rw [List.getElem?_map]
        unfold whs
        rw [List.getElem?_map, List.getElem?_range hi]
        simp
      refine w_cons (w_asg 9 rfl rfl rfl (ev_ixT ?_))
      k_call_by "n" 0
      k_call_by "v" 0
      refine ⟨_, _, _, rfl, rfl, rfl, ?_⟩
      refine (cutM (fun ω δ => ω = [] ∧ ∃ p : Int, sw r w' * ((w'.den : Int) : Rat) = (p : Rat) ∧ p.natAbs < 2 ^ 140 ∧ δ = [some (lnd r s), some (spn K a b), some (Fq w'), some (.int (r.num * (s.den : Int))), some (.int (s.num * (r.den : Int))), some (.int ((r.den : Int) * (s.den : Int))), some (.int (lea r s a b w')), some (.int (mos r s a b w')), some (.lst ((whl r s a b w').map D.int)), some (.int p), none, none, none, none, none, none]) ?_ ?_)
      · refine w_if (et_lt ?_)
        k_call_by "n" 0
        k_call_by "v" 0
        refine ⟨_, _, rfl, rfl, fun hn => ?_, fun hn => ?_⟩
        · have hn : r < 0 := (slope_neg r s).mp (of_decide_eq_true hn)
          refine w_cons (w_asg 8 rfl rfl rfl (ev_rev ?_))
          k_call_by "n" 0
          refine ⟨_, rfl, ?_⟩
          refine w_cons (w_asg 9 rfl rfl rfl (ev_neg ?_))
          k_call_by "n" 0
          refine ⟨_, rfl, w_nil ⟨rfl, -w'.num, ?_, by rw [Int.natAbs_neg]; exact hw.1, ?_⟩⟩
          · unfold sw
            rw [if_pos hn, Rat.neg_mul, Q.num_den]
            push_cast
            rfl
          · have e : whl r s a b w' = (whs r s a b w').reverse := by unfold whl; rw [if_pos hn]
            rw [e, List.map_reverse]
            rfl
        · have hn : ¬ r < 0 := fun z => of_decide_eq_false hn ((slope_neg r s).mpr z)
          refine w_nil ⟨rfl, w'.num, ?_, hw.1, ?_⟩
          · unfold sw
            rw [if_neg hn, Q.num_den]
          · have e : whl r s a b w' = whs r s a b w' := by unfold whl; rw [if_neg hn]
            rw [e]
            rfl
      · rintro ω δ ⟨rfl, p, hp, hpb, rfl⟩
        refine w_cons (w_newL 10 rfl rfl rfl (ea_nil ⟨Nat.zero_le _, fun q hq => ?_⟩))
        refine w_cons (w_forN 11 rfl rfl rfl (iv_list ?_))
        k_call_by "n" 0
        refine ⟨_, rfl, fun i ω δ => ω = [Cell.own X.K q (((whl r s a b w').take i).map fun k => .tup [Fq (cf r s a w' k), Fq (cl r s b w' k)])] ∧ ∃ x1 x2 x3 x4, δ = [some (lnd r s), some (spn K a b), some (Fq w'), some (.int (r.num * (s.den : Int))), some (.int (s.num * (r.den : Int))), some (.int ((r.den : Int) * (s.den : Int))), some (.int (lea r s a b w')), some (.int (mos r s a b w')), some (.lst ((whl r s a b w').map D.int)), some (.int p), some (.s (.ref q)), x1, x2, x3, x4, none], ⟨by simp, none, none, none, none, rfl⟩, fun i d ω δ hd hP => ?_, fun ω δ hP => ?_⟩
        · obtain ⟨rfl, x1, x2, x3, x4, rfl⟩ := hP
          rw [List.getElem?_map] at hd
          obtain ⟨k, hk, rfl⟩ := Option.map_eq_some_iff.mp hd
          obtain ⟨k1, k2⟩ := whl_mem (List.mem_of_getElem? hk)
          have hil := (List.getElem?_eq_some_iff.mp hk).1
          rw [whl_len] at hil
          have hsz : (whl r s a b w').length < 100000 := by rw [whl_len]; omega
          have kb := k_bd (lea_bd hr hs ha hb hw) k1 (by omega)
          have bb := mul_bd kb (dabs hw) 1046
          have un := mul_bd (dabs hr) (dabs hs) 362
          have sd := mul_bd hs.1 (dabs hr) 362
          have sl := mul_bd hr.1 (dabs hs) 362
          have hn0 : r.num * (s.den : Int) * (w'.den : Int) ≠ 0 := Int.mul_ne_zero (Int.mul_ne_zero (fun z => h0 (Q.num_zero.mp z)) (Q.den_ne s)) (Q.den_ne w')
          have dn := mul_bd sl (dabs hw) 1410
          have t2 := mul_bd sd (dabs hw) 1409
          have b1 := (sb_bd bb hpb (by decide) 1047 rfl).1
          have b2 := (sb_bd bb hpb (by decide) 1047 rfl).2
          have c1 := mul_bd b1 un 1409
          have c2 := mul_bd b2 un 1409
          have hp2 : (-sw r w') * ((w'.den : Int) : Rat) = ((-p : Int) : Rat) := by push_cast; rw [Rat.neg_mul, ← hp]; push_cast; rfl
          have q1 := bound_eq (k := k) (s := s) h0 hp
          have q2 := bound_eq (k := k) (s := s) h0 hp2
          rw [Int.sub_neg] at q2
          have q3 : (k : Rat) - -sw r w' - s = (k : Rat) + sw r w' - s := by grind
          rw [q3] at q2
          have f1 : Q.B 1410 (((k : Rat) - sw r w' - s) / r) := by rw [← q1]; exact Q.B.low hn0 (sb_bd c1 t2 (by decide) 1410 rfl).1 dn
          have f2 : Q.B 1410 (((k : Rat) + sw r w' - s) / r) := by rw [← q2]; exact Q.B.low hn0 (sb_bd c2 t2 (by decide) 1410 rfl).1 dn
          have dn' : (r.num * (s.den : Int) * (w'.den : Int)).natAbs < 2 ^ 8999 := Nat.lt_of_lt_of_le dn (Nat.pow_le_pow_right (by decide) (by decide))
          refine w_cons (w_asg 12 rfl rfl rfl ?_)
          k_call_by "w" 0
          refine ⟨mulOk kb (dabs hw), ?_⟩
          refine w_cons (w_asg 13 rfl rfl rfl (w_call 5 (kn_fraction T) rfl rfl ?_))
          k_call_by "w" 0
          refine ⟨mulOk b1 un, ?_⟩
          k_call_by "w" 0
          refine ⟨mulOk sd (dabs hw), ?_⟩
          k_call_by "w" 0
          refine ⟨mulOk sl (dabs hw), ?_⟩
          k_call_by "w" 0
          refine ⟨hn0, dn', ?_⟩
          rw [q1]
          refine w_cons (w_asg 14 rfl rfl rfl (w_call 5 (kn_fraction T) rfl rfl ?_))
          k_call_by "w" 0
          refine ⟨mulOk b2 un, ?_⟩
          k_call_by "w" 0
          refine ⟨mulOk sd (dabs hw), ?_⟩
          k_call_by "w" 0
          refine ⟨mulOk sl (dabs hw), ?_⟩
          k_call_by "w" 0
          refine ⟨hn0, dn', ?_⟩
          rw [q2]
          refine cutM (fun ω δ => ω = [Cell.own X.K q (((whl r s a b w').take i).map fun k => .tup [Fq (cf r s a w' k), Fq (cl r s b w' k)])] ∧ ∃ x1 x2, δ = [some (lnd r s), some (spn K a b), some (Fq w'), some (.int (r.num * (s.den : Int))), some (.int (s.num * (r.den : Int))), some (.int ((r.den : Int) * (s.den : Int))), some (.int (lea r s a b w')), some (.int (mos r s a b w')), some (.lst ((whl r s a b w').map D.int)), some (.int p), some (.s (.ref q)), x1, x2, some (Fq (cf r s a w' k)), some (Fq (((k : Rat) + sw r w' - s) / r)), none]) ?_ ?_
          · refine w_if (et_call (w_call 6 (kn_is_earlier T.toTx) rfl rfl ?_))
            k_call_by "w" 0
            refine w_fS T ?_ (by decide)
            k_call_by "w" 0
            refine ⟨bq f1, bq ha, ?_⟩
            refine ⟨_, rfl, fun hc => ?_, fun hc => ?_⟩
            · have e : cf r s a w' k = a := by unfold cf; rw [if_pos (of_decide_eq_true hc)]
              refine w_cons (w_asg 13 rfl rfl rfl (w_fS T ?_ (by decide)))
              k_call_by "w" 0
              rw [e]
              exact ⟨rfl, _, _, rfl⟩
            · have e : cf r s a w' k = ((k : Rat) - sw r w' - s) / r := by unfold cf; rw [if_neg (of_decide_eq_false hc)]
              rw [e]
              exact w_nil ⟨rfl, _, _, rfl⟩
          rintro ω δ ⟨rfl, y1, y2, rfl⟩
          refine cutM (fun ω δ => ω = [Cell.own X.K q (((whl r s a b w').take i).map fun k => .tup [Fq (cf r s a w' k), Fq (cl r s b w' k)])] ∧ ∃ x1 x2, δ = [some (lnd r s), some (spn K a b), some (Fq w'), some (.int (r.num * (s.den : Int))), some (.int (s.num * (r.den : Int))), some (.int ((r.den : Int) * (s.den : Int))), some (.int (lea r s a b w')), some (.int (mos r s a b w')), some (.lst ((whl r s a b w').map D.int)), some (.int p), some (.s (.ref q)), x1, x2, some (Fq (cf r s a w' k)), some (Fq (cl r s b w' k)), none]) ?_ ?_
          · refine w_if (et_call (w_call 6 (kn_is_earlier T.toTx) rfl rfl ?_))
            k_call_by "v" 0
            refine w_fS T ?_ (by decide)
            k_call_by "w" 0
            refine ⟨bq hb, bq f2, ?_⟩
            refine ⟨_, rfl, fun hc => ?_, fun hc => ?_⟩
            · have e : cl r s b w' k = b := by unfold cl; rw [if_pos (of_decide_eq_true hc)]
              refine w_cons (w_asg 14 rfl rfl rfl (w_fS T ?_ (by decide)))
              k_call_by "w" 0
              rw [e]
              exact ⟨rfl, _, _, rfl⟩
            · have e : cl r s b w' k = ((k : Rat) + sw r w' - s) / r := by unfold cl; rw [if_neg (of_decide_eq_false hc)]
              rw [e]
              exact w_nil ⟨rfl, _, _, rfl⟩
          rintro ω δ ⟨rfl, z1, z2, rfl⟩
          refine w_cons (w_append (ω1 := []) rfl (by rw [List.length_map, List.length_take]; exact Nat.lt_of_le_of_lt (Nat.min_le_right _ _) hsz) ?_)
          k_call_by "n" 0
          refine ⟨rfl, ?_⟩
          k_call_by "w" 0
          refine ⟨?_, _, _, _, _, rfl⟩
          rw [List.take_add_one, hk, List.map_append]
          rfl
        · obtain ⟨rfl, x1, x2, x3, x4, rfl⟩ := hP
          refine bv_freeze (ω1 := []) rfl hq (seen_name (i := 10) rfl) ?_
          k_call_by "w" 0
          rw [List.length_map, List.take_length]
          exact hR
end
end Wh

set_option Elab.async false
set_option linter.all false
set_option maxRecDepth 100000
set_option maxHeartbeats 4000000
namespace Wh
open PySem L2 PyProof.Rows DL
/-- the spans as they come -/
def lspR (r s a b w : Rat) : List (Rat × Rat) := if r = 0 then (if Q.ab (Q.offs (s + r * a)) ≤ w then [(a, b)] else []) else (whl r s a b w).map fun k => (cf r s a w k, cl r s b w k)
def pairD (q : Rat × Rat) : D := .tup [Fq q.1, Fq q.2]
theorem cf_bd {r s a w : Rat} {k : Int} (hr : Q.B 81 r) (hs : Q.B 281 s) (ha : Q.B 400 a) (hw : Q.B 140 w) (h0 : r ≠ 0) (hk : k.natAbs < 2 ^ 906) : Q.B 2000 (cf r s a w k) ∧ Q.B 2000 (cl r s a w k) := by
  have hsw : Q.B 140 (sw r w) := by unfold sw; split; exact hw.neg; exact hw
  have e1 : Q.B 1411 (((k : Rat) - sw r w - s) / r) := ((((Q.B.ofInt hk).sub hsw).sub hs).div hr h0).mono (by decide)
  have e2 : Q.B 1411 (((k : Rat) + sw r w - s) / r) := ((((Q.B.ofInt hk).add hsw).sub hs).div hr h0).mono (by decide)
  unfold cf cl
  constructor <;> split <;> first | exact ha.mono (by decide) | exact e1.mono (by decide) | exact e2.mono (by decide)
local macro_rules | `(tactic| k_call_by "n" 0) => `(tactic| ((with_reducible refine' nm_ix rfl ?na ?nb ?nc ?nd); (case na => (repeat (first | with_reducible exact ix0 | with_reducible apply ixS))); (case nb => rfl); (case nc => rfl)))
local macro_rules | `(tactic| k_call_by "v" 0) => `(tactic| first
  | with_reducible refine w_cons ?_
  | with_reducible refine w_nil ?_
  | with_reducible refine w_ret ?_
  | with_reducible refine w_if ?_
  | with_reducible refine ea_cons ?_ (by with_unfolding_all rfl)
  | with_reducible refine ea_nil ?_
  | k_call_by "n" 0
  | with_reducible refine ev_int ?_ | with_reducible refine ev_bl ?_ | with_reducible refine ev_non ?_ | with_reducible refine ev_str ?_
  | with_reducible refine ev_add ?_
  | with_reducible refine ev_sub ?_
  | with_reducible refine ev_mul ?_
  | with_reducible refine ev_fdiv ?_
  | with_reducible refine ev_mod ?_
  | with_reducible refine ev_neg ?_
  | with_reducible refine ev_tup ?_
  | with_reducible refine et_lt ?_ | with_reducible refine et_le ?_ | with_reducible refine et_gt ?_ | with_reducible refine et_ge ?_
  | with_reducible refine ev_lt ?_ | with_reducible refine ev_le ?_ | with_reducible refine ev_gt ?_ | with_reducible refine ev_ge ?_
  | with_reducible refine et_ne ?_ | with_reducible refine et_eq ?_ | with_reducible refine ev_ne ?_ | with_reducible refine ev_eq ?_
  | with_reducible refine et_isN ?_ | with_reducible refine et_notN ?_
  | with_reducible refine et_not ?_
  | with_reducible refine et_and ?_ | with_reducible refine et_or ?_
  | with_reducible refine ew_and ?_ | with_reducible refine ew_or ?_
  | with_reducible refine ew_and1 ?_ | with_reducible refine ew_or1 ?_
  | with_reducible refine ev_and ?_ | with_reducible refine ev_or ?_ | with_reducible refine ev_one ?_ | with_reducible refine ev_not ?_
  | with_reducible refine ev_ifExp ?_
  | with_reducible refine et_call ?_
  | with_reducible refine ev_ixT ?_ (by with_unfolding_all exact fun _ _ => rfl)
  | with_reducible refine ⟨_, _, rfl, rfl, ?_⟩)
local macro_rules | `(tactic| k_call_by "w" 0) => `(tactic| repeat (first | k_call_by "v" 0 | refine ⟨Nat.le_of_ble_eq_true rfl, ?_⟩ | refine ⟨fun z => absurd z (by decide), fun _ => ?_⟩ | refine ⟨fun _ => ?_, fun z => absurd z (by decide)⟩ | refine ⟨_, rfl, ?_⟩ | refine ⟨_, _, _, rfl, rfl, rfl, ?_⟩ | refine ⟨_, _, rfl, ?_⟩ | refine ⟨_, _, _, rfl, ?_⟩ | refine ⟨_, _, _, _, rfl, ?_⟩))
local macro_rules | `(tactic| k_call_by "no" 0) => `(tactic| (intro z; first | (exact absurd z (by decide)) | (exact (nomatch z)) | (simp at z; done)))
local macro_rules | `(tactic| k_call_by "F" 0) => `(tactic| (refine ⟨?no, fun _ => ?_⟩; (case no => k_call_by "no" 0)))
local macro_rules | `(tactic| k_call_by "T" 0) => `(tactic| (refine ⟨fun _ => ?_, ?no⟩; (case no => k_call_by "no" 0)))
local macro_rules | `(tactic| k_call_by "s" 0) => `(tactic| (refine w_cons ?_; k_call_by "w" 0))
section
variable {P : Program} {w : World} {K : PySem.W.Frag} {mg : Str → Option Value} {base : Heap}
def sp_all_line_spans (K : PySem.W.Frag) : SpecD := fun ds R => ∃ (ra sa rb sb a b w : Rat), ds = [two K ra sa rb sb, spn K a b, Fq w] ∧ Q.B 40 ra ∧ Q.B 140 sa ∧ Q.B 40 rb ∧ Q.B 140 sb ∧ Q.B 400 a ∧ Q.B 400 b ∧ Q.B 140 w ∧
  (rb - ra ≠ 0 → mos (rb - ra) (sb - sa) a b w - lea (rb - ra) (sb - sa) a b w + 1 ≤ 60) ∧ R (.lst [.lst ((lspR (rb - ra) (sb - sa) a b w).map pairD)])
theorem kn_all_line_spans (T : Tc K mg) : Kn P w K mg base CX0 "all_line_spans" 6 (spP K (sp_all_line_spans K)) :=
  T.d_all_line_spans.kn (ps := ["cycles", "span", "width"]) (fun _ _ _ _ _ _ us hl => match us, hl with | [_, _, _], _ => rfl) fun f fd F => def_ok F sc_all_line_spans (fun ds R h => by obtain ⟨_, _, _, _, _, _, _, rfl, _⟩ := h; rfl) fun X hx sc G H ds R h => by
    obtain ⟨ra, sa, rb, sb, a, b, w', rfl, hra, hsa, hrb, hsb, ha, hb, hw, hm, hR⟩ := h
    have br : Q.B 81 (rb - ra) := hrb.sub hra
    have bs : Q.B 281 (sb - sa) := hsb.sub hsa
    refine w_cons (w_ret (w_lcN 3 [1, 2, 3] ["line_spans"] rfl (by rw [sc]; exact .of (by kernel_rfl)) rfl (iv_list (w_call 0 (kn_lines_of T) rfl rfl ?_))))
    k_call_by "w" 0
    refine ⟨hra, hsa, hrb, hsb, ?_⟩
    refine ⟨_, rfl, [.lst ((lspR (rb - ra) (sb - sa) a b w').map pairD)], Nat.le_of_ble_eq_true rfl, rfl, fun i d c hd Y _ => ?_, hR⟩
    obtain ⟨rfl, rfl⟩ := one_get hd
    refine w_call 0 (kn_line_spans T) rfl rfl ?_
    k_call_by "w" 0
    refine ⟨_, _, a, b, w', rfl, br, bs, ha, hb, hw, hm, fun h0 => ?_, fun h0 => ?_⟩
    · unfold lspR
      rw [if_pos h0]
      split <;> rfl
    · unfold lspR
      rw [if_neg h0, List.map_map]
      rfl
def sp_shared_rows : SpecD := fun ds R => ∃ d : D, ds = [.lst [d]] ∧ R d
theorem kn_shared_rows (T : Tc K mg) : Kn P w K mg base CX0 "shared_rows" 1 (spP K sp_shared_rows) :=
  T.d_shared_rows.kn (ps := ["tracks"]) (fun _ _ _ _ _ _ us hl => match us, hl with | [_], _ => rfl) fun f fd F => def_ok F sc_shared_rows (fun ds R h => by obtain ⟨_, rfl, _⟩ := h; rfl) fun X hx sc G H ds R h => by
    obtain ⟨d, rfl, hR⟩ := h
    refine w_cons (w_asg 1 rfl rfl rfl (ev_ixL ?_))
    k_call_by "w" 0
    refine w_forN 2 rfl rfl rfl (iv_list (ev_sliceL ?_))
    k_call_by "w" 0
    refine ⟨fun i ω δ => i = 0 ∧ δ = [some (.lst [d]), some d, none], ⟨rfl, rfl⟩, fun i e ω δ hd hP => ?_, fun ω δ hP => ?_⟩
    · have hd : ([] : List D)[i]? = some e := hd
      simp at hd
    · obtain ⟨_, rfl⟩ := hP
      k_call_by "w" 0
      exact hR
def sp_near_spans (K : PySem.W.Frag) : SpecD := fun ds R => ∃ (ra sa rb sb a b w : Rat), ds = [two K ra sa rb sb, spn K a b, Fq w] ∧ Q.B 40 ra ∧ Q.B 140 sa ∧ Q.B 40 rb ∧ Q.B 140 sb ∧ Q.B 400 a ∧ Q.B 400 b ∧ Q.B 140 w ∧ 0 ≤ w ∧ 4 * w < 1 ∧
  (rb - ra ≠ 0 → mos (rb - ra) (sb - sa) a b w - lea (rb - ra) (sb - sa) a b w + 1 ≤ 60) ∧ (∀ q ∈ lspR (rb - ra) (sb - sa) a b w, q.1 ≤ q.2) ∧ R (.lst ((lspR (rb - ra) (sb - sa) a b w).map fun q => spn K q.1 q.2))
theorem lspR_bd {r s a b w : Rat} (hr : Q.B 81 r) (hs : Q.B 281 s) (ha : Q.B 400 a) (hb : Q.B 400 b) (hw : Q.B 140 w) (hm : r ≠ 0 → mos r s a b w - lea r s a b w + 1 ≤ 60) {q : Rat × Rat} (hq : q ∈ lspR r s a b w) : Q.B 2000 q.1 ∧ Q.B 2000 q.2 := by
  unfold lspR at hq
  split at hq
  · split at hq
    · rw [List.mem_singleton] at hq
      subst hq
      exact ⟨ha.mono (by decide), hb.mono (by decide)⟩
    · cases hq
  · rename_i h0
    obtain ⟨k, hk, rfl⟩ := List.mem_map.mp hq
    obtain ⟨k1, k2⟩ := whl_mem hk
    have := hm h0
    have kb := k_bd (lea_bd hr hs ha hb hw) k1 (by omega)
    exact ⟨(cf_bd hr hs ha hw h0 kb).1, (cf_bd hr hs hb hw h0 kb).2⟩
theorem lspR_len {r s a b w : Rat} (hm : r ≠ 0 → mos r s a b w - lea r s a b w + 1 ≤ 60) : (lspR r s a b w).length ≤ 60 := by
  unfold lspR
  split
  · split <;> simp
  · rename_i h0
    have := hm h0
    rw [List.length_map, whl_len]
    omega
theorem kn_near_spans (T : Tc K mg) : KnK P w K mg base CX0 "near_spans" "width" 2 8 (spP K (sp_near_spans K)) := by
  obtain ⟨f, fd, hm, F⟩ := T.d_near_spans.ex
  refine ⟨f, fd, ["cycles", "span", "width"], hm, F.kp, bindsK (n := 2) F (fun _ _ _ _ _ _ us v hl => match us, hl with | [_, _], _ => rfl), def_ok F sc_near_spans (fun ds R h => by obtain ⟨_, _, _, _, _, _, _, rfl, _⟩ := h; rfl) fun X hx sc G H ds R h => ?_⟩
  obtain ⟨ra, sa, rb, sb, a, b, w', rfl, hra, hsa, hrb, hsb, ha, hb, hw, w0, w4, hmm, hord, hR⟩ := h
  have br : Q.B 81 (rb - ra) := hrb.sub hra
  have bs : Q.B 281 (sb - sa) := hsb.sub hsa
  refine w_cons (w_expr (w_call 0 (kn_check_cycles T) rfl rfl ?_))
  k_call_by "w" 0
  refine w_expr (w_call 1 (kn_check_span_nearness T) rfl rfl ?_)
  k_call_by "w" 0
  refine w_expr (w_call 2 (kn_check_width_nearness T) rfl rfl ?_)
  k_call_by "w" 0
  refine ⟨w0, w4, ?_⟩
  refine w_cons (w_asg 3 rfl rfl rfl (w_call 3 (kn_shared_rows T) rfl rfl ?_))
  k_call_by "v" 0
  refine w_call 4 (kn_all_line_spans T) rfl rfl ?_
  k_call_by "w" 0
  refine ⟨ra, sa, rb, sb, a, b, w', rfl, hra, hsa, hrb, hsb, ha, hb, hw, hmm, ?_⟩
  k_call_by "v" 0
  refine ⟨_, rfl, ?_⟩
  refine w_cons (w_ret (w_lcT [("first", 4), ("last", 5)] [4, 5] [4, 5] ["Span"] rfl (by rw [sc]; exact .of (by kernel_rfl)) (.cons rfl rfl (.cons rfl rfl .nil)) rfl (fun _ => rfl) (fun _ => rfl) (iv_list ?_)))
  k_call_by "n" 0
  refine ⟨_, rfl, (lspR (rb - ra) (sb - sa) a b w').map fun q => spn K q.1 q.2, ?_, by simp, fun i d c hd => ?_, hR⟩
  · rw [List.length_map]; have := lspR_len hmm; omega
  · rw [List.getElem?_map] at hd
    obtain ⟨q, hq, rfl⟩ := Option.map_eq_some_iff.mp hd
    have hqm := List.mem_of_getElem? hq
    obtain ⟨q1, q2⟩ := lspR_bd br bs ha hb hw hmm hqm
    refine ⟨_, rfl, rfl, fun Y _ => ?_⟩
    refine w_make 0 (kn_Span_init T) rfl rfl ?_
    k_call_by "w" 0
    refine ⟨hord q hqm, bq q1, bq q2, ?_⟩
    rw [List.getElem?_map, hq]
    rfl
end
end Wh

set_option Elab.async false
set_option linter.all false
set_option maxRecDepth 100000
set_option maxHeartbeats 4000000
/-! The law's own arithmetic. -/
namespace Wh
open PySem L2 PyProof.Rows DL
local macro_rules | `(tactic| k_call_by "n" 0) => `(tactic| ((with_reducible refine' nm_ix rfl ?na ?nb ?nc ?nd); (case na => (repeat (first | with_reducible exact ix0 | with_reducible apply ixS))); (case nb => rfl); (case nc => rfl)))
local macro_rules | `(tactic| k_call_by "v" 0) => `(tactic| first
  | with_reducible refine w_cons ?_
  | with_reducible refine w_nil ?_
  | with_reducible refine w_ret ?_
  | with_reducible refine w_if ?_
  | with_reducible refine ea_cons ?_ (by with_unfolding_all rfl)
  | with_reducible refine ea_nil ?_
  | k_call_by "n" 0
  | with_reducible refine ev_int ?_ | with_reducible refine ev_bl ?_ | with_reducible refine ev_non ?_ | with_reducible refine ev_str ?_
  | with_reducible refine ev_add ?_
  | with_reducible refine ev_sub ?_
  | with_reducible refine ev_mul ?_
  | with_reducible refine ev_fdiv ?_
  | with_reducible refine ev_mod ?_
  | with_reducible refine ev_neg ?_
  | with_reducible refine ev_tup ?_
  | with_reducible refine et_lt ?_ | with_reducible refine et_le ?_ | with_reducible refine et_gt ?_ | with_reducible refine et_ge ?_
  | with_reducible refine ev_lt ?_ | with_reducible refine ev_le ?_ | with_reducible refine ev_gt ?_ | with_reducible refine ev_ge ?_
  | with_reducible refine et_ne ?_ | with_reducible refine et_eq ?_ | with_reducible refine ev_ne ?_ | with_reducible refine ev_eq ?_
  | with_reducible refine et_isN ?_ | with_reducible refine et_notN ?_
  | with_reducible refine et_not ?_
  | with_reducible refine et_and ?_ | with_reducible refine et_or ?_
  | with_reducible refine ew_and ?_ | with_reducible refine ew_or ?_
  | with_reducible refine ew_and1 ?_ | with_reducible refine ew_or1 ?_
  | with_reducible refine ev_and ?_ | with_reducible refine ev_or ?_ | with_reducible refine ev_one ?_ | with_reducible refine ev_not ?_
  | with_reducible refine ev_ifExp ?_
  | with_reducible refine et_call ?_
  | with_reducible refine ev_ixT ?_ (by with_unfolding_all exact fun _ _ => rfl)
  | with_reducible refine ⟨_, _, rfl, rfl, ?_⟩)
local macro_rules | `(tactic| k_call_by "w" 0) => `(tactic| repeat (first | k_call_by "v" 0 | refine ⟨Nat.le_of_ble_eq_true rfl, ?_⟩ | refine ⟨fun z => absurd z (by decide), fun _ => ?_⟩ | refine ⟨fun _ => ?_, fun z => absurd z (by decide)⟩ | refine ⟨_, rfl, ?_⟩ | refine ⟨_, _, _, rfl, rfl, rfl, ?_⟩ | refine ⟨_, _, rfl, ?_⟩ | refine ⟨_, _, _, rfl, ?_⟩ | refine ⟨_, _, _, _, rfl, ?_⟩))
local macro_rules | `(tactic| k_call_by "no" 0) => `(tactic| (intro z; first | (exact absurd z (by decide)) | (exact (nomatch z)) | (simp at z; done)))
local macro_rules | `(tactic| k_call_by "F" 0) => `(tactic| (refine ⟨?no, fun _ => ?_⟩; (case no => k_call_by "no" 0)))
local macro_rules | `(tactic| k_call_by "T" 0) => `(tactic| (refine ⟨fun _ => ?_, ?no⟩; (case no => k_call_by "no" 0)))
local macro_rules | `(tactic| k_call_by "s" 0) => `(tactic| (refine w_cons ?_; k_call_by "w" 0))
section
variable {P : Program} {w : World} {K : PySem.W.Frag} {mg : Str → Option Value} {base : Heap}
abbrev sp_l_gcd := sp_common_divisor
theorem kn_l_gcd (T : Tc K mg) : Kn P w K mg base CX0 "_law_gcd" 1 (spP K sp_l_gcd) :=
  T.d_l_gcd.kn (ps := ["_law_left", "_law_right"]) (fun _ _ _ _ _ _ us hl => match us, hl with | [_, _], _ => rfl) fun f fd F => def_ok F sc_l_gcd (fun ds R h => by obtain ⟨_, _, rfl, _⟩ := h; rfl) fun X hx sc G H ds R h => by
    obtain ⟨i, j, rfl, hR⟩ := h
    refine w_cons (w_asg 0 rfl rfl rfl (w_abs 0 T.b_abs rfl ?_))
    k_call_by "v" 0
    refine ⟨_, rfl, ?_⟩
    refine w_cons (w_asg 1 rfl rfl rfl (w_abs 0 T.b_abs rfl ?_))
    k_call_by "v" 0
    refine ⟨_, rfl, ?_⟩
    k_call_by "v" 0
    refine w_while (fun m ω δ => ∃ a b : Int, 0 ≤ a ∧ 0 ≤ b ∧ δ = [some (.int a), some (.int b)] ∧ Int.gcd a b = Int.gcd i j ∧ m = b.toNat ∧ ω = []) (j.natAbs : Nat) ⟨i.natAbs, j.natAbs, by omega, by omega, rfl, by simp [Int.gcd], by omega, rfl⟩ ?_
    rintro m ω δ ⟨a, b, ha, hb, rfl, hg, rfl, rfl⟩
    refine et_gt ?_
    k_call_by "v" 0
    k_call_by "v" 0
    refine ⟨_, _, rfl, rfl, fun hp => ?_, fun hp => ?_⟩
    · have hb0 : b ≠ 0 := fun z => by subst z; simp at hp
      k_call_by "v" 0
      refine w_par 0 1 rfl rfl rfl (by decide) (by rw [sc]; rfl) (by rw [sc]; rfl) ?_ rfl rfl rfl rfl
      k_call_by "n" 0
      refine ev_mod (w_int 1 T.b_int rfl ?_)
      k_call_by "n" 0
      refine .inl ⟨_, rfl, ?_⟩
      k_call_by "w" 0
      refine ⟨by omega, ?_⟩
      k_call_by "v" 0
      have h1 := Int.emod_nonneg a hb0
      have h2 := Int.emod_lt_of_pos a (show 0 < b by omega)
      exact ⟨_, by omega, b, a % b, hb, h1, rfl, (gcd_step ha (by omega)).trans hg, rfl, rfl⟩
    · have hb0 : b = 0 := by have := of_decide_eq_false hp; omega
      subst hb0
      k_call_by "w" 0
      have e : a = (Int.gcd i j : Int) := by rw [← hg]; simp; omega
      rw [e]
      exact hR
abbrev sp_l_lowest := sp_lowest
theorem kn_l_lowest (T : Tc K mg) : Kn P w K mg base CX0 "_law_lowest" 2 (spP K sp_l_lowest) :=
  T.d_l_lowest.kn (ps := ["_law_top", "_law_bottom"]) (fun _ _ _ _ _ _ us hl => match us, hl with | [_, _], _ => rfl) fun f fd F => def_ok F sc_l_lowest (fun ds R h => by obtain ⟨_, _, rfl, _⟩ := h; rfl) fun X hx sc G H ds R h => by
    obtain ⟨n, d, rfl, hd, hz, hR⟩ := h
    k_call_by "s" 0
    refine ⟨rfl, fun z => absurd (V.int.inj (of_decide_eq_true z)) hd, fun _ => ?_⟩
    refine w_nil ?_
    refine cutM (fun ω δ => ω = [] ∧ ∃ n' d' : Int, 0 < d' ∧ d'.natAbs < 2 ^ 8999 ∧ Rat.divInt n' d' = Rat.divInt n d ∧ δ = [some (.int n'), some (.int d'), none]) ?_ ?_
    · refine w_if (et_lt ?_)
      k_call_by "n" 0
      k_call_by "v" 0
      refine ⟨_, _, rfl, rfl, fun hp => ?_, fun hp => ?_⟩
      · have hd' : d < 0 := of_decide_eq_true hp
        refine w_cons (w_asg 0 rfl rfl rfl (ev_neg ?_))
        k_call_by "n" 0
        refine ⟨_, rfl, ?_⟩
        refine w_cons (w_asg 1 rfl rfl rfl (ev_neg ?_))
        k_call_by "n" 0
        exact ⟨_, rfl, w_nil ⟨rfl, -n, -d, by omega, by rw [Int.natAbs_neg]; exact hz, Rat.neg_divInt_neg n d, rfl⟩⟩
      · exact w_nil ⟨rfl, n, d, by have := of_decide_eq_false hp; omega, hz, rfl, rfl⟩
    · rintro ω δ ⟨rfl, n', d', hd', hz', e, rfl⟩
      obtain ⟨g1, g2⟩ := gcd_bd (n := n') (d := d') (by omega) hz'
      refine w_cons (w_asg 2 rfl rfl rfl (w_call 0 (kn_l_gcd T) rfl rfl ?_))
      k_call_by "w" 0
      refine ⟨⟨g2, g1⟩, ?_⟩
      k_call_by "w" 0
      refine ⟨⟨g2, g1⟩, ?_⟩
      k_call_by "w" 0
      obtain ⟨e1, e2⟩ := Q.low_pos n' hd'
      rw [← e] at hR
      unfold Fq at hR
      rw [e1, e2] at hR
      exact hR
abbrev sp_l_plus := sp_plus
theorem kn_l_plus (T : Tc K mg) : Kn P w K mg base CX0 "_law_plus" 3 (spP K sp_l_plus) :=
  T.d_l_plus.kn (ps := ["_law_left", "_law_right"]) (fun _ _ _ _ _ _ us hl => match us, hl with | [_, _], _ => rfl) fun f fd F => def_ok F sc_l_plus (fun ds R h => by obtain ⟨_, _, rfl, _⟩ := h; rfl) fun X hx sc G H ds R h => by
    obtain ⟨p, q, rfl, hp, hq, hR⟩ := h
    refine w_cons (w_ret (w_call 0 (kn_l_lowest T) rfl rfl ?_))
    k_call_by "w" 0
    refine ⟨mulOk hp.1 (dabs hq), ?_⟩
    k_call_by "w" 0
    refine ⟨mulOk hq.1 (dabs hp), ?_⟩
    k_call_by "w" 0
    refine ⟨mulOk (dabs hp) (dabs hq), ?_⟩
    k_call_by "w" 0
    refine ⟨mul_ne, mul_bd (dabs hp) (dabs hq) _, ?_⟩
    rw [Q.add]
    exact hR
abbrev sp_l_minus := sp_minus
theorem kn_l_minus (T : Tc K mg) : Kn P w K mg base CX0 "_law_minus" 3 (spP K sp_l_minus) :=
  T.d_l_minus.kn (ps := ["_law_left", "_law_right"]) (fun _ _ _ _ _ _ us hl => match us, hl with | [_, _], _ => rfl) fun f fd F => def_ok F sc_l_minus (fun ds R h => by obtain ⟨_, _, rfl, _⟩ := h; rfl) fun X hx sc G H ds R h => by
    obtain ⟨p, q, rfl, hp, hq, hR⟩ := h
    refine w_cons (w_ret (w_call 0 (kn_l_lowest T) rfl rfl ?_))
    k_call_by "w" 0
    refine ⟨mulOk hp.1 (dabs hq), ?_⟩
    k_call_by "w" 0
    refine ⟨mulOk hq.1 (dabs hp), ?_⟩
    k_call_by "w" 0
    refine ⟨mulOk (dabs hp) (dabs hq), ?_⟩
    k_call_by "w" 0
    refine ⟨mul_ne, mul_bd (dabs hp) (dabs hq) _, ?_⟩
    rw [Q.sub]
    exact hR
abbrev sp_l_times := sp_times
theorem kn_l_times (T : Tc K mg) : Kn P w K mg base CX0 "_law_times" 3 (spP K sp_l_times) :=
  T.d_l_times.kn (ps := ["_law_left", "_law_right"]) (fun _ _ _ _ _ _ us hl => match us, hl with | [_, _], _ => rfl) fun f fd F => def_ok F sc_l_times (fun ds R h => by obtain ⟨_, _, rfl, _⟩ := h; rfl) fun X hx sc G H ds R h => by
    obtain ⟨p, q, rfl, hp, hq, hR⟩ := h
    refine w_cons (w_ret (w_call 0 (kn_l_lowest T) rfl rfl ?_))
    k_call_by "w" 0
    refine ⟨mulOk hp.1 hq.1, ?_⟩
    k_call_by "w" 0
    refine ⟨mulOk (dabs hp) (dabs hq), ?_⟩
    k_call_by "w" 0
    refine ⟨mul_ne, mul_bd (dabs hp) (dabs hq) _, ?_⟩
    rw [Q.mul]
    exact hR
abbrev sp_l_over := sp_over
theorem kn_l_over (T : Tc K mg) : Kn P w K mg base CX0 "_law_over" 3 (spP K sp_l_over) :=
  T.d_l_over.kn (ps := ["_law_left", "_law_right"]) (fun _ _ _ _ _ _ us hl => match us, hl with | [_, _], _ => rfl) fun f fd F => def_ok F sc_l_over (fun ds R h => by obtain ⟨_, _, rfl, _⟩ := h; rfl) fun X hx sc G H ds R h => by
    obtain ⟨p, q, rfl, hp, hq, h0, hR⟩ := h
    refine w_cons (w_ret (w_call 0 (kn_l_lowest T) rfl rfl ?_))
    k_call_by "w" 0
    refine ⟨mulOk hp.1 (dabs hq), ?_⟩
    k_call_by "w" 0
    refine ⟨mulOk (dabs hp) hq.1, ?_⟩
    k_call_by "w" 0
    refine ⟨Int.mul_ne_zero (Q.den_ne p) (num_ne h0), mul_bd (dabs hp) hq.1 _, ?_⟩
    rw [Q.div]
    exact hR
abbrev sp_l_sign := sp_compare
theorem kn_l_sign (T : Tc K mg) : Kn P w K mg base CX0 "_law_sign" 1 (spP K sp_l_sign) :=
  T.d_l_sign.kn (ps := ["_law_left", "_law_right"]) (fun _ _ _ _ _ _ us hl => match us, hl with | [_, _], _ => rfl) fun f fd F => def_ok F sc_l_sign (fun ds R h => by obtain ⟨_, _, rfl, _⟩ := h; rfl) fun X hx sc G H ds R h => by
    obtain ⟨p, q, rfl, hp, hq, hR⟩ := h
    refine w_cons (w_asg 2 rfl rfl rfl ?_)
    k_call_by "w" 0
    refine ⟨mulOk hp.1 (dabs hq), ?_⟩
    k_call_by "w" 0
    refine ⟨mulOk hq.1 (dabs hp), ?_⟩
    k_call_by "w" 0
    refine w_int 0 T.b_int rfl ?_
    k_call_by "w" 0
    refine .inr ⟨_, rfl, ?_⟩
    refine w_int 0 T.b_int rfl ?_
    k_call_by "w" 0
    refine .inr ⟨_, rfl, ?_⟩
    k_call_by "w" 0
    have l1 := Q.lt p q
    have l2 := Q.lt q p
    have e : (if decide (0 < p.num * (q.den : Int) - q.num * (p.den : Int)) = true then (1 : Int) else 0) - (if decide (p.num * (q.den : Int) - q.num * (p.den : Int) < 0) = true then 1 else 0) = sgn p q := by
      unfold sgn
      by_cases h1 : p < q
      · have := l1.mpr h1
        rw [if_pos h1, if_neg (by simp; omega), if_pos (by simp; omega)]
        rfl
      · have h1' : ¬ _ := fun z => h1 (l1.mp z)
        rw [if_neg h1]
        by_cases h2 : q < p
        · have := l2.mpr h2
          rw [if_pos h2, if_pos (by simp; omega), if_neg (by simp; omega)]
          rfl
        · have h2' : ¬ _ := fun z => h2 (l2.mp z)
          rw [if_neg h2, if_neg (by simp; omega), if_neg (by simp; omega)]
          rfl
    rw [e]
    exact hR
abbrev sp_l_floor := sp_floor_of
theorem kn_l_floor (T : Tc K mg) : Kn P w K mg base CX0 "_law_floor" 1 (spP K sp_l_floor) :=
  T.d_l_floor.kn (ps := ["_law_value"]) (fun _ _ _ _ _ _ us hl => match us, hl with | [_], _ => rfl) fun f fd F => def_ok F sc_l_floor (fun ds R h => by obtain ⟨_, rfl, _⟩ := h; rfl) fun X hx sc G H ds R h => by
    obtain ⟨p, rfl, hp, hR⟩ := h
    refine w_cons (w_ret ?_)
    k_call_by "w" 0
    refine ⟨den_small hp, ?_⟩
    rw [← Rat.floor_def]
    exact hR
def sp_l_part : SpecD := fun ds R => ∃ p : Rat, ds = [Fq p] ∧ Bq p ∧ R (Fq (Q.part p))
theorem kn_l_part (T : Tc K mg) : Kn P w K mg base CX0 "_law_part" 3 (spP K sp_l_part) :=
  T.d_l_part.kn (ps := ["_law_value"]) (fun _ _ _ _ _ _ us hl => match us, hl with | [_], _ => rfl) fun f fd F => def_ok F sc_l_part (fun ds R h => by obtain ⟨_, rfl, _⟩ := h; rfl) fun X hx sc G H ds R h => by
    obtain ⟨p, rfl, hp, hR⟩ := h
    refine w_cons (w_ret (w_call 0 (kn_l_lowest T) rfl rfl ?_))
    k_call_by "v" 0
    refine ev_mod (w_int 1 T.b_int rfl ?_)
    k_call_by "w" 0
    refine .inl ⟨_, rfl, ?_⟩
    k_call_by "w" 0
    refine ⟨dpos p, ?_⟩
    k_call_by "w" 0
    refine ⟨Q.den_ne p, (den_small hp).2, ?_⟩
    have e : Rat.divInt (p.num % (p.den : Int)) (p.den : Int) = Q.part p := by
      have h1 := Q.self (Q.part p)
      rw [(Q.part_nd p).1, (Q.part_nd p).2] at h1
      exact h1
    rw [e]
    exact hR
def sp_l_offset : SpecD := fun ds R => ∃ p : Rat, ds = [Fq p] ∧ Bq p ∧ R (Fq (Q.offs p))
theorem kn_l_offset (T : Tc K mg) : Kn P w K mg base CX0 "_law_offset" 3 (spP K sp_l_offset) :=
  T.d_l_offset.kn (ps := ["_law_value"]) (fun _ _ _ _ _ _ us hl => match us, hl with | [_], _ => rfl) fun f fd F => def_ok F sc_l_offset (fun ds R h => by obtain ⟨_, rfl, _⟩ := h; rfl) fun X hx sc G H ds R h => by
    obtain ⟨p, rfl, hp, hR⟩ := h
    have e : Rat.divInt (if 2 * (p.num % (p.den : Int)) > (p.den : Int) then p.num % (p.den : Int) - (p.den : Int) else p.num % (p.den : Int)) (p.den : Int) = Q.offs p := by
      have h1 := Q.self (Q.offs p)
      rw [(Q.offs_nd p).1, (Q.offs_nd p).2] at h1
      exact h1
    refine w_cons (w_asg 1 rfl rfl rfl (ev_mod (w_int 0 T.b_int rfl ?_)))
    k_call_by "w" 0
    refine .inl ⟨_, rfl, ?_⟩
    k_call_by "w" 0
    refine ⟨dpos p, ?_⟩
    k_call_by "w" 0
    refine ⟨.inr (.inr (by decide)), ?_⟩
    k_call_by "w" 0
    refine ⟨fun hc => ?_, fun hc => ?_⟩
    · rw [if_pos (of_decide_eq_true hc)] at e
      refine w_cons (w_asg 1 rfl rfl rfl ?_)
      k_call_by "w" 0
      refine w_call 1 (kn_l_lowest T) rfl rfl ?_
      k_call_by "w" 0
      refine ⟨Q.den_ne p, (den_small hp).2, ?_⟩
      rw [e]
      exact hR
    · rw [if_neg (of_decide_eq_false hc)] at e
      k_call_by "w" 0
      refine w_call 1 (kn_l_lowest T) rfl rfl ?_
      k_call_by "w" 0
      refine ⟨Q.den_ne p, (den_small hp).2, ?_⟩
      rw [e]
      exact hR
def sp_l_distance : SpecD := fun ds R => ∃ p : Rat, ds = [Fq p] ∧ Bq p ∧ R (Fq (Q.ab (Q.offs p)))
theorem kn_l_distance (T : Tc K mg) : Kn P w K mg base CX0 "_law_distance" 4 (spP K sp_l_distance) :=
  T.d_l_distance.kn (ps := ["_law_value"]) (fun _ _ _ _ _ _ us hl => match us, hl with | [_], _ => rfl) fun f fd F => def_ok F sc_l_distance (fun ds R h => by obtain ⟨_, rfl, _⟩ := h; rfl) fun X hx sc G H ds R h => by
    obtain ⟨p, rfl, hp, hR⟩ := h
    refine w_cons (w_asg 1 rfl rfl rfl (w_call 0 (kn_l_offset T) rfl rfl ?_))
    k_call_by "w" 0
    refine ⟨hp, ?_⟩
    refine w_cons (w_ret (ev_tup (ea_cons (w_abs 1 T.b_abs rfl ?_))))
    k_call_by "w" 0
    rw [Fq_ab] at hR
    exact hR
def sp_l_turns : SpecD := fun ds R => ∃ r s m : Rat, ds = [.tup [Fq r, Fq s], Fq m] ∧ Bq r ∧ Bq s ∧ Bq m ∧ Bq (r * m) ∧ R (Fq (s + r * m))
theorem kn_l_turns (T : Tc K mg) : Kn P w K mg base CX0 "_law_turns" 4 (spP K sp_l_turns) :=
  T.d_l_turns.kn (ps := ["_law_row", "_law_moment_here"]) (fun _ _ _ _ _ _ us hl => match us, hl with | [_, _], _ => rfl) fun f fd F => def_ok F sc_l_turns (fun ds R h => by obtain ⟨_, _, _, rfl, _⟩ := h; rfl) fun X hx sc G H ds R h => by
    obtain ⟨r, s, m, rfl, hr, hs, hm, hrm, hR⟩ := h
    refine w_cons (w_ret (w_call 0 (kn_l_plus T) rfl rfl ?_))
    k_call_by "w" 0
    refine w_call 1 (kn_l_times T) rfl rfl ?_
    k_call_by "w" 0
    refine ⟨hr, hm, ?_⟩
    k_call_by "w" 0
    exact ⟨hs, hrm, hR⟩
end
end Wh

set_option Elab.async false
set_option linter.all false
set_option maxRecDepth 100000
set_option maxHeartbeats 4000000
/-! The law's own rule, nearness, roll. -/
namespace Wh
open PySem L2 PyProof.Rows DL
def pr (r s : Rat) : D := .tup [Fq r, Fq s]
theorem Fq_ivl {r : Rat} (h : r ≠ 0) : Fq (ivl r) = .tup [.int (r.den : Int), .int (r.num.natAbs : Int)] := by
  have hn : r.num ≠ 0 := fun z => h (Q.num_zero.mp z)
  obtain ⟨e1, e2⟩ := Q.ab_nd r
  have e : ivl r = (Q.ab r)⁻¹ := by unfold ivl; rw [Rat.div_def, Rat.one_mul]
  unfold Fq
  rw [e, Rat.num_inv, Rat.den_inv, e1, e2]
  have h1 : ((r.num.natAbs : Int)).sign = 1 := Int.sign_eq_one_of_pos (by omega)
  rw [h1, if_neg (by omega), Int.one_mul, Int.natAbs_natCast]
theorem base_step {r d : Rat} (h : r ≠ 0) : (0 - d / r) / ivl r = 0 - (Q.sg r : Rat) * d ∧ (0 - d / r) - ivl r * (((0 - (Q.sg r : Rat) * d).floor : Int) : Rat) = zmo r d := by
  have h1 := Q.ab_sg r
  have h2 := Q.mul_inv (Q.ab_ne h)
  have h3 := Q.sg_sq r
  have h4 := Q.mul_inv h
  have e : ivl r = (Q.ab r)⁻¹ := by unfold ivl; rw [Rat.div_def, Rat.one_mul]
  have e2 : d / r = (Q.sg r : Rat) * d * ivl r := by
    rw [e, Rat.div_def]
    have : r⁻¹ = (Q.sg r : Rat) * (Q.ab r)⁻¹ := by
      apply Rat.inv_eq_of_mul_eq_one
      generalize (Q.sg r : Rat) = sg at *
      generalize (Q.ab r)⁻¹ = ai at *
      generalize Q.ab r = a at *
      subst h1
      grind
    rw [this]
    grind
  have h5 := Q.mul_inv (ivl_ne h)
  constructor
  · rw [e2, Rat.div_def]
    grind
  · unfold zmo Q.part
    rw [e2]
    grind
local macro_rules | `(tactic| k_call_by "n" 0) => `(tactic| ((with_reducible refine' nm_ix rfl ?na ?nb ?nc ?nd); (case na => (repeat (first | with_reducible exact ix0 | with_reducible apply ixS))); (case nb => rfl); (case nc => rfl)))
local macro_rules | `(tactic| k_call_by "v" 0) => `(tactic| first
  | with_reducible refine w_cons ?_
  | with_reducible refine w_nil ?_
  | with_reducible refine w_ret ?_
  | with_reducible refine w_if ?_
  | with_reducible refine ea_cons ?_ (by with_unfolding_all rfl)
  | with_reducible refine ea_nil ?_
  | k_call_by "n" 0
  | with_reducible refine ev_int ?_ | with_reducible refine ev_bl ?_ | with_reducible refine ev_non ?_ | with_reducible refine ev_str ?_
  | with_reducible refine ev_add ?_
  | with_reducible refine ev_sub ?_
  | with_reducible refine ev_mul ?_
  | with_reducible refine ev_fdiv ?_
  | with_reducible refine ev_mod ?_
  | with_reducible refine ev_neg ?_
  | with_reducible refine ev_tup ?_
  | with_reducible refine et_lt ?_ | with_reducible refine et_le ?_ | with_reducible refine et_gt ?_ | with_reducible refine et_ge ?_
  | with_reducible refine ev_lt ?_ | with_reducible refine ev_le ?_ | with_reducible refine ev_gt ?_ | with_reducible refine ev_ge ?_
  | with_reducible refine et_ne ?_ | with_reducible refine et_eq ?_ | with_reducible refine ev_ne ?_ | with_reducible refine ev_eq ?_
  | with_reducible refine et_isN ?_ | with_reducible refine et_notN ?_
  | with_reducible refine et_not ?_
  | with_reducible refine et_and ?_ | with_reducible refine et_or ?_
  | with_reducible refine ew_and ?_ | with_reducible refine ew_or ?_
  | with_reducible refine ew_and1 ?_ | with_reducible refine ew_or1 ?_
  | with_reducible refine ev_and ?_ | with_reducible refine ev_or ?_ | with_reducible refine ev_one ?_ | with_reducible refine ev_not ?_
  | with_reducible refine ev_ifExp ?_
  | with_reducible refine et_call ?_
  | with_reducible refine ev_ixT ?_ (by with_unfolding_all exact fun _ _ => rfl)
  | with_reducible refine ⟨_, _, rfl, rfl, ?_⟩)
local macro_rules | `(tactic| k_call_by "w" 0) => `(tactic| repeat (first | k_call_by "v" 0 | refine ⟨Nat.le_of_ble_eq_true rfl, ?_⟩ | refine ⟨fun z => absurd z (by decide), fun _ => ?_⟩ | refine ⟨fun _ => ?_, fun z => absurd z (by decide)⟩ | refine ⟨_, rfl, ?_⟩ | refine ⟨_, _, _, rfl, rfl, rfl, ?_⟩ | refine ⟨_, _, rfl, ?_⟩ | refine ⟨_, _, _, rfl, ?_⟩ | refine ⟨_, _, _, _, rfl, ?_⟩))
local macro_rules | `(tactic| k_call_by "no" 0) => `(tactic| (intro z; first | (exact absurd z (by decide)) | (exact (nomatch z)) | (simp at z; done)))
local macro_rules | `(tactic| k_call_by "F" 0) => `(tactic| (refine ⟨?no, fun _ => ?_⟩; (case no => k_call_by "no" 0)))
local macro_rules | `(tactic| k_call_by "T" 0) => `(tactic| (refine ⟨fun _ => ?_, ?no⟩; (case no => k_call_by "no" 0)))
local macro_rules | `(tactic| k_call_by "s" 0) => `(tactic| (refine w_cons ?_; k_call_by "w" 0))
section
variable {P : Program} {w : World} {K : PySem.W.Frag} {mg : Str → Option Value} {base : Heap}
def sp_l_rule : SpecD := fun ds R => ∃ rl sl rc sc : Rat, ds = [.lst [pr rl sl, pr rc sc]] ∧ rc - rl ≠ 0 ∧ Q.B 40 rl ∧ Q.B 40 sl ∧ Q.B 40 rc ∧ Q.B 40 sc ∧ R (.tup [Fq (zmo (rc - rl) (sc - sl)), Fq (ivl (rc - rl))])
theorem kn_l_rule (T : Tc K mg) : Kn P w K mg base CX0 "_law_rule" 4 (spP K sp_l_rule) :=
  T.d_l_rule.kn (ps := ["_law_rows"]) (fun _ _ _ _ _ _ us hl => match us, hl with | [_], _ => rfl) fun f fd F => def_ok F sc_l_rule (fun ds R h => by obtain ⟨_, _, _, _, rfl, _⟩ := h; rfl) fun X hx sc G H ds R h => by
    obtain ⟨rl, sl, rc, sc', rfl, h0, hrl, hsl, hrc, hsc, hR⟩ := h
    have br : Q.B 81 (rc - rl) := hrc.sub hrl
    have bd : Q.B 81 (sc' - sl) := hsc.sub hsl
    have hn : (rc - rl).num ≠ 0 := fun z => h0 (Q.num_zero.mp z)
    have bi := ivl_bd h0 br
    have bb : Q.B 164 (0 - (sc' - sl) / (rc - rl)) := (Q.B.sub (a := 1) ⟨by decide, by decide⟩ (bd.div br h0))
    refine w_cons (w_asg 1 rfl rfl rfl ?_)
    k_call_by "w" 0
    refine w_asg 2 rfl rfl rfl ?_
    k_call_by "w" 0
    refine w_forN 3 rfl rfl rfl (iv_list (ev_sliceL ?_))
    k_call_by "w" 0
    refine ⟨fun i ω δ => (i = 0 ∧ ω = [] ∧ δ = [some (.lst [pr rl sl, pr rc sc']), some .non, some (.tup [.int 0, .int 1]), none, none, none, none, none, none, none]) ∨ (i = 1 ∧ ω = [] ∧ ∃ x y z, δ = [some (.lst [pr rl sl, pr rc sc']), some (Fq (0 - (sc' - sl) / (rc - rl))), some (Fq (ivl (rc - rl))), x, y, z, none, none, none, none]), .inl ⟨rfl, rfl, rfl⟩, fun i d ω δ hd hP => ?_, fun ω δ hP => ?_⟩
    · obtain ⟨rfl, rfl⟩ := one_get (x := pr rc sc') hd
      rcases hP with ⟨_, rfl, rfl⟩ | ⟨z, _⟩
      · refine w_cons (w_asg 4 rfl rfl rfl (w_call 0 (kn_l_minus T) rfl rfl (ea_cons (ev_ixT ?_))))
        k_call_by "n" 0
        k_call_by "v" 0
        refine ⟨_, _, _, rfl, rfl, rfl, ea_cons (ev_ixT (ev_ixL ?_))⟩
        k_call_by "w" 0
        refine ⟨bq hrc, bq hrl, ?_⟩
        refine w_cons (w_asg 5 rfl rfl rfl (w_call 0 (kn_l_minus T) rfl rfl (ea_cons (ev_ixT ?_))))
        k_call_by "n" 0
        k_call_by "v" 0
        refine ⟨_, _, _, rfl, rfl, rfl, ea_cons (ev_ixT (ev_ixL ?_))⟩
        k_call_by "w" 0
        refine ⟨bq hsc, bq hsl, ?_⟩
        k_call_by "s" 0
        refine ⟨rfl, fun z => absurd (V.int.inj (of_decide_eq_true z)) hn, fun _ => ?_⟩
        k_call_by "s" 0
        refine w_asg 1 rfl rfl rfl (w_call 0 (kn_l_minus T) rfl rfl ?_)
        k_call_by "w" 0
        refine w_call 1 (kn_l_over T) rfl rfl ?_
        k_call_by "w" 0
        refine ⟨bq bd, bq br, h0, ?_⟩
        k_call_by "v" 0
        refine ⟨0, _, rfl, bq ⟨by decide, by decide⟩ (n := 1), bq (bd.div br h0), ?_⟩
        refine w_cons (w_asg 2 rfl rfl rfl ?_)
        k_call_by "w" 0
        refine w_abs 2 T.b_abs rfl ?_
        k_call_by "w" 0
        rw [← Fq_ivl h0]
        exact .inr ⟨rfl, rfl, _, _, _, rfl⟩
      · omega
    · rcases hP with ⟨z, _⟩ | ⟨_, rfl, x, y, z, rfl⟩
      · cases z
      · obtain ⟨e1, e2⟩ := base_step (d := sc' - sl) h0
        have bx : Q.B 85 (0 - (Q.sg (rc - rl) : Rat) * (sc' - sl)) := Q.B.sub (a := 1) ⟨by decide, by decide⟩ ((Q.B.ofInt (Q.sg_bd _)).mul bd)
        k_call_by "s" 0
        k_call_by "F" 0
        k_call_by "w" 0
        refine w_call 0 (kn_l_minus T) rfl rfl ?_
        k_call_by "w" 0
        refine w_call 3 (kn_l_times T) rfl rfl ?_
        k_call_by "w" 0
        refine w_call 7 (kn_l_floor T) rfl rfl ?_
        k_call_by "v" 0
        refine w_call 1 (kn_l_over T) rfl rfl ?_
        k_call_by "w" 0
        refine ⟨bq bb, bq bi, ivl_ne h0, ?_⟩
        rw [e1]
        k_call_by "w" 0
        refine ⟨bq bx, ?_⟩
        k_call_by "w" 0
        refine ⟨_, _, rfl, bq bi, bq (Q.B.ofInt bx.floor), ?_⟩
        k_call_by "w" 0
        refine ⟨bq bb, bq (bi.mul (Q.B.ofInt bx.floor)), ?_⟩
        rw [e2]
        k_call_by "w" 0
        exact hR
def shT (S : Sd) : D := .tup [pr S.rl S.sl, pr S.rc S.sc, pr S.rn S.sn, Fq S.w]
def sp_l_shade_rule : SpecD := fun ds R => ∃ (rl sl rc sc : Rat) (d1 d2 : D), ds = [.tup [pr rl sl, pr rc sc, d1, d2]] ∧ rc - rl ≠ 0 ∧ Q.B 40 rl ∧ Q.B 40 sl ∧ Q.B 40 rc ∧ Q.B 40 sc ∧ R (.tup [Fq (zmo (rc - rl) (sc - sl)), Fq (ivl (rc - rl))])
theorem kn_l_shade_rule (T : Tc K mg) : Kn P w K mg base CX0 "_law_shade_rule" 5 (spP K sp_l_shade_rule) :=
  T.d_l_shade_rule.kn (ps := ["_law_shade_here"]) (fun _ _ _ _ _ _ us hl => match us, hl with | [_], _ => rfl) fun f fd F => def_ok F sc_l_shade_rule (fun ds R h => by obtain ⟨_, _, _, _, _, _, rfl, _⟩ := h; rfl) fun X hx sc G H ds R h => by
    obtain ⟨rl, sl, rc, sc', d1, d2, rfl, h0, hrl, hsl, hrc, hsc, hR⟩ := h
    refine w_cons (w_ret (w_call 0 (kn_l_rule T) rfl rfl ?_))
    k_call_by "v" 0
    refine ev_lst ?_
    k_call_by "w" 0
    exact ⟨h0, hrl, hsl, hrc, hsc, hR⟩
def sp_l_near : SpecD := fun ds R => ∃ (ra sa rb sb m w : Rat), ds = [.lst [pr ra sa, pr rb sb], Fq m, Fq w] ∧ Q.B 40 ra ∧ Q.B 140 sa ∧ Q.B 40 rb ∧ Q.B 140 sb ∧ Q.B 1000 m ∧ Q.B 300 w ∧ R (.bl (decide (Q.ab (Q.offs ((sb - sa) + (rb - ra) * m)) ≤ w)))
theorem kn_l_near (T : Tc K mg) : Kn P w K mg base CX0 "_law_near" 5 (spP K sp_l_near) :=
  T.d_l_near.kn (ps := ["_law_rows", "_law_moment_here", "_law_width"]) (fun _ _ _ _ _ _ us hl => match us, hl with | [_, _, _], _ => rfl) fun f fd F => def_ok F sc_l_near (fun ds R h => by obtain ⟨_, _, _, _, _, _, rfl, _⟩ := h; rfl) fun X hx sc G H ds R h => by
    obtain ⟨ra, sa, rb, sb, m, w', rfl, hra, hsa, hrb, hsb, hm, hw, hR⟩ := h
    have ta := hsa.add (hra.mul hm)
    have tb := hsb.add (hrb.mul hm)
    have e : (sb + rb * m) - (sa + ra * m) = (sb - sa) + (rb - ra) * m := by grind
    have bt : Q.B 2363 ((sb - sa) + (rb - ra) * m) := by rw [← e]; exact (tb.sub ta).mono (by decide)
    refine w_cons (w_forN 3 rfl rfl rfl (iv_list (ev_sliceL ?_)))
    k_call_by "w" 0
    refine ⟨fun i ω δ => (i = 0 ∧ ω = [] ∧ δ = [some (.lst [pr ra sa, pr rb sb]), some (Fq m), some (Fq w'), none, none]) ∨ (i = 1 ∧ R (.bl true)), .inl ⟨rfl, rfl, rfl⟩, fun i d ω δ hd hP => ?_, fun ω δ hP => ?_⟩
    · obtain ⟨rfl, rfl⟩ := one_get (x := pr rb sb) hd
      rcases hP with ⟨_, rfl, rfl⟩ | ⟨z, _⟩
      · refine w_cons (w_asg 4 rfl rfl rfl (w_call 0 (kn_l_minus T) rfl rfl ?_))
        k_call_by "v" 0
        refine w_call 1 (kn_l_turns T) rfl rfl ?_
        k_call_by "w" 0
        refine ⟨bq hrb, bq hsb, bq hm, bq (hrb.mul hm), ?_⟩
        k_call_by "v" 0
        refine w_call 1 (kn_l_turns T) rfl rfl ?_
        k_call_by "v" 0
        refine ev_ixL ?_
        k_call_by "w" 0
        refine ⟨bq hra, bq hsa, bq hm, bq (hra.mul hm), ?_⟩
        k_call_by "w" 0
        refine ⟨bq tb, bq ta, ?_⟩
        rw [e]
        k_call_by "s" 0
        refine w_call 2 (kn_l_sign T) rfl rfl ?_
        k_call_by "v" 0
        refine w_call 3 (kn_l_distance T) rfl rfl ?_
        k_call_by "w" 0
        refine ⟨bq bt, ?_⟩
        k_call_by "w" 0
        refine ⟨bq bt.offs.ab, bq hw, ?_⟩
        k_call_by "w" 0
        have es := sgn_le (Q.ab (Q.offs ((sb - sa) + (rb - ra) * m))) w'
        refine ⟨fun hc => ?_, fun hc => ?_⟩
        · have h1 : ¬ sgn (Q.ab (Q.offs ((sb - sa) + (rb - ra) * m))) w' ≤ 0 := by have := of_decide_eq_true hc; omega
          have h2 : ¬ Q.ab (Q.offs ((sb - sa) + (rb - ra) * m)) ≤ w' := fun z => h1 ((decide_eq_decide.mp es).mpr z)
          rw [decide_eq_false h2] at hR
          k_call_by "w" 0
          exact hR
        · have h1 : sgn (Q.ab (Q.offs ((sb - sa) + (rb - ra) * m))) w' ≤ 0 := by have := of_decide_eq_false hc; omega
          have h2 : Q.ab (Q.offs ((sb - sa) + (rb - ra) * m)) ≤ w' := (decide_eq_decide.mp es).mp h1
          rw [decide_eq_true h2] at hR
          exact w_nil (w_nil (.inr ⟨rfl, hR⟩))
      · omega
    · rcases hP with ⟨z, _⟩ | ⟨_, hR⟩
      · cases z
      · refine w_cons (w_ret (ev_bl hR))
end
end Wh

set_option Elab.async false
set_option linter.all false
set_option maxRecDepth 100000
set_option maxHeartbeats 4000000
namespace Wh
open PySem L2 PyProof.Rows DL
theorem stp_eq {z i a : Rat} : -((-((a - z) / i)).floor) = stp z i a := by
  unfold stp
  have e : -((a - z) / i) = (z - a) / i := by rw [Rat.div_def, Rat.div_def]; grind
  rw [e]
theorem mom_comm (z i : Rat) (n : Int) : z + i * (n : Rat) = mom z i n := by unfold mom; rw [Rat.mul_comm]
/-- the law's offset is the shade's -/
theorem off_eq (S : Sd) (n : Int) : Q.offs ((S.sn + S.rn * mom S.z S.i n) - (S.sl + S.rl * mom S.z S.i n)) = S.off n := by
  unfold Sd.off Sd.o Sd.g mom
  obtain ⟨k, hk⟩ := Q.offs_int (Q.part (S.sn + S.rn * S.z) - Q.part (S.sl + S.rl * S.z))
  rw [hk]
  unfold Q.part
  have e : (S.sn + S.rn * (S.z + (n : Rat) * S.i)) - (S.sl + S.rl * (S.z + (n : Rat) * S.i)) =
      (S.sn + S.rn * S.z - ((S.sn + S.rn * S.z).floor : Rat) - (S.sl + S.rl * S.z - ((S.sl + S.rl * S.z).floor : Rat)) - (k : Rat) + (n : Rat) * (S.i * (S.rn - S.rl))) + (((S.sn + S.rn * S.z).floor - (S.sl + S.rl * S.z).floor + k : Int) : Rat) := by
    push_cast
    grind
  rw [e, Q.offs_add]
local macro_rules | `(tactic| k_call_by "n" 0) => `(tactic| ((with_reducible refine' nm_ix rfl ?na ?nb ?nc ?nd); (case na => (repeat (first | with_reducible exact ix0 | with_reducible apply ixS))); (case nb => rfl); (case nc => rfl)))
local macro_rules | `(tactic| k_call_by "v" 0) => `(tactic| first
  | with_reducible refine w_cons ?_
  | with_reducible refine w_nil ?_
  | with_reducible refine w_ret ?_
  | with_reducible refine w_if ?_
  | with_reducible refine ea_cons ?_ (by with_unfolding_all rfl)
  | with_reducible refine ea_nil ?_
  | k_call_by "n" 0
  | with_reducible refine ev_int ?_ | with_reducible refine ev_bl ?_ | with_reducible refine ev_non ?_ | with_reducible refine ev_str ?_
  | with_reducible refine ev_add ?_
  | with_reducible refine ev_sub ?_
  | with_reducible refine ev_mul ?_
  | with_reducible refine ev_fdiv ?_
  | with_reducible refine ev_mod ?_
  | with_reducible refine ev_neg ?_
  | with_reducible refine ev_tup ?_
  | with_reducible refine et_lt ?_ | with_reducible refine et_le ?_ | with_reducible refine et_gt ?_ | with_reducible refine et_ge ?_
  | with_reducible refine ev_lt ?_ | with_reducible refine ev_le ?_ | with_reducible refine ev_gt ?_ | with_reducible refine ev_ge ?_
  | with_reducible refine et_ne ?_ | with_reducible refine et_eq ?_ | with_reducible refine ev_ne ?_ | with_reducible refine ev_eq ?_
  | with_reducible refine et_isN ?_ | with_reducible refine et_notN ?_
  | with_reducible refine et_not ?_
  | with_reducible refine et_and ?_ | with_reducible refine et_or ?_
  | with_reducible refine ew_and ?_ | with_reducible refine ew_or ?_
  | with_reducible refine ew_and1 ?_ | with_reducible refine ew_or1 ?_
  | with_reducible refine ev_and ?_ | with_reducible refine ev_or ?_ | with_reducible refine ev_one ?_ | with_reducible refine ev_not ?_
  | with_reducible refine ev_ifExp ?_
  | with_reducible refine et_call ?_
  | with_reducible refine ev_ixT ?_ (by with_unfolding_all exact fun _ _ => rfl)
  | with_reducible refine ⟨_, _, rfl, rfl, ?_⟩)
local macro_rules | `(tactic| k_call_by "w" 0) => `(tactic| repeat (first | k_call_by "v" 0 | refine ⟨Nat.le_of_ble_eq_true rfl, ?_⟩ | refine ⟨fun z => absurd z (by decide), fun _ => ?_⟩ | refine ⟨fun _ => ?_, fun z => absurd z (by decide)⟩ | refine ⟨_, rfl, ?_⟩ | refine ⟨_, _, _, rfl, rfl, rfl, ?_⟩ | refine ⟨_, _, rfl, ?_⟩ | refine ⟨_, _, _, rfl, ?_⟩ | refine ⟨_, _, _, _, rfl, ?_⟩))
local macro_rules | `(tactic| k_call_by "no" 0) => `(tactic| (intro z; first | (exact absurd z (by decide)) | (exact (nomatch z)) | (simp at z; done)))
local macro_rules | `(tactic| k_call_by "F" 0) => `(tactic| (refine ⟨?no, fun _ => ?_⟩; (case no => k_call_by "no" 0)))
local macro_rules | `(tactic| k_call_by "T" 0) => `(tactic| (refine ⟨fun _ => ?_, ?no⟩; (case no => k_call_by "no" 0)))
local macro_rules | `(tactic| k_call_by "s" 0) => `(tactic| (refine w_cons ?_; k_call_by "w" 0))
section
variable {P : Program} {w : World} {K : PySem.W.Frag} {mg : Str → Option Value} {base : Heap}
def sp_l_numbers_in : SpecD := fun ds R => ∃ z i a b : Rat, ds = [.tup [Fq z, Fq i], .tup [Fq a, Fq b]] ∧ i ≠ 0 ∧ Q.B 200 z ∧ Q.B 100 i ∧ Q.B 400 a ∧ Q.B 400 b ∧ R (.tup [.int (stp z i a), .int (((b - z) / i).floor)])
theorem kn_l_numbers_in (T : Tc K mg) : Kn P w K mg base CX0 "_law_numbers_in" 4 (spP K sp_l_numbers_in) :=
  T.d_l_numbers_in.kn (ps := ["_law_rule_here", "_law_ends"]) (fun _ _ _ _ _ _ us hl => match us, hl with | [_, _], _ => rfl) fun f fd F => def_ok F sc_l_numbers_in (fun ds R h => by obtain ⟨_, _, _, _, rfl, _⟩ := h; rfl) fun X hx sc G H ds R h => by
    obtain ⟨z, i, a, b, rfl, h0, hz, hi, ha, hb, hR⟩ := h
    have b1 := (ha.sub hz).div hi h0
    have b2 := (hb.sub hz).div hi h0
    refine w_cons (w_asg 2 rfl rfl rfl (w_call 0 (kn_l_over T) rfl rfl ?_))
    k_call_by "v" 0
    refine w_call 1 (kn_l_minus T) rfl rfl ?_
    k_call_by "w" 0
    refine ⟨bq ha, bq hz, ?_⟩
    k_call_by "w" 0
    refine ⟨bq (ha.sub hz), bq hi, h0, ?_⟩
    refine w_cons (w_asg 3 rfl rfl rfl (w_call 0 (kn_l_over T) rfl rfl ?_))
    k_call_by "v" 0
    refine w_call 1 (kn_l_minus T) rfl rfl ?_
    k_call_by "w" 0
    refine ⟨bq hb, bq hz, ?_⟩
    k_call_by "w" 0
    refine ⟨bq (hb.sub hz), bq hi, h0, ?_⟩
    k_call_by "w" 0
    refine w_call 2 (kn_l_floor T) rfl rfl ?_
    k_call_by "w" 0
    refine ⟨-((a - z) / i), by unfold Fq; rw [Rat.neg_num, Rat.neg_den], bq b1.neg, ?_⟩
    k_call_by "w" 0
    rw [stp_eq]
    refine w_call 2 (kn_l_floor T) rfl rfl ?_
    k_call_by "w" 0
    refine ⟨bq b2, ?_⟩
    k_call_by "w" 0
    exact hR
/-- what is due -/
def dueD (S : Sd) (a b : Rat) : D := if S.c a b ≤ 400 then .tup [.str "told", .lst (S.rows a b)] else .tup [.str "TooMany", .int 400]
def sp_l_roll_due : SpecD := fun ds R => ∃ (S : Sd) (a b : Rat), ds = [shT S, .tup [Fq S.z, Fq S.i], .tup [Fq a, Fq b]] ∧ S.Ok ∧ Q.B 400 a ∧ Q.B 400 b ∧ R (dueD S a b)
theorem kn_l_roll_due (T : Tc K mg) : Kn P w K mg base CX0 "_law_roll_due" 5 (spP K sp_l_roll_due) :=
  T.d_l_roll_due.kn (ps := ["_law_shade_here", "_law_rule_here", "_law_ends"]) (fun _ _ _ _ _ _ us hl => match us, hl with | [_, _, _], _ => rfl) fun f fd F => def_ok F sc_l_roll_due (fun ds R h => by obtain ⟨_, _, _, rfl, _⟩ := h; rfl) fun X hx sc G H ds R h => by
    obtain ⟨S, a, b, rfl, hS, ha, hb, hR⟩ := h
    have hz : Q.B 200 S.z := hS.bz.mono (by decide)
    have hi : Q.B 100 S.i := hS.bi.mono (by decide)
    have ec : ((b - S.z) / S.i).floor = S.l a + S.c a b - 1 := by unfold Sd.l Sd.c cnt; omega
    have el : stp S.z S.i a = S.l a := rfl
    have hl := hS.bl ha
    refine w_cons (w_unpack2 3 4 rfl rfl rfl rfl rfl (w_call 0 (kn_l_numbers_in T) rfl rfl ?_))
    k_call_by "w" 0
    refine ⟨hS.i0, hz, hi, ha, hb, ?_⟩
    rw [ec, el]
    refine ⟨_, _, rfl, ?_⟩
    k_call_by "s" 0
    refine ⟨fun hc => ?_, fun hc => ?_⟩
    · have hc : ¬ S.c a b ≤ 400 := by have := of_decide_eq_true hc; omega
      unfold dueD at hR
      rw [if_neg hc] at hR
      k_call_by "w" 0
      exact hR
    · have hc : S.c a b ≤ 400 := by have := of_decide_eq_false hc; omega
      unfold dueD at hR
      rw [if_pos hc] at hR
      refine w_nil (w_cons (w_newL 5 rfl rfl rfl (ea_nil ⟨Nat.zero_le _, fun p hp => ?_⟩)))
      refine w_cons (w_forN 6 rfl rfl rfl (iv_range2 1 T.b_range rfl ?_))
      k_call_by "w" 0
      have e1 : (S.l a + S.c a b - 1 + 1 - S.l a).toNat = (S.c a b).toNat := by omega
      rw [e1]
      refine ⟨fun k ω δ => k ≤ (S.c a b).toNat ∧ ω = [Cell.own X.K p ((List.range k).map fun (j : Nat) => S.row (S.l a + j))] ∧ ∃ x y u v w q, δ = [some (shT S), some (.tup [Fq S.z, Fq S.i]), some (.tup [Fq a, Fq b]), x, y, some (.s (.ref p)), w, u, v, q], ⟨Nat.zero_le _, rfl, _, _, _, _, _, _, rfl⟩, fun k d ω δ hd hP => ?_, fun ω δ hP => ?_⟩
      · obtain ⟨hk, rfl, hδ⟩ := hP
        obtain ⟨x, y, u, v, w, q, rfl⟩ := hδ
        obtain ⟨hk', rfl⟩ := intsD_get hd
        have hn : (S.l a + (k : Int)).natAbs < 2 ^ 660 := lk_bd hl (by omega)
        have bm := hS.bm hn
        have bo := Sd.boff hS hn
        have tn := hS.sn.add (hS.rn.mul bm)
        have tl := hS.sl.add (hS.rl.mul bm)
        refine w_cons (w_asg 7 rfl rfl rfl (w_call 2 (kn_l_plus T) rfl rfl ?_))
        k_call_by "w" 0
        refine w_call 3 (kn_l_times T) rfl rfl ?_
        k_call_by "w" 0
        refine ⟨S.i, ((S.l a + (k : Int) : Int) : Rat), rfl, bq hS.bi, bq (Q.B.ofInt hn), ?_⟩
        k_call_by "w" 0
        refine ⟨bq hS.bz, bq (hS.bi.mul (Q.B.ofInt hn)), ?_⟩
        rw [mom_comm]
        refine w_cons (w_asg 8 rfl rfl rfl (w_call 4 (kn_l_offset T) rfl rfl ?_))
        k_call_by "v" 0
        refine w_call 5 (kn_l_minus T) rfl rfl ?_
        k_call_by "v" 0
        refine w_call 6 (kn_l_turns T) rfl rfl ?_
        k_call_by "w" 0
        refine ⟨bq hS.rn, bq hS.sn, bq bm, bq (hS.rn.mul bm), ?_⟩
        k_call_by "v" 0
        refine w_call 6 (kn_l_turns T) rfl rfl ?_
        k_call_by "w" 0
        refine ⟨bq hS.rl, bq hS.sl, bq bm, bq (hS.rl.mul bm), ?_⟩
        k_call_by "w" 0
        refine ⟨bq tn, bq tl, ?_⟩
        k_call_by "w" 0
        refine ⟨bq (tn.sub tl), ?_⟩
        rw [off_eq]
        refine w_cons (w_asg 9 rfl rfl rfl (ev_lt (w_call 7 (kn_l_sign T) rfl rfl ?_)))
        k_call_by "w" 0
        refine w_abs 8 T.b_abs rfl ?_
        k_call_by "w" 0
        refine ⟨Q.ab (S.off (S.l a + k)), S.w, by rw [Fq_ab], bq bo.ab, bq hS.w, ?_⟩
        k_call_by "w" 0
        have es : decide (sgn (Q.ab (S.off (S.l a + k))) S.w < 1) = decide (Q.ab (S.off (S.l a + k)) ≤ S.w) := by
          rw [← sgn_le]
          exact decide_eq_decide.mpr (by omega)
        rw [es]
        refine w_append (ω1 := []) rfl (by rw [List.length_map, List.length_range]; omega) ?_
        k_call_by "n" 0
        refine ⟨rfl, ?_⟩
        k_call_by "w" 0
        refine ⟨by omega, ?_, _, _, _, _, _, _, rfl⟩
        rw [List.range_succ, List.map_append]
        rfl
      · rw [intsD_length] at hP
        obtain ⟨hk, rfl, hδ⟩ := hP
        obtain ⟨x, y, u, v, w, q, rfl⟩ := hδ
        refine bv_freeze (ω1 := []) rfl hp (seen_name (i := 5) rfl) ?_
        k_call_by "w" 0
        exact hR
end
end Wh

set_option Elab.async false
set_option linter.all false
set_option maxRecDepth 100000
set_option maxHeartbeats 4000000
/-! Alike: every plain datum is like itself. -/
namespace Wh
open PySem L2 PyProof.Rows DL
inductive Pl : Nat → D → Prop
  | non (n : Nat) : Pl n .non
  | bl (n : Nat) (b : Bool) : Pl n (.bl b)
  | int (n : Nat) (i : Int) : Pl n (.int i)
  | str (n : Nat) (x : Str) : Pl n (.str x)
  | tup {n : Nat} {ds : List D} (l : ds.length ≤ 2000) (h : ∀ x ∈ ds, Pl n x) : Pl (n + 1) (.tup ds)
  | lst {n : Nat} {ds : List D} (l : ds.length ≤ 2000) (h : ∀ x ∈ ds, Pl n x) : Pl (n + 1) (.lst ds)
theorem kitA {K : PySem.W.Frag} {t c1 c2 : Value} {a b : Bool} (h1 : PySem.W.kitOne K t c1 = some a) (h2 : PySem.W.kitOne K t c2 = some b) : PySem.W.kitAny K t [c1, c2] = some (a || b) := by
  unfold PySem.W.kitAny PySem.W.kitAny PySem.W.kitAny
  rw [h1, h2]
  cases a <;> cases b <;> rfl
theorem k2 {K : PySem.W.Frag} {a b : String} {r : Bool} (h : kitB a b = some r) : PySem.W.kitOne K (.type a) (.type b) = some r := kit_ty h
/-- the type's name of a plain datum: list, tuple, bool, int, str -/
inductive TyN : D → String → Prop
  | non : TyN .non "NoneType"
  | bl (b : Bool) : TyN (.bl b) "bool"
  | int (i : Int) : TyN (.int i) "int"
  | str (x : Str) : TyN (.str x) "str"
  | tup (ds : List D) : TyN (.tup ds) "tuple"
  | lst (ds : List D) : TyN (.lst ds) "list"
theorem TyN.ty {K : PySem.W.Frag} {d : D} {n : String} (h : TyN d n) : TyD K d (.type n) := by cases h <;> constructor
theorem at_of {ds : List D} {k : Nat} (h : k < ds.length) : atI ds (k : Int) = some ds[k] := atI_nat (List.getElem?_eq_getElem h)
local macro_rules | `(tactic| k_call_by "n" 0) => `(tactic| ((with_reducible refine' nm_ix rfl ?na ?nb ?nc ?nd); (case na => (repeat (first | with_reducible exact ix0 | with_reducible apply ixS))); (case nb => rfl); (case nc => rfl)))
local macro_rules | `(tactic| k_call_by "v" 0) => `(tactic| first
  | with_reducible refine w_cons ?_
  | with_reducible refine w_nil ?_
  | with_reducible refine w_ret ?_
  | with_reducible refine w_if ?_
  | with_reducible refine ea_cons ?_ (by with_unfolding_all rfl)
  | with_reducible refine ea_nil ?_
  | k_call_by "n" 0
  | with_reducible refine ev_int ?_ | with_reducible refine ev_bl ?_ | with_reducible refine ev_non ?_ | with_reducible refine ev_str ?_
  | with_reducible refine ev_add ?_
  | with_reducible refine ev_sub ?_
  | with_reducible refine ev_mul ?_
  | with_reducible refine ev_fdiv ?_
  | with_reducible refine ev_mod ?_
  | with_reducible refine ev_neg ?_
  | with_reducible refine ev_tup ?_
  | with_reducible refine et_lt ?_ | with_reducible refine et_le ?_ | with_reducible refine et_gt ?_ | with_reducible refine et_ge ?_
  | with_reducible refine ev_lt ?_ | with_reducible refine ev_le ?_ | with_reducible refine ev_gt ?_ | with_reducible refine ev_ge ?_
  | with_reducible refine et_ne ?_ | with_reducible refine et_eq ?_ | with_reducible refine ev_ne ?_ | with_reducible refine ev_eq ?_
  | with_reducible refine et_isN ?_ | with_reducible refine et_notN ?_
  | with_reducible refine et_not ?_
  | with_reducible refine et_and ?_ | with_reducible refine et_or ?_
  | with_reducible refine ew_and ?_ | with_reducible refine ew_or ?_
  | with_reducible refine ew_and1 ?_ | with_reducible refine ew_or1 ?_
  | with_reducible refine ev_and ?_ | with_reducible refine ev_or ?_ | with_reducible refine ev_one ?_ | with_reducible refine ev_not ?_
  | with_reducible refine ev_ifExp ?_
  | with_reducible refine et_call ?_
  | with_reducible refine ev_ixT ?_ (by with_unfolding_all exact fun _ _ => rfl)
  | with_reducible refine ⟨_, _, rfl, rfl, ?_⟩)
local macro_rules | `(tactic| k_call_by "w" 0) => `(tactic| repeat (first | k_call_by "v" 0 | refine ⟨Nat.le_of_ble_eq_true rfl, ?_⟩ | refine ⟨fun z => absurd z (by decide), fun _ => ?_⟩ | refine ⟨fun _ => ?_, fun z => absurd z (by decide)⟩ | refine ⟨_, rfl, ?_⟩ | refine ⟨_, _, _, rfl, rfl, rfl, ?_⟩ | refine ⟨_, _, rfl, ?_⟩ | refine ⟨_, _, _, rfl, ?_⟩ | refine ⟨_, _, _, _, rfl, ?_⟩))
local macro_rules | `(tactic| k_call_by "no" 0) => `(tactic| (intro z; first | (exact absurd z (by decide)) | (exact (nomatch z)) | (simp at z; done)))
local macro_rules | `(tactic| k_call_by "F" 0) => `(tactic| (refine ⟨?no, fun _ => ?_⟩; (case no => k_call_by "no" 0)))
local macro_rules | `(tactic| k_call_by "T" 0) => `(tactic| (refine ⟨fun _ => ?_, ?no⟩; (case no => k_call_by "no" 0)))
local macro_rules | `(tactic| k_call_by "s" 0) => `(tactic| (refine w_cons ?_; k_call_by "w" 0))
section
variable {P : Program} {w : World} {K : PySem.W.Frag} {mg : Str → Option Value} {base : Heap}
def sp_alike (n : Nat) : SpecD := fun ds R => ∃ d : D, ds = [d, d] ∧ Pl n d ∧ R (.bl true)
/-- the scalars' part -/
theorem alike_s {X : Cx} {k : Nat} {G H : Hp} {R : D → Prop} [hx : XOk X ⟨P, w, K, mg, base, 3, ["_law_told", "_law_due", "_law_k"], ["isinstance", "list", "tuple", "len", "range", "_law_alike", "bool", "int", "str"], k, none⟩] (T : Tc K mg) (v : V) (tn : String) (ht : TyN (.s v) tn)
    (h1 : kitB tn "list" = some false) (h2 : kitB tn "tuple" = some false) (bb bi bs : Bool) (h3 : kitB tn "bool" = some bb) (h4 : kitB tn "int" = some bi) (h5 : kitB tn "str" = some bs) (hc : v = .non ∨ (v ≠ .non ∧ scal v v = true ∧ (bi || bs) = true)) (hR : R (.bl true)) :
    BV X (ent G H [] []) [] (zipN ["_law_told", "_law_due", "_law_k"] [.s v, .s v]) (defBody s_l_alike) ⟨fun _ _ => R .non, fun _ d => R d, fun _ _ => False, fun _ _ => False⟩ := by
  refine w_cons (w_if (et_call (w_isi2 0 T.b_isinstance rfl ?_)))
  k_call_by "n" 0
  refine w_ty 1 T.b_list PyProof.Rows.boot_list nn_list rfl ?_
  refine w_ty 2 T.b_tuple PyProof.Rows.boot_tuple nn_tuple rfl ?_
  refine ⟨_, _, _, _, _, _, rfl, rfl, .ty "list", .ty "tuple", ht.ty, kitA (k2 h1) (k2 h2), _, rfl, fun z => absurd z (by decide), fun _ => w_nil ?_⟩
  have isn : (D.s v).isNon = decide (v = .non) := rfl
  refine w_cons (w_if (et_or (ew_or (et_isN ?_))))
  k_call_by "n" 0
  rw [isn]
  refine ⟨fun z => ?_, fun z => ?_⟩
  · have hn := of_decide_eq_false z
    have hc := hc.resolve_left hn
    refine ew_or1 (et_ne ?_)
    refine w_isi 0 T.b_isinstance rfl ?_
    k_call_by "n" 0
    refine w_ty 6 T.b_bool bt_bool nn_bool rfl ?_
    refine ⟨_, _, _, bb, rfl, .ty "bool", ht.ty, k2 h3, ?_⟩
    refine w_isi 0 T.b_isinstance rfl ?_
    k_call_by "n" 0
    refine w_ty 6 T.b_bool bt_bool nn_bool rfl ?_
    refine ⟨_, _, _, bb, rfl, .ty "bool", ht.ty, k2 h3, ?_⟩
    refine ⟨_, _, rfl, rfl, rfl, fun z => by simp at z, fun _ => w_nil ?_⟩
    refine w_cons (w_ret (ev_and (ev_eq ?_)))
    refine w_isi 0 T.b_isinstance rfl ?_
    k_call_by "n" 0
    refine w_ty 7 T.b_int PyProof.Rows.boot_int nn_int rfl ?_
    refine ⟨_, _, _, bi, rfl, .ty "int", ht.ty, k2 h4, ?_⟩
    refine w_isi 0 T.b_isinstance rfl ?_
    k_call_by "n" 0
    refine w_ty 7 T.b_int PyProof.Rows.boot_int nn_int rfl ?_
    refine ⟨_, _, _, bi, rfl, .ty "int", ht.ty, k2 h4, ?_⟩
    refine ⟨_, _, rfl, rfl, rfl, _, rfl, fun _ => ?_, fun z => by simp at z⟩
    refine ev_and (w_isi2 0 T.b_isinstance rfl ?_)
    k_call_by "n" 0
    refine w_ty 7 T.b_int PyProof.Rows.boot_int nn_int rfl ?_
    refine w_ty 8 T.b_str bt_str nn_str rfl ?_
    refine ⟨_, _, _, _, _, _, rfl, rfl, .ty "int", .ty "str", ht.ty, kitA (k2 h4) (k2 h5), _, rfl, fun _ => ?_, fun z => by rw [hc.2.2] at z; cases z⟩
    refine ev_one (ev_eq ?_)
    k_call_by "n" 0
    k_call_by "n" 0
    refine ⟨_, _, rfl, rfl, hc.2.1, ?_⟩
    rw [decide_eq_true rfl]
    exact hR
  · have hn : v = .non := of_decide_eq_true z
    subst hn
    refine ⟨fun _ => ?_, fun z => absurd z (by decide)⟩
    refine w_cons (w_ret (ev_and (ev_isN ?_)))
    k_call_by "n" 0
    refine ⟨_, rfl, fun _ => ?_, fun z => absurd z (by decide)⟩
    refine ev_one (ev_isN ?_)
    k_call_by "n" 0
    exact hR
/-- the part of tuples and lists -/
theorem alike_c {X : Cx} {k n : Nat} {G H : Hp} {R : D → Prop} [hx : XOk X ⟨P, w, K, mg, base, 3, ["_law_told", "_law_due", "_law_k"], ["isinstance", "list", "tuple", "len", "range", "_law_alike", "bool", "int", "str"], k, none⟩] (T : Tc K mg) (ih : Kn P w K mg base CX0 "_law_alike" k (spP K (sp_alike n)))
    (d : D) (ds : List D) (hd : d = .tup ds ∨ d = .lst ds) (hl : ds.length ≤ 2000) (hp : ∀ x ∈ ds, Pl n x) (hR : R (.bl true)) :
    BV X (ent G H [] []) [] (zipN ["_law_told", "_law_due", "_law_k"] [d, d]) (defBody s_l_alike) ⟨fun _ _ => R .non, fun _ d => R d, fun _ _ => False, fun _ _ => False⟩ := by
  have hty : ∃ (tn : String) (bl bt : Bool), TyD K d (.type tn) ∧ kitB tn "list" = some bl ∧ kitB tn "tuple" = some bt ∧ (bl || bt) = true := by
    rcases hd with rfl | rfl
    · exact ⟨"tuple", false, true, .tup _, by decide +kernel, by decide +kernel, rfl⟩
    · exact ⟨"list", true, false, .lst _, by decide +kernel, by decide +kernel, rfl⟩
  obtain ⟨tn, bl, bt, ht, hkl, hkt, hb⟩ := hty
  have hit : d.items = some ds := by rcases hd with rfl | rfl <;> rfl
  have ix : ∀ {E : Ent} {ω : List Cell} {δ : DE} {R : D → Prop} {a b : Expr} {pos : Pos}, (EV X E ω δ a fun x => EV X E ω δ b fun y => ∃ i e, x = d ∧ y = .int i ∧ atI ds i = some e ∧ R e) → PlainIx b → EV X E ω δ (.Subscript a b pos) R := fun h hp => by
    rcases hd with rfl | rfl
    · exact ev_ixT (h.imp fun x q => q.imp fun y ⟨i, e, e1, e2, e3, r⟩ => ⟨_, i, e, e1, e2, e3, r⟩) hp
    · exact ev_ixL (h.imp fun x q => q.imp fun y ⟨i, e, e1, e2, e3, r⟩ => ⟨_, i, e, e1, e2, e3, r⟩) hp
  refine w_cons (w_if (et_call (w_isi2 0 T.b_isinstance rfl ?_)))
  k_call_by "n" 0
  refine w_ty 1 T.b_list PyProof.Rows.boot_list nn_list rfl ?_
  refine w_ty 2 T.b_tuple PyProof.Rows.boot_tuple nn_tuple rfl ?_
  refine ⟨_, _, _, _, _, _, rfl, rfl, .ty "list", .ty "tuple", ht, kitA (k2 hkl) (k2 hkt), _, rfl, fun _ => ?_, fun z => by rw [hb] at z; cases z⟩
  refine w_cons (w_if (et_or (ew_or (et_not (et_call (w_isi2 0 T.b_isinstance rfl ?_))))))
  k_call_by "n" 0
  refine w_ty 1 T.b_list PyProof.Rows.boot_list nn_list rfl ?_
  refine w_ty 2 T.b_tuple PyProof.Rows.boot_tuple nn_tuple rfl ?_
  refine ⟨_, _, _, _, _, _, rfl, rfl, .ty "list", .ty "tuple", ht, kitA (k2 hkl) (k2 hkt), _, rfl, fun _ => ?_, fun z => by rw [hb] at z; cases z⟩
  refine ew_or1 (et_ne ?_)
  refine w_isi 0 T.b_isinstance rfl ?_
  k_call_by "n" 0
  refine w_ty 1 T.b_list PyProof.Rows.boot_list nn_list rfl ?_
  refine ⟨_, _, _, bl, rfl, .ty "list", ht, k2 hkl, ?_⟩
  refine w_isi 0 T.b_isinstance rfl ?_
  k_call_by "n" 0
  refine w_ty 1 T.b_list PyProof.Rows.boot_list nn_list rfl ?_
  refine ⟨_, _, _, bl, rfl, .ty "list", ht, k2 hkl, ?_⟩
  refine ⟨_, _, rfl, rfl, rfl, fun z => by simp at z, fun _ => w_nil ?_⟩
  refine w_cons (w_if (et_ne (w_len 3 T.b_len rfl ?_)))
  k_call_by "n" 0
  refine ⟨ds, hit, w_len 3 T.b_len rfl ?_⟩
  k_call_by "n" 0
  refine ⟨ds, hit, _, _, rfl, rfl, rfl, fun z => by simp at z, fun _ => w_nil ?_⟩
  refine w_cons (w_forN 2 rfl rfl rfl (iv_range1 4 T.b_range rfl (w_len 3 T.b_len rfl ?_)))
  k_call_by "n" 0
  refine ⟨ds, hit, _, rfl, fun i ω δ => ω = [] ∧ ∃ x, δ = [some d, some d, x], ⟨rfl, none, rfl⟩, fun i e ω δ hdi hP => ?_, fun ω δ hP => ?_⟩
  · obtain ⟨rfl, x, rfl⟩ := hP
    obtain ⟨hi, rfl⟩ := intsD_get hdi
    have hi : i < ds.length := by simpa using hi
    refine w_cons (w_if (et_not (et_call (w_call 5 ih (Nat.ble_eq.mpr (Nat.le_refl _)) rfl (ea_cons (ix ?_ (fun _ _ => rfl)))))))
    k_call_by "n" 0
    k_call_by "n" 0
    refine ⟨_, _, rfl, by rw [Int.zero_add], at_of hi, ea_cons (ix ?_ (fun _ _ => rfl))⟩
    k_call_by "n" 0
    k_call_by "n" 0
    refine ⟨_, _, rfl, by rw [Int.zero_add], at_of hi, ea_nil ⟨_, rfl, hp _ (List.getElem_mem hi), true, rfl, fun z => by simp at z, fun _ => ?_⟩⟩
    exact w_nil (w_nil ⟨rfl, _, rfl⟩)
  · exact w_cons (w_ret (ev_bl hR))
theorem kn_l_alike (T : Tc K mg) : ∀ n, Kn P w K mg base CX0 "_law_alike" (n + 1) (spP K (sp_alike n))
  | 0 => T.d_l_alike.kn (ps := ["_law_told", "_law_due"]) (fun _ _ _ _ _ _ us hl => match us, hl with | [_, _], _ => rfl) fun f fd F => def_ok F sc_l_alike (fun ds R h => by obtain ⟨_, rfl, _⟩ := h; rfl) fun X hx sc G H ds R h => by
    obtain ⟨d, rfl, hp, hR⟩ := h
    cases hp with
    | non => exact alike_s T .non "NoneType" .non (by decide +kernel) (by decide +kernel) false false false (by decide +kernel) (by decide +kernel) (by decide +kernel) (.inl rfl) hR
    | bl _ b => exact alike_s T (.bl b) "bool" (.bl b) (by decide +kernel) (by decide +kernel) true true false (by decide +kernel) (by decide +kernel) (by decide +kernel) (.inr ⟨(nomatch ·), rfl, rfl⟩) hR
    | int _ i => exact alike_s T (.int i) "int" (.int i) (by decide +kernel) (by decide +kernel) false true false (by decide +kernel) (by decide +kernel) (by decide +kernel) (.inr ⟨(nomatch ·), rfl, rfl⟩) hR
    | str _ x => exact alike_s T (.str x) "str" (.str x) (by decide +kernel) (by decide +kernel) false false true (by decide +kernel) (by decide +kernel) (by decide +kernel) (.inr ⟨(nomatch ·), rfl, rfl⟩) hR
  | n + 1 => T.d_l_alike.kn (ps := ["_law_told", "_law_due"]) (fun _ _ _ _ _ _ us hl => match us, hl with | [_, _], _ => rfl) fun f fd F => def_ok F sc_l_alike (fun ds R h => by obtain ⟨_, rfl, _⟩ := h; rfl) fun X hx sc G H ds R h => by
    obtain ⟨d, rfl, hp, hR⟩ := h
    cases hp with
    | non => exact alike_s T .non "NoneType" .non (by decide +kernel) (by decide +kernel) false false false (by decide +kernel) (by decide +kernel) (by decide +kernel) (.inl rfl) hR
    | bl _ b => exact alike_s T (.bl b) "bool" (.bl b) (by decide +kernel) (by decide +kernel) true true false (by decide +kernel) (by decide +kernel) (by decide +kernel) (.inr ⟨(nomatch ·), rfl, rfl⟩) hR
    | int _ i => exact alike_s T (.int i) "int" (.int i) (by decide +kernel) (by decide +kernel) false true false (by decide +kernel) (by decide +kernel) (by decide +kernel) (.inr ⟨(nomatch ·), rfl, rfl⟩) hR
    | str _ x => exact alike_s T (.str x) "str" (.str x) (by decide +kernel) (by decide +kernel) false false true (by decide +kernel) (by decide +kernel) (by decide +kernel) (.inr ⟨(nomatch ·), rfl, rfl⟩) hR
    | tup l hh => exact alike_c T (kn_l_alike T n) _ _ (.inl rfl) l hh hR
    | lst l hh => exact alike_c T (kn_l_alike T n) _ _ (.inr rfl) l hh hR
end
end Wh

set_option Elab.async false
set_option linter.all false
set_option maxRecDepth 100000
set_option maxHeartbeats 4000000
/-! The store. -/
namespace Wh
open PySem L2 PyProof.Rows DL
def StOk (ds : List D) : Prop := ∃ (xs : List Int) (i v2 n3 seed k5 v6 : Int), xs.length ≤ 100000 ∧ 0 ≤ i ∧ ds = [.lst (xs.map D.int), .int i, .int v2, .int n3, .int seed, .int k5, .int v6]
def stc (K : PySem.W.Frag) : List D → List Cell
  | .s (.ref p) :: _ => [Cell.inv K p StOk]
  | _ => []
theorem mod_lt (x : Int) {m : Int} (h : 0 < m) {k : Nat} (hm : m ≤ 2 ^ k) : (x % m).natAbs < 2 ^ k := by
  have h1 := Int.emod_nonneg x (show m ≠ 0 by omega)
  have h2 := Int.emod_lt_of_pos x h
  have h3 : ((2 ^ k : Nat) : Int) = (2 : Int) ^ k := by push_cast; rfl
  omega
local macro_rules | `(tactic| k_call_by "n" 0) => `(tactic| ((with_reducible refine' nm_ix rfl ?na ?nb ?nc ?nd); (case na => (repeat (first | with_reducible exact ix0 | with_reducible apply ixS))); (case nb => rfl); (case nc => rfl)))
local macro_rules | `(tactic| k_call_by "v" 0) => `(tactic| first
  | with_reducible refine w_cons ?_
  | with_reducible refine w_nil ?_
  | with_reducible refine w_ret ?_
  | with_reducible refine w_if ?_
  | with_reducible refine ea_cons ?_ (by with_unfolding_all rfl)
  | with_reducible refine ea_nil ?_
  | k_call_by "n" 0
  | with_reducible refine ev_int ?_ | with_reducible refine ev_bl ?_ | with_reducible refine ev_non ?_ | with_reducible refine ev_str ?_
  | with_reducible refine ev_add ?_
  | with_reducible refine ev_sub ?_
  | with_reducible refine ev_mul ?_
  | with_reducible refine ev_fdiv ?_
  | with_reducible refine ev_mod ?_
  | with_reducible refine ev_neg ?_
  | with_reducible refine ev_tup ?_
  | with_reducible refine et_lt ?_ | with_reducible refine et_le ?_ | with_reducible refine et_gt ?_ | with_reducible refine et_ge ?_
  | with_reducible refine ev_lt ?_ | with_reducible refine ev_le ?_ | with_reducible refine ev_gt ?_ | with_reducible refine ev_ge ?_
  | with_reducible refine et_ne ?_ | with_reducible refine et_eq ?_ | with_reducible refine ev_ne ?_ | with_reducible refine ev_eq ?_
  | with_reducible refine et_isN ?_ | with_reducible refine et_notN ?_
  | with_reducible refine et_not ?_
  | with_reducible refine et_and ?_ | with_reducible refine et_or ?_
  | with_reducible refine ew_and ?_ | with_reducible refine ew_or ?_
  | with_reducible refine ew_and1 ?_ | with_reducible refine ew_or1 ?_
  | with_reducible refine ev_and ?_ | with_reducible refine ev_or ?_ | with_reducible refine ev_one ?_ | with_reducible refine ev_not ?_
  | with_reducible refine ev_ifExp ?_
  | with_reducible refine et_call ?_
  | with_reducible refine ev_ixT ?_ (by with_unfolding_all exact fun _ _ => rfl)
  | with_reducible refine ⟨_, _, rfl, rfl, ?_⟩)
local macro_rules | `(tactic| k_call_by "w" 0) => `(tactic| repeat (first | k_call_by "v" 0 | refine ⟨Nat.le_of_ble_eq_true rfl, ?_⟩ | refine ⟨fun z => absurd z (by decide), fun _ => ?_⟩ | refine ⟨fun _ => ?_, fun z => absurd z (by decide)⟩ | refine ⟨_, rfl, ?_⟩ | refine ⟨_, _, _, rfl, rfl, rfl, ?_⟩ | refine ⟨_, _, rfl, ?_⟩ | refine ⟨_, _, _, rfl, ?_⟩ | refine ⟨_, _, _, _, rfl, ?_⟩))
local macro_rules | `(tactic| k_call_by "no" 0) => `(tactic| (intro z; first | (exact absurd z (by decide)) | (exact (nomatch z)) | (simp at z; done)))
local macro_rules | `(tactic| k_call_by "F" 0) => `(tactic| (refine ⟨?no, fun _ => ?_⟩; (case no => k_call_by "no" 0)))
local macro_rules | `(tactic| k_call_by "T" 0) => `(tactic| (refine ⟨fun _ => ?_, ?no⟩; (case no => k_call_by "no" 0)))
local macro_rules | `(tactic| k_call_by "s" 0) => `(tactic| (refine w_cons ?_; k_call_by "w" 0))
section
variable {P : Program} {w : World} {K : PySem.W.Frag} {mg : Str → Option Value} {base : Heap}
def sp_l_mixed : SpecD := fun ds R => ∃ n t : Int, ds = [.int n, .int t] ∧ ∀ r : Int, R (.int r)
theorem kn_l_mixed (T : Tc K mg) : Kn P w K mg base CX0 "_law_mixed" 1 (spP K sp_l_mixed) :=
  T.d_l_mixed.kn (ps := ["_law_number", "_law_turn"]) (fun _ _ _ _ _ _ us hl => match us, hl with | [_, _], _ => rfl) fun f fd F => def_ok F sc_l_mixed (fun ds R h => by obtain ⟨_, _, rfl, _⟩ := h; rfl) fun X hx sc G H ds R h => by
    obtain ⟨n, t, rfl, hR⟩ := h
    have sm : ∀ {i j : Int}, (-(2 ^ 64) < j ∧ j < 2 ^ 64) → MulOk i j := fun h => .inr (.inl h)
    refine w_cons (w_asg 2 rfl rfl rfl (ev_mod (ev_add (ev_add (ev_mul (ev_mod (w_int 0 T.b_int rfl ?_)))))))
    k_call_by "n" 0
    refine .inl ⟨_, rfl, ?_⟩
    k_call_by "w" 0
    refine ⟨by decide, ?_⟩
    k_call_by "w" 0
    refine ⟨sm (by decide), ?_⟩
    k_call_by "w" 0
    refine ⟨sm (by decide), ?_⟩
    k_call_by "w" 0
    refine ⟨by decide, ?_⟩
    generalize hv : (_ : Int) % 2147483647 = v
    have bv : v.natAbs < 2 ^ 31 := by rw [← hv]; exact mod_lt _ (by decide) (by decide)
    refine w_cons (w_asg 2 rfl rfl rfl ?_)
    k_call_by "w" 0
    refine ⟨mulOk bv bv, ?_⟩
    k_call_by "w" 0
    refine ⟨sm (by decide), ?_⟩
    k_call_by "w" 0
    refine ⟨sm (by decide), ?_⟩
    k_call_by "w" 0
    refine ⟨by decide, ?_⟩
    refine w_cons (w_asg 2 rfl rfl rfl ?_)
    k_call_by "w" 0
    refine ⟨sm (by decide), ?_⟩
    k_call_by "w" 0
    refine ⟨by decide, ?_⟩
    k_call_by "w" 0
    refine ⟨by decide, ?_⟩
    generalize hu : (_ : Int) % 2147483647 = u
    have bu : u.natAbs < 2 ^ 31 := by rw [← hu]; exact mod_lt _ (by decide) (by decide)
    refine w_cons (w_asg 2 rfl rfl rfl ?_)
    k_call_by "w" 0
    refine ⟨mulOk bu bu, ?_⟩
    k_call_by "w" 0
    refine ⟨by decide, ?_⟩
    k_call_by "w" 0
    refine ⟨by decide, ?_⟩
    exact hR _
def sp_l_store : SpecO := fun ds R => ∃ xs : List Int, ds = [.lst (xs.map D.int)] ∧ xs.length ≤ 100000 ∧ ∀ es, StOk es → R es
theorem kn_l_store (T : Tc K mg) : Kn P w K mg base CX0 "_law_store" 1 (spO K sp_l_store) :=
  T.d_l_store.kn (ps := ["_law_script"]) (fun _ _ _ _ _ _ us hl => match us, hl with | [_], _ => rfl) fun f fd F => def_okO F sc_l_store (fun ds R h => by obtain ⟨_, rfl, _⟩ := h; rfl) fun X hx sc G H ds R h => by
    obtain ⟨xs, rfl, hl, hR⟩ := h
    refine w_cons (w_asg 1 rfl rfl rfl (ev_add (w_len 0 T.b_len rfl ?_)))
    k_call_by "w" 0
    refine w_forN 2 rfl rfl rfl (iv_list ?_)
    k_call_by "n" 0
    refine ⟨_, rfl, fun i ω δ => ω = [] ∧ ∃ (s : Int) (x : Option D), δ = [some (.lst (xs.map D.int)), some (.int s), x], ⟨rfl, _, none, rfl⟩, fun i d ω δ hd hP => ?_, fun ω δ hP => ?_⟩
    · obtain ⟨rfl, s, x, rfl⟩ := hP
      rw [List.getElem?_map] at hd
      obtain ⟨y, _, rfl⟩ := Option.map_eq_some_iff.mp hd
      refine w_cons (w_asg 1 rfl rfl rfl ?_)
      k_call_by "w" 0
      refine ⟨.inr (.inl (by decide)), ?_⟩
      refine ev_mod (w_int 1 T.b_int rfl ?_)
      k_call_by "n" 0
      refine .inl ⟨_, rfl, ?_⟩
      k_call_by "w" 0
      refine ⟨by decide, ?_⟩
      k_call_by "w" 0
      refine ⟨by decide, ?_⟩
      exact w_nil ⟨rfl, _, _, rfl⟩
    · obtain ⟨rfl, s, x, rfl⟩ := hP
      refine w_cons (w_retL (ea_cons (w_list 2 T.b_list rfl ?_)))
      k_call_by "n" 0
      refine ⟨_, rfl, ?_⟩
      k_call_by "w" 0
      refine fun p hp => ⟨p, _, rfl, by rw [hx.K]; exact List.Sublist.refl _, hR _ ⟨xs, 0, 0, 0, s, 0, 0, hl, Int.le_refl _, rfl⟩⟩
end
end Wh

set_option Elab.async false
set_option linter.all false
set_option maxRecDepth 100000
set_option maxHeartbeats 4000000
namespace Wh
open PySem L2 PyProof.Rows DL
local macro_rules | `(tactic| k_call_by "n" 0) => `(tactic| ((with_reducible refine' nm_ix rfl ?na ?nb ?nc ?nd); (case na => (repeat (first | with_reducible exact ix0 | with_reducible apply ixS))); (case nb => rfl); (case nc => rfl)))
local macro_rules | `(tactic| k_call_by "v" 0) => `(tactic| first
  | with_reducible refine w_cons ?_
  | with_reducible refine w_nil ?_
  | with_reducible refine w_ret ?_
  | with_reducible refine w_if ?_
  | with_reducible refine ea_cons ?_ (by with_unfolding_all rfl)
  | with_reducible refine ea_nil ?_
  | k_call_by "n" 0
  | with_reducible refine ev_int ?_ | with_reducible refine ev_bl ?_ | with_reducible refine ev_non ?_ | with_reducible refine ev_str ?_
  | with_reducible refine ev_add ?_
  | with_reducible refine ev_sub ?_
  | with_reducible refine ev_mul ?_
  | with_reducible refine ev_fdiv ?_
  | with_reducible refine ev_mod ?_
  | with_reducible refine ev_neg ?_
  | with_reducible refine ev_tup ?_
  | with_reducible refine et_lt ?_ | with_reducible refine et_le ?_ | with_reducible refine et_gt ?_ | with_reducible refine et_ge ?_
  | with_reducible refine ev_lt ?_ | with_reducible refine ev_le ?_ | with_reducible refine ev_gt ?_ | with_reducible refine ev_ge ?_
  | with_reducible refine et_ne ?_ | with_reducible refine et_eq ?_ | with_reducible refine ev_ne ?_ | with_reducible refine ev_eq ?_
  | with_reducible refine et_isN ?_ | with_reducible refine et_notN ?_
  | with_reducible refine et_not ?_
  | with_reducible refine et_and ?_ | with_reducible refine et_or ?_
  | with_reducible refine ew_and ?_ | with_reducible refine ew_or ?_
  | with_reducible refine ew_and1 ?_ | with_reducible refine ew_or1 ?_
  | with_reducible refine ev_and ?_ | with_reducible refine ev_or ?_ | with_reducible refine ev_one ?_ | with_reducible refine ev_not ?_
  | with_reducible refine ev_ifExp ?_
  | with_reducible refine et_call ?_
  | with_reducible refine ev_ixT ?_ (by with_unfolding_all exact fun _ _ => rfl)
  | with_reducible refine ⟨_, _, rfl, rfl, ?_⟩)
local macro_rules | `(tactic| k_call_by "w" 0) => `(tactic| repeat (first | k_call_by "v" 0 | refine ⟨Nat.le_of_ble_eq_true rfl, ?_⟩ | refine ⟨fun z => absurd z (by decide), fun _ => ?_⟩ | refine ⟨fun _ => ?_, fun z => absurd z (by decide)⟩ | refine ⟨_, rfl, ?_⟩ | refine ⟨_, _, _, rfl, rfl, rfl, ?_⟩ | refine ⟨_, _, rfl, ?_⟩ | refine ⟨_, _, _, rfl, ?_⟩ | refine ⟨_, _, _, _, rfl, ?_⟩))
local macro_rules | `(tactic| k_call_by "no" 0) => `(tactic| (intro z; first | (exact absurd z (by decide)) | (exact (nomatch z)) | (simp at z; done)))
local macro_rules | `(tactic| k_call_by "F" 0) => `(tactic| (refine ⟨?no, fun _ => ?_⟩; (case no => k_call_by "no" 0)))
local macro_rules | `(tactic| k_call_by "T" 0) => `(tactic| (refine ⟨fun _ => ?_, ?no⟩; (case no => k_call_by "no" 0)))
local macro_rules | `(tactic| k_call_by "s" 0) => `(tactic| (refine w_cons ?_; k_call_by "w" 0))
section
variable {P : Program} {w : World} {K : PySem.W.Frag} {mg : Str → Option Value} {base : Heap}
def sp_l_take : SpecD := fun ds R => ∃ (p : Addr) (m : Int), ds = [.s (.ref p), .int m] ∧ m.natAbs < 2 ^ 8999 ∧ ∀ r : Int, 0 ≤ r → r < m ∨ r = 0 → R (.int r)
theorem kn_l_take (T : Tc K mg) : Kn P w K mg base CX0 "_law_take" 2 (spG K [] (stc K) sp_l_take) :=
  T.d_l_take.kn (ps := ["_law_store_here", "_law_many_here"]) (fun _ _ _ _ _ _ us hl => match us, hl with | [_, _], _ => rfl) fun f fd F => def_okW F sc_l_take (fun ds R h => by obtain ⟨_, _, rfl, _⟩ := h; rfl) fun X hx sc G H ds R h => by
    obtain ⟨p, m, rfl, hm, hR⟩ := h
    have hK : X.K = K := hx.K
    have ec : stc K [.s (.ref p), .int m] = [Cell.inv X.K p StOk] := by rw [hK]; rfl
    have fin : ∀ {ds : List D}, StOk ds → ∀ {E : Ent} {δ : DE} {e : Expr} {ps : Pos} {rest : List Stmt} {nx : List Cell → DE → Prop} {bk ct : List Cell → DE → Prop}, (∀ ω, EV X E ω δ e fun d => R d) →
        BV X E [Cell.own X.K p ds] δ (.Return (some e) ps :: rest) ⟨nx, fun ω d => (stc K [.s (.ref p), .int m]).Sublist ω ∧ R d, bk, ct⟩ := by
      intro ds hS E δ e ps rest nx bk ct he
      exact bv_close (ω1 := []) rfl hS (w_cons (w_ret ((he _).imp fun d q => ⟨by rw [ec]; exact List.Sublist.refl _, q⟩)))
    k_call_by "s" 0
    refine ⟨fun hc => ?_, fun hc => ?_⟩
    · k_call_by "w" 0
      exact ⟨List.Sublist.refl _, hR 0 (Int.le_refl _) (.inr rfl)⟩
    have h2 : 2 ≤ m := by have := of_decide_eq_false hc; omega
    refine w_nil ?_
    refine bv_open (ω1 := []) (ω2 := []) (p := p) (S := StOk) (by rw [ec]; rfl) fun ds hS => ?_
    obtain ⟨xs, i, v2, n3, seed, k5, v6, hxs, hi, rfl⟩ := hS
    refine w_cons (w_setix (ω1 := []) (ω2 := []) rfl (ev_peek List.mem_cons_self (seen_name (i := 0) rfl) fun E' => ev_add (ev_ixL ?_)))
    k_call_by "w" 0
    refine ⟨rfl, ?_⟩
    k_call_by "v" 0
    refine ⟨3, 3, rfl, rfl, ?_⟩
    refine cutM (fun ω δ => ∃ (i v2 n3 k5 v6 : Int) (x : Option D), 0 ≤ i ∧ ω = [Cell.own X.K p [.lst (xs.map D.int), .int i, .int v2, .int n3, .int seed, .int k5, .int v6]] ∧ δ = [some (.s (.ref p)), some (.int m), x, none, none, none, none]) ?_ ?_
    · refine w_if (et_peek List.mem_cons_self (seen_name (i := 0) rfl) fun E' => et_and (ew_and (et_lt (ev_ixL ?_))))
      k_call_by "w" 0
      refine ⟨fun _ => ?_, fun z => ⟨fun z2 => (nomatch z2), fun _ => w_nil ⟨i, v2, _, k5, v6, none, hi, rfl, rfl⟩⟩⟩
      refine ew_and (et_lt (ev_ixL ?_))
      k_call_by "w" 0
      refine ⟨fun _ => ?_, fun z => ⟨fun z2 => (nomatch z2), fun _ => w_nil ⟨i, v2, _, k5, v6, none, hi, rfl, rfl⟩⟩⟩
      refine ew_and1 (et_lt (ev_ixL ?_))
      k_call_by "w" 0
      refine w_len 0 T.b_len rfl (ev_ixL ?_)
      k_call_by "w" 0
      refine ⟨fun hi2 => ?_, fun _ => w_nil ⟨i, v2, _, k5, v6, none, hi, rfl, rfl⟩⟩
      have hi2 : i < (xs.map D.int).length := of_decide_eq_true hi2
      have hxi : (xs.map D.int)[i.toNat]? = some (.int (xs[i.toNat]'(by rw [List.length_map] at hi2; omega))) := by
        rw [List.getElem?_map, List.getElem?_eq_getElem (by rw [List.length_map] at hi2; omega)]
        rfl
      have hat := atI_nat hxi
      rw [Int.toNat_of_nonneg hi] at hat
      generalize (xs[i.toNat]'(by rw [List.length_map] at hi2; omega)) = cell at hat
      refine w_cons (w_asg 2 rfl rfl rfl (ev_peek List.mem_cons_self (seen_name (i := 0) rfl) fun E' => w_int 1 T.b_int rfl (ev_ixL (ev_ixL ?_))))
      k_call_by "n" 0
      k_call_by "v" 0
      refine ⟨_, _, _, rfl, rfl, rfl, ev_ixL ?_⟩
      k_call_by "n" 0
      k_call_by "v" 0
      refine ⟨_, _, _, rfl, rfl, rfl, _, _, _, rfl, rfl, hat, .inl ⟨_, rfl, _, rfl, ?_⟩⟩
      refine w_cons (w_setix (ω1 := []) (ω2 := []) rfl (ev_peek List.mem_cons_self (seen_name (i := 0) rfl) fun E' => ev_add (ev_ixL ?_)))
      k_call_by "w" 0
      refine ⟨rfl, ?_⟩
      k_call_by "v" 0
      refine ⟨1, 1, rfl, rfl, ?_⟩
      refine w_cons (w_if (et_lt (w_abs 2 T.b_abs rfl ?_)))
      k_call_by "n" 0
      refine ⟨_, rfl, ev_pow ?_⟩
      k_call_by "w" 0
      refine ⟨⟨by decide, by decide, by decide⟩, ?_⟩
      k_call_by "w" 0
      refine ⟨fun _ => ?_, fun _ => ?_⟩
      · refine w_cons (w_setix (ω1 := []) (ω2 := []) rfl (ev_int ?_))
        k_call_by "n" 0
        refine ⟨rfl, ?_⟩
        k_call_by "v" 0
        refine ⟨5, 5, rfl, rfl, ?_⟩
        refine w_cons (w_setix (ω1 := []) (ω2 := []) rfl ?_)
        k_call_by "n" 0
        k_call_by "n" 0
        refine ⟨rfl, ?_⟩
        k_call_by "v" 0
        exact ⟨6, 6, rfl, rfl, w_nil (w_nil ⟨i + 1, v2, n3 + 1, 2, cell, _, by omega, rfl, rfl⟩)⟩
      · refine w_cons (w_setix (ω1 := []) (ω2 := []) rfl (w_abs 2 T.b_abs rfl ?_))
        k_call_by "n" 0
        refine ⟨_, rfl, ?_⟩
        k_call_by "n" 0
        refine ⟨rfl, ?_⟩
        k_call_by "v" 0
        exact ⟨2, 2, rfl, rfl, w_nil (w_nil ⟨i + 1, _, n3 + 1, k5, v6, _, by omega, rfl, rfl⟩)⟩
    · rintro ω δ ⟨i, v2, n3, k5, v6, x, hi, rfl, rfl⟩
      refine w_cons (w_if (et_peek List.mem_cons_self (seen_name (i := 0) rfl) fun E' => et_gt (ev_ixL ?_)))
      k_call_by "w" 0
      refine ⟨fun _ => ?_, fun _ => w_nil ?_⟩
      · refine w_cons (w_asg 3 rfl rfl rfl (ev_peek List.mem_cons_self (seen_name (i := 0) rfl) fun E' => ev_mod (w_int 1 T.b_int rfl (ev_ixL ?_))))
        k_call_by "w" 0
        refine .inl ⟨_, rfl, ?_⟩
        k_call_by "w" 0
        refine ⟨by omega, _, rfl, ?_⟩
        refine w_cons (w_setix (ω1 := []) (ω2 := []) rfl (ev_peek List.mem_cons_self (seen_name (i := 0) rfl) fun E' => ev_fdiv (ev_ixL ?_)))
        k_call_by "w" 0
        refine ⟨⟨by omega, hm⟩, _, rfl, ?_⟩
        k_call_by "n" 0
        refine ⟨rfl, ?_⟩
        k_call_by "v" 0
        refine ⟨2, 2, rfl, rfl, ?_⟩
        refine fin ⟨xs, i, _, n3, seed, k5, v6, hxs, hi, rfl⟩ fun ω => ?_
        k_call_by "n" 0
        exact hR _ (Int.emod_nonneg _ (by omega)) (.inl (Int.emod_lt_of_pos _ (by omega)))
      · refine w_cons (w_asg 4 rfl rfl rfl (ev_peek List.mem_cons_self (seen_name (i := 0) rfl) fun E' => ev_ixL ?_))
        k_call_by "v" 0
        k_call_by "v" 0
        refine ⟨_, _, _, rfl, rfl, rfl, _, rfl, ?_⟩
        refine cutM (fun ω δ => ∃ (n k5 : Int), ω = [Cell.own X.K p [.lst (xs.map D.int), .int i, .int v2, .int n3, .int seed, .int k5, .int v6]] ∧ δ = [some (.s (.ref p)), some (.int m), x, none, some (.int n), none, none]) ?_ ?_
        · refine w_if (et_peek List.mem_cons_self (seen_name (i := 0) rfl) fun E' => et_gt (ev_ixL ?_))
          k_call_by "w" 0
          refine ⟨fun _ => ?_, fun _ => w_nil ⟨_, k5, rfl, rfl⟩⟩
          refine w_cons (w_setix (ω1 := []) (ω2 := []) rfl (ev_peek List.mem_cons_self (seen_name (i := 0) rfl) fun E' => ev_sub (ev_ixL ?_)))
          k_call_by "w" 0
          refine ⟨rfl, ?_⟩
          k_call_by "v" 0
          refine ⟨5, 5, rfl, rfl, ?_⟩
          refine w_cons (w_asg 4 rfl rfl rfl (ev_peek List.mem_cons_self (seen_name (i := 0) rfl) fun E' => ev_ixL ?_))
          k_call_by "w" 0
          exact ⟨_, _, rfl, rfl⟩
        · rintro ω δ ⟨n, k5, rfl, rfl⟩
          refine w_cons (w_asg 5 rfl rfl rfl ?_)
          k_call_by "w" 0
          refine w_forN 6 rfl rfl rfl (iv_range1 3 T.b_range rfl (ev_add (ev_int (ev_fdiv (ev_bits ?_)))))
          k_call_by "w" 0
          refine ⟨by decide, _, _, rfl, rfl, _, rfl, ?_⟩
          refine ⟨fun j ω δ => ω = [Cell.own X.K p [.lst (xs.map D.int), .int i, .int v2, .int n3, .int seed, .int k5, .int v6]] ∧ ∃ (v : Int) (y : Option D), δ = [some (.s (.ref p)), some (.int m), x, none, some (.int n), some (.int v), y], ⟨rfl, _, none, rfl⟩, fun j d ω δ hd hP => ?_, fun ω δ hP => ?_⟩
          · obtain ⟨rfl, v, y, rfl⟩ := hP
            obtain ⟨_, rfl⟩ := intsD_get hd
            refine w_cons (w_asg 5 rfl rfl rfl (ev_peek List.mem_cons_self (seen_name (i := 0) rfl) fun E' => ev_add (ev_mul ?_)))
            k_call_by "w" 0
            refine ⟨.inr (.inl (by decide)), ?_⟩
            refine w_call 4 (kn_l_mixed T) rfl rfl ?_
            k_call_by "v" 0
            k_call_by "n" 0
            k_call_by "v" 0
            refine ev_add (ev_mul (ev_ixL ?_))
            k_call_by "w" 0
            refine ⟨.inr (.inl (by decide)), ?_⟩
            k_call_by "w" 0
            exact fun r => ⟨_, _, rfl, rfl, _, rfl, w_nil ⟨rfl, _, _, rfl⟩⟩
          · obtain ⟨rfl, v, y, rfl⟩ := hP
            refine fin ⟨xs, i, v2, n3, seed, k5, v6, hxs, hi, rfl⟩ fun ω => ?_
            k_call_by "w" 0
            exact ⟨by omega, hR _ (Int.emod_nonneg _ (by omega)) (.inl (Int.emod_lt_of_pos _ (by omega)))⟩
end
end Wh

set_option Elab.async false
set_option linter.all false
set_option maxRecDepth 100000
set_option maxHeartbeats 4000000
/-! Draws: what they may give. -/
namespace Wh
open PySem L2 PyProof.Rows DL
theorem at_any {ds : List D} {n : Int} (h0 : 0 ≤ n) (h1 : n < ds.length) : ∃ d, d ∈ ds ∧ atI ds n = some d := by
  have h : n.toNat < ds.length := by omega
  refine ⟨ds[n.toNat], List.getElem_mem h, ?_⟩
  have := atI_nat (List.getElem?_eq_getElem h)
  rwa [Int.toNat_of_nonneg h0] at this
section
variable {X : Cx} {C : CtxI} [hx : XOk X C] {E : Ent} {ω : List Cell} {δ : DE} {R : D → Prop} {a b : Expr} {pos q : Pos}
theorem w_take (j : Nat) (T : Tc C.K C.mg) (hk : Nat.ble 2 C.k = true) (hj : C.Gs[j]? = some "_law_take") {p : Addr} (hp : [Cell.inv C.K p StOk].Sublist ω) (h : EV X E ω δ a fun d => d = .s (.ref p) ∧ EV X E ω δ b fun d2 => ∃ m : Int, d2 = .int m ∧ m.natAbs < 2 ^ 8999 ∧ ∀ r : Int, 0 ≤ r → r < m ∨ r = 0 → R (.int r))
    (he : starEach [a, b] X.env = (false, eval a X.env) :: starEach [b] X.env := by rfl) (he2 : starEach [b] X.env = (false, eval b X.env) :: starEach [] X.env := by rfl) (hpl : (backTo pos (starEach [b] X.env)).any (·.1) = false := by rfl) : EV X E ω δ (.Call (.Name "_law_take" q) [a, b] [] pos) R :=
  w_callW j (kn_l_take T) hk hj (ea_cons (h.imp fun d q => ea_cons (q.2.imp fun d2 q2 => ea_nil (by
    obtain ⟨m, rfl, hm, hr⟩ := q2
    obtain ⟨rfl, _⟩ := q
    exact ⟨hp, .inl rfl, p, m, rfl, hm, hr⟩)) he2) he) he hpl
end
local macro_rules | `(tactic| k_call_by "n" 0) => `(tactic| ((with_reducible refine' nm_ix rfl ?na ?nb ?nc ?nd); (case na => (repeat (first | with_reducible exact ix0 | with_reducible apply ixS))); (case nb => rfl); (case nc => rfl)))
local macro_rules | `(tactic| k_call_by "v" 0) => `(tactic| first
  | with_reducible refine w_cons ?_
  | with_reducible refine w_nil ?_
  | with_reducible refine w_ret ?_
  | with_reducible refine w_if ?_
  | with_reducible refine ea_cons ?_ (by with_unfolding_all rfl)
  | with_reducible refine ea_nil ?_
  | k_call_by "n" 0
  | with_reducible refine ev_int ?_ | with_reducible refine ev_bl ?_ | with_reducible refine ev_non ?_ | with_reducible refine ev_str ?_
  | with_reducible refine ev_add ?_
  | with_reducible refine ev_sub ?_
  | with_reducible refine ev_mul ?_
  | with_reducible refine ev_fdiv ?_
  | with_reducible refine ev_mod ?_
  | with_reducible refine ev_neg ?_
  | with_reducible refine ev_tup ?_
  | with_reducible refine et_lt ?_ | with_reducible refine et_le ?_ | with_reducible refine et_gt ?_ | with_reducible refine et_ge ?_
  | with_reducible refine ev_lt ?_ | with_reducible refine ev_le ?_ | with_reducible refine ev_gt ?_ | with_reducible refine ev_ge ?_
  | with_reducible refine et_ne ?_ | with_reducible refine et_eq ?_ | with_reducible refine ev_ne ?_ | with_reducible refine ev_eq ?_
  | with_reducible refine et_isN ?_ | with_reducible refine et_notN ?_
  | with_reducible refine et_not ?_
  | with_reducible refine et_and ?_ | with_reducible refine et_or ?_
  | with_reducible refine ew_and ?_ | with_reducible refine ew_or ?_
  | with_reducible refine ew_and1 ?_ | with_reducible refine ew_or1 ?_
  | with_reducible refine ev_and ?_ | with_reducible refine ev_or ?_ | with_reducible refine ev_one ?_ | with_reducible refine ev_not ?_
  | with_reducible refine ev_ifExp ?_
  | with_reducible refine et_call ?_
  | with_reducible refine ev_ixT ?_ (by with_unfolding_all exact fun _ _ => rfl)
  | with_reducible refine ⟨_, _, rfl, rfl, ?_⟩)
local macro_rules | `(tactic| k_call_by "w" 0) => `(tactic| repeat (first | k_call_by "v" 0 | refine ⟨Nat.le_of_ble_eq_true rfl, ?_⟩ | refine ⟨fun z => absurd z (by decide), fun _ => ?_⟩ | refine ⟨fun _ => ?_, fun z => absurd z (by decide)⟩ | refine ⟨_, rfl, ?_⟩ | refine ⟨_, _, _, rfl, rfl, rfl, ?_⟩ | refine ⟨_, _, rfl, ?_⟩ | refine ⟨_, _, _, rfl, ?_⟩ | refine ⟨_, _, _, _, rfl, ?_⟩))
local macro_rules | `(tactic| k_call_by "no" 0) => `(tactic| (intro z; first | (exact absurd z (by decide)) | (exact (nomatch z)) | (simp at z; done)))
local macro_rules | `(tactic| k_call_by "F" 0) => `(tactic| (refine ⟨?no, fun _ => ?_⟩; (case no => k_call_by "no" 0)))
local macro_rules | `(tactic| k_call_by "T" 0) => `(tactic| (refine ⟨fun _ => ?_, ?no⟩; (case no => k_call_by "no" 0)))
local macro_rules | `(tactic| k_call_by "s" 0) => `(tactic| (refine w_cons ?_; k_call_by "w" 0))
section
variable {P : Program} {w : World} {K : PySem.W.Frag} {mg : Str → Option Value} {base : Heap}
def sp_l_pick : SpecD := fun ds R => ∃ (p : Addr) (xs : List D), ds = [.s (.ref p), .lst xs] ∧ 2 ≤ xs.length ∧ xs.length ≤ 1000 ∧ ∀ x ∈ xs, R x
theorem kn_l_pick (T : Tc K mg) : Kn P w K mg base CX0 "_law_pick" 3 (spG K [] (stc K) sp_l_pick) :=
  T.d_l_pick.kn (ps := ["_law_store_here", "_law_row"]) (fun _ _ _ _ _ _ us hl => match us, hl with | [_, _], _ => rfl) fun f fd F => def_okW F sc_l_pick (fun ds R h => by obtain ⟨_, _, rfl, _⟩ := h; rfl) fun X hx sc G H ds R h => by
    obtain ⟨p, xs, rfl, h2, hl, hR⟩ := h
    refine w_cons (w_ret (ev_ixL ?_))
    k_call_by "n" 0
    refine w_take 0 T rfl rfl (List.Sublist.refl _) ?_
    k_call_by "n" 0
    refine ⟨rfl, w_len 1 T.b_len rfl ?_⟩
    k_call_by "n" 0
    refine ⟨_, rfl, _, rfl, ?_, fun r h0 h1 => ?_⟩
    · have : (2 : Nat) ^ 10 ≤ 2 ^ 8999 := Nat.pow_le_pow_right (by omega) (by omega)
      omega
    · obtain ⟨d, hd, e⟩ := at_any (ds := xs) h0 (by omega)
      exact ⟨_, _, d, rfl, rfl, e, List.Sublist.refl _, hR d hd⟩
def sp_l_whole : SpecD := fun ds R => ∃ (p : Addr) (m : Int), ds = [.s (.ref p), .int m] ∧ 1 ≤ m ∧ m.natAbs < 2 ^ 8000 ∧ ∀ n : Int, -m ≤ n → n ≤ m → R (.int n)
theorem kn_l_whole (T : Tc K mg) : Kn P w K mg base CX0 "_law_whole" 3 (spG K [] (stc K) sp_l_whole) :=
  T.d_l_whole.kn (ps := ["_law_store_here", "_law_reach"]) (fun _ _ _ _ _ _ us hl => match us, hl with | [_, _], _ => rfl) fun f fd F => def_okW F sc_l_whole (fun ds R h => by obtain ⟨_, _, rfl, _⟩ := h; rfl) fun X hx sc G H ds R h => by
    obtain ⟨p, m, rfl, h1, hm, hR⟩ := h
    have hb : (2 * m + 1).natAbs < 2 ^ 8999 := by
      have e : (2 : Nat) ^ 8002 = 2 ^ 8001 + 2 ^ 8001 := by rw [← Nat.two_mul, ← Nat.pow_succ']
      have e2 : (2 : Nat) ^ 8001 = 2 ^ 8000 + 2 ^ 8000 := by rw [← Nat.two_mul, ← Nat.pow_succ']
      have e3 : (2 : Nat) ^ 8002 ≤ 2 ^ 8999 := Nat.pow_le_pow_right (by omega) (by omega)
      omega
    refine w_cons (w_asg 2 rfl rfl rfl (w_take 0 T rfl rfl (List.Sublist.refl _) ?_))
    k_call_by "n" 0
    refine ⟨rfl, ev_int ⟨12, rfl, Nat.lt_of_lt_of_le (by decide : 12 < 2 ^ 4) (Nat.pow_le_pow_right (by omega) (by omega)), fun r r0 r1 => ?_⟩⟩
    k_call_by "s" 0
    refine ⟨fun hc => ?_, fun hc => ?_⟩
    · have hc : r < 5 := of_decide_eq_true hc
      refine w_cons (w_ret (ev_ixL (ev_lst ?_)))
      k_call_by "v" 0
      k_call_by "v" 0
      k_call_by "v" 0
      refine w_min 1 T.b_min rfl ?_
      k_call_by "w" 0
      refine w_min 1 T.b_min rfl ?_
      k_call_by "w" 0
      obtain ⟨d, hd, e⟩ := at_any (ds := [.int 0, .int (min 1 m), .int (-(min 1 m)), .int m, .int (-m)]) r0 (by simp; omega)
      refine ⟨_, _, d, rfl, rfl, e, List.Sublist.refl _, ?_⟩
      simp only [List.mem_cons, List.not_mem_nil, or_false] at hd
      rcases hd with rfl | rfl | rfl | rfl | rfl <;> exact hR _ (by omega) (by omega)
    · refine w_nil (w_cons (w_ret (ev_sub (w_take 0 T rfl rfl (List.Sublist.refl _) ?_))))
      k_call_by "n" 0
      refine ⟨rfl, ?_⟩
      k_call_by "w" 0
      refine ⟨.inr (.inr (by decide)), ?_⟩
      k_call_by "w" 0
      refine ⟨hb, fun r r0 r1 => ?_⟩
      k_call_by "w" 0
      exact ⟨List.Sublist.refl _, hR _ (by omega) (by omega)⟩
end
end Wh

set_option Elab.async false
set_option linter.all false
set_option maxRecDepth 100000
set_option maxHeartbeats 4000000
namespace Wh
open PySem L2 PyProof.Rows DL
theorem lit (n d : Int) (hd : 0 < d) (h : Int.gcd n d = 1) : (.tup [.int n, .int d] : D) = Fq (Rat.divInt n d) := by
  have e : ((d.toNat : Nat) : Int) = d := Int.toNat_of_nonneg (by omega)
  obtain ⟨e1, e2⟩ := Q.ofcop n d.toNat (by omega) (by rw [e]; exact h)
  rw [e] at e1 e2
  unfold Fq
  rw [e1, e2, e]
theorem dv_lt {n d : Int} (hd : 0 < d) (k : Rat) : Rat.divInt n d < k ↔ (n : Rat) < k * (d : Rat) := by
  rw [Rat.divInt_eq_div]
  exact Rat.div_lt_iff (by exact_mod_cast hd)
theorem dv_gt {n d : Int} (hd : 0 < d) (k : Rat) : k < Rat.divInt n d ↔ k * (d : Rat) < (n : Rat) := by
  rw [Rat.divInt_eq_div]
  exact Rat.lt_div_iff (by exact_mod_cast hd)
theorem dv_pos {n d : Int} (hd : 0 < d) (hn : 0 < n) : 0 < Rat.divInt n d := by
  rw [dv_gt hd, Rat.zero_mul]
  exact_mod_cast hn
theorem dv_nn {n d : Int} (hd : 0 < d) (hn : 0 ≤ n) : 0 ≤ Rat.divInt n d := Rat.divInt_nonneg hn (Int.le_of_lt hd)
theorem dv_lt1 {n d : Int} (hd : 0 < d) (hn : n < d) : Rat.divInt n d < 1 := by
  rw [dv_lt hd, Rat.one_mul]
  exact_mod_cast hn
theorem sm9 {n : Nat} (h : n < 2 ^ 100) : n < 2 ^ 8999 := Nat.lt_of_lt_of_le h (Nat.pow_le_pow_right (by omega) (by omega))
local macro_rules | `(tactic| k_call_by "n" 0) => `(tactic| ((with_reducible refine' nm_ix rfl ?na ?nb ?nc ?nd); (case na => (repeat (first | with_reducible exact ix0 | with_reducible apply ixS))); (case nb => rfl); (case nc => rfl)))
local macro_rules | `(tactic| k_call_by "v" 0) => `(tactic| first
  | with_reducible refine w_cons ?_
  | with_reducible refine w_nil ?_
  | with_reducible refine w_ret ?_
  | with_reducible refine w_if ?_
  | with_reducible refine ea_cons ?_ (by with_unfolding_all rfl)
  | with_reducible refine ea_nil ?_
  | k_call_by "n" 0
  | with_reducible refine ev_int ?_ | with_reducible refine ev_bl ?_ | with_reducible refine ev_non ?_ | with_reducible refine ev_str ?_
  | with_reducible refine ev_add ?_
  | with_reducible refine ev_sub ?_
  | with_reducible refine ev_mul ?_
  | with_reducible refine ev_fdiv ?_
  | with_reducible refine ev_mod ?_
  | with_reducible refine ev_neg ?_
  | with_reducible refine ev_tup ?_
  | with_reducible refine et_lt ?_ | with_reducible refine et_le ?_ | with_reducible refine et_gt ?_ | with_reducible refine et_ge ?_
  | with_reducible refine ev_lt ?_ | with_reducible refine ev_le ?_ | with_reducible refine ev_gt ?_ | with_reducible refine ev_ge ?_
  | with_reducible refine et_ne ?_ | with_reducible refine et_eq ?_ | with_reducible refine ev_ne ?_ | with_reducible refine ev_eq ?_
  | with_reducible refine et_isN ?_ | with_reducible refine et_notN ?_
  | with_reducible refine et_not ?_
  | with_reducible refine et_and ?_ | with_reducible refine et_or ?_
  | with_reducible refine ew_and ?_ | with_reducible refine ew_or ?_
  | with_reducible refine ew_and1 ?_ | with_reducible refine ew_or1 ?_
  | with_reducible refine ev_and ?_ | with_reducible refine ev_or ?_ | with_reducible refine ev_one ?_ | with_reducible refine ev_not ?_
  | with_reducible refine ev_ifExp ?_
  | with_reducible refine et_call ?_
  | with_reducible refine ev_ixT ?_ (by with_unfolding_all exact fun _ _ => rfl)
  | with_reducible refine ⟨_, _, rfl, rfl, ?_⟩)
local macro_rules | `(tactic| k_call_by "w" 0) => `(tactic| repeat (first | k_call_by "v" 0 | refine ⟨Nat.le_of_ble_eq_true rfl, ?_⟩ | (refine ⟨?no, fun _ => ?_⟩; (case no => intro z; contradiction)) | (refine ⟨fun _ => ?_, ?no⟩; (case no => intro z; contradiction)) | refine ⟨_, rfl, ?_⟩ | refine ⟨_, _, _, rfl, rfl, rfl, ?_⟩ | refine ⟨_, _, rfl, ?_⟩ | refine ⟨_, _, _, rfl, ?_⟩ | refine ⟨_, _, _, _, rfl, ?_⟩))
local macro_rules | `(tactic| k_call_by "no" 0) => `(tactic| (intro z; first | (exact absurd z (by decide)) | (exact (nomatch z)) | (simp at z; done)))
local macro_rules | `(tactic| k_call_by "F" 0) => `(tactic| (refine ⟨?no, fun _ => ?_⟩; (case no => k_call_by "no" 0)))
local macro_rules | `(tactic| k_call_by "T" 0) => `(tactic| (refine ⟨fun _ => ?_, ?no⟩; (case no => k_call_by "no" 0)))
local macro_rules | `(tactic| k_call_by "s" 0) => `(tactic| (refine w_cons ?_; k_call_by "w" 0))
local macro_rules | `(tactic| k_call_by "l" 0) => `(tactic| repeat (first | with_reducible refine ea_cons ?_ (by with_unfolding_all rfl) | with_reducible refine ea_nil ?_ | with_reducible refine ev_lst ?_ | with_reducible refine ev_tup ?_ | with_reducible refine ev_int ?_ | with_reducible refine ev_neg ?_ | refine ⟨Nat.le_of_ble_eq_true rfl, ?_⟩ | refine ⟨_, rfl, ?_⟩))
section
variable {P : Program} {w : World} {K : PySem.W.Frag} {mg : Str → Option Value} {base : Heap}
def sp_l_frac : SpecD := fun ds R => ∃ p : Addr, ds = [.s (.ref p)] ∧ ∀ q : Rat, Q.B 8 q → R (Fq q)
theorem kn_l_frac (T : Tc K mg) : Kn P w K mg base CX0 "_law_frac" 3 (spG K [] (stc K) sp_l_frac) :=
  T.d_l_frac.kn (ps := ["_law_store_here"]) (fun _ _ _ _ _ _ us hl => match us, hl with | [_], _ => rfl) fun f fd F => def_okW F sc_l_frac (fun ds R h => by obtain ⟨_, rfl, _⟩ := h; rfl) fun X hx sc G H ds R h => by
    obtain ⟨p, rfl, hR⟩ := h
    have hB : ∀ n d : Int, 0 < d → n.natAbs < 2 ^ 8 → d.natAbs < 2 ^ 8 → R (Fq (Rat.divInt n d)) := fun n d hd h1 h2 => hR _ (Q.B.low (by omega) h1 h2)
    have hL : ∀ n d : Int, 0 < d → n.natAbs < 2 ^ 8 → d.natAbs < 2 ^ 8 → Int.gcd n d = 1 → R (.tup [.int n, .int d]) := fun n d hd h1 h2 h3 => by rw [lit n d hd h3]; exact hB n d hd h1 h2
    refine w_cons ?_
    with_reducible refine w_asg 1 rfl rfl rfl ?_ (by with_unfolding_all rfl)
    with_reducible refine w_take 0 T rfl rfl (List.Sublist.refl _) ?_ (by with_unfolding_all rfl) (by with_unfolding_all rfl) (by with_unfolding_all rfl)
    k_call_by "n" 0
    refine ⟨rfl, ev_int ⟨12, rfl, sm9 (by decide), fun r r0 r1 => ?_⟩⟩
    k_call_by "s" 0
    refine ⟨fun hc => ?_, fun hc => ?_⟩
    · have hc : r < 5 := of_decide_eq_true hc
      with_reducible refine w_cons ?_
      with_reducible refine w_ret ?_
      with_reducible refine ev_ixL ?_ (by with_unfolding_all exact fun _ _ => rfl)
      with_reducible refine ev_lst ?_
      k_call_by "l" 0
      k_call_by "n" 0
      obtain ⟨d, hd, e⟩ := at_any (ds := [.tup [.int 0, .int 1], .tup [.int 1, .int 1], .tup [.int (-1), .int 1], .tup [.int 1, .int 2], .tup [.int (-1), .int 2]]) r0 (by simp; omega)
      refine ⟨_, _, d, rfl, rfl, e, List.Sublist.refl _, ?_⟩
      simp only [List.mem_cons, List.not_mem_nil, or_false] at hd
      rcases hd with rfl | rfl | rfl | rfl | rfl <;> exact hL _ _ (by decide) (by decide) (by decide) (by decide)
    · with_reducible refine w_nil ?_
      with_reducible refine w_cons ?_
      with_reducible refine w_asg 2 rfl rfl rfl ?_ (by with_unfolding_all rfl)
      with_reducible refine ev_add ?_
      with_reducible refine ev_int ?_
      with_reducible refine w_take 0 T rfl rfl (List.Sublist.refl _) ?_ (by with_unfolding_all rfl) (by with_unfolding_all rfl) (by with_unfolding_all rfl)
      k_call_by "n" 0
      refine ⟨rfl, ev_int ⟨12, rfl, sm9 (by decide), fun r2 r20 r21 => ⟨_, _, rfl, rfl, ?_⟩⟩⟩
      with_reducible refine w_cons ?_
      with_reducible refine w_ret ?_
      with_reducible refine w_call 1 (kn_l_lowest T) rfl rfl ?_ (by with_unfolding_all rfl) (by with_unfolding_all rfl)
      with_reducible refine ea_cons ?_ (by with_unfolding_all rfl)
      with_reducible refine ev_sub ?_
      with_reducible refine w_take 0 T rfl rfl (List.Sublist.refl _) ?_ (by with_unfolding_all rfl) (by with_unfolding_all rfl) (by with_unfolding_all rfl)
      k_call_by "n" 0
      refine ⟨rfl, ?_⟩
      k_call_by "w" 0
      refine ⟨.inr (.inr (by decide)), ?_⟩
      k_call_by "w" 0
      refine ⟨sm9 (by omega), fun r3 r30 r31 => ?_⟩
      k_call_by "w" 0
      refine ⟨.inr (.inr (by decide)), ?_⟩
      k_call_by "w" 0
      refine ⟨by omega, sm9 (by omega), List.Sublist.refl _, hB _ _ (by omega) (by omega) (by omega)⟩
def sp_l_positive : SpecD := fun ds R => ∃ p : Addr, ds = [.s (.ref p)] ∧ ∀ q : Rat, Q.B 8 q → 0 < q → R (Fq q)
theorem kn_l_positive (T : Tc K mg) : Kn P w K mg base CX0 "_law_positive" 3 (spG K [] (stc K) sp_l_positive) :=
  T.d_l_positive.kn (ps := ["_law_store_here"]) (fun _ _ _ _ _ _ us hl => match us, hl with | [_], _ => rfl) fun f fd F => def_okW F sc_l_positive (fun ds R h => by obtain ⟨_, rfl, _⟩ := h; rfl) fun X hx sc G H ds R h => by
    obtain ⟨p, rfl, hR⟩ := h
    have hB : ∀ n d : Int, 0 < d → 0 < n → n.natAbs < 2 ^ 8 → d.natAbs < 2 ^ 8 → R (Fq (Rat.divInt n d)) := fun n d hd hn h1 h2 => hR _ (Q.B.low (by omega) h1 h2) (dv_pos hd hn)
    have hL : ∀ n d : Int, 0 < d → 0 < n → n.natAbs < 2 ^ 8 → d.natAbs < 2 ^ 8 → Int.gcd n d = 1 → R (.tup [.int n, .int d]) := fun n d hd hn h1 h2 h3 => by rw [lit n d hd h3]; exact hB n d hd hn h1 h2
    refine w_cons ?_
    with_reducible refine w_asg 1 rfl rfl rfl ?_ (by with_unfolding_all rfl)
    with_reducible refine w_take 0 T rfl rfl (List.Sublist.refl _) ?_ (by with_unfolding_all rfl) (by with_unfolding_all rfl) (by with_unfolding_all rfl)
    k_call_by "n" 0
    refine ⟨rfl, ev_int ⟨12, rfl, sm9 (by decide), fun r r0 r1 => ?_⟩⟩
    k_call_by "s" 0
    refine ⟨fun hc => ?_, fun hc => ?_⟩
    · have hc : r < 4 := of_decide_eq_true hc
      with_reducible refine w_cons ?_
      with_reducible refine w_ret ?_
      with_reducible refine ev_ixL ?_ (by with_unfolding_all exact fun _ _ => rfl)
      with_reducible refine ev_lst ?_
      k_call_by "l" 0
      k_call_by "n" 0
      obtain ⟨d, hd, e⟩ := at_any (ds := [.tup [.int 1, .int 1], .tup [.int 1, .int 2], .tup [.int 2, .int 1], .tup [.int 1, .int 12]]) r0 (by simp; omega)
      refine ⟨_, _, d, rfl, rfl, e, List.Sublist.refl _, ?_⟩
      simp only [List.mem_cons, List.not_mem_nil, or_false] at hd
      rcases hd with rfl | rfl | rfl | rfl <;> exact hL _ _ (by decide) (by decide) (by decide) (by decide) (by decide)
    · with_reducible refine w_nil ?_
      with_reducible refine w_cons ?_
      with_reducible refine w_asg 2 rfl rfl rfl ?_ (by with_unfolding_all rfl)
      with_reducible refine ev_add ?_
      with_reducible refine ev_int ?_
      with_reducible refine w_take 0 T rfl rfl (List.Sublist.refl _) ?_ (by with_unfolding_all rfl) (by with_unfolding_all rfl) (by with_unfolding_all rfl)
      k_call_by "n" 0
      refine ⟨rfl, ev_int ⟨12, rfl, sm9 (by decide), fun r2 r20 r21 => ⟨_, _, rfl, rfl, ?_⟩⟩⟩
      with_reducible refine w_cons ?_
      with_reducible refine w_ret ?_
      with_reducible refine w_call 1 (kn_l_lowest T) rfl rfl ?_ (by with_unfolding_all rfl) (by with_unfolding_all rfl)
      with_reducible refine ea_cons ?_ (by with_unfolding_all rfl)
      with_reducible refine ev_add ?_
      with_reducible refine ev_int ?_
      with_reducible refine w_take 0 T rfl rfl (List.Sublist.refl _) ?_ (by with_unfolding_all rfl) (by with_unfolding_all rfl) (by with_unfolding_all rfl)
      k_call_by "n" 0
      refine ⟨rfl, ?_⟩
      k_call_by "w" 0
      refine ⟨.inr (.inr (by decide)), ?_⟩
      k_call_by "w" 0
      refine ⟨sm9 (by omega), fun r3 r30 r31 => ?_⟩
      k_call_by "w" 0
      refine ⟨by omega, sm9 (by omega), List.Sublist.refl _, hB _ _ (by omega) (by omega) (by omega) (by omega)⟩
def sp_l_no_zero : SpecD := fun ds R => ∃ p : Addr, ds = [.s (.ref p)] ∧ ∀ q : Rat, Q.B 8 q → q ≠ 0 → R (Fq q)
theorem kn_l_no_zero (T : Tc K mg) : Kn P w K mg base CX0 "_law_no_zero" 4 (spG K [] (stc K) sp_l_no_zero) :=
  T.d_l_no_zero.kn (ps := ["_law_store_here"]) (fun _ _ _ _ _ _ us hl => match us, hl with | [_], _ => rfl) fun f fd F => def_okW F sc_l_no_zero (fun ds R h => by obtain ⟨_, rfl, _⟩ := h; rfl) fun X hx sc G H ds R h => by
    obtain ⟨p, rfl, hR⟩ := h
    refine w_cons ?_
    with_reducible refine w_asg 1 rfl rfl rfl ?_ (by with_unfolding_all rfl)
    with_reducible refine w_callW 0 (kn_l_positive T) rfl rfl ?_ (by with_unfolding_all rfl) (by with_unfolding_all rfl)
    k_call_by "w" 0
    refine ⟨List.Sublist.refl _, .inl rfl, p, rfl, fun q hq q0 => ?_⟩
    with_reducible refine w_cons ?_
    with_reducible refine w_if ?_
    with_reducible refine et_eq ?_
    with_reducible refine w_take 1 T rfl rfl (List.Sublist.refl _) ?_ (by with_unfolding_all rfl) (by with_unfolding_all rfl) (by with_unfolding_all rfl)
    k_call_by "n" 0
    refine ⟨rfl, ev_int ⟨2, rfl, sm9 (by decide), fun r r0 r1 => ?_⟩⟩
    k_call_by "v" 0
    refine ⟨_, _, rfl, rfl, rfl, fun _ => ?_, fun _ => ?_⟩
    · k_call_by "w" 0
      have := hR (-q) hq.neg (by grind)
      unfold Fq at this
      rw [Rat.neg_num, Rat.neg_den] at this
      exact ⟨List.Sublist.refl _, this⟩
    · k_call_by "w" 0
      exact ⟨List.Sublist.refl _, hR q hq (by grind)⟩
def sp_l_place : SpecD := fun ds R => ∃ p : Addr, ds = [.s (.ref p)] ∧ ∀ q : Rat, Q.B 8 q → 0 ≤ q → q < 1 → R (Fq q)
theorem kn_l_place (T : Tc K mg) : Kn P w K mg base CX0 "_law_place" 3 (spG K [] (stc K) sp_l_place) :=
  T.d_l_place.kn (ps := ["_law_store_here"]) (fun _ _ _ _ _ _ us hl => match us, hl with | [_], _ => rfl) fun f fd F => def_okW F sc_l_place (fun ds R h => by obtain ⟨_, rfl, _⟩ := h; rfl) fun X hx sc G H ds R h => by
    obtain ⟨p, rfl, hR⟩ := h
    have hB : ∀ n d : Int, 0 ≤ n → n < d → d.natAbs < 2 ^ 8 → R (Fq (Rat.divInt n d)) := fun n d hd hn h1 => hR _ (Q.B.low (by omega) (by omega) h1) (dv_nn (by omega) hd) (dv_lt1 (by omega) hn)
    have hL : ∀ n d : Int, 0 ≤ n → n < d → d.natAbs < 2 ^ 8 → Int.gcd n d = 1 → R (.tup [.int n, .int d]) := fun n d hd hn h1 h3 => by rw [lit n d (by omega) h3]; exact hB n d hd hn h1
    refine w_cons ?_
    with_reducible refine w_asg 1 rfl rfl rfl ?_ (by with_unfolding_all rfl)
    with_reducible refine w_take 0 T rfl rfl (List.Sublist.refl _) ?_ (by with_unfolding_all rfl) (by with_unfolding_all rfl) (by with_unfolding_all rfl)
    k_call_by "n" 0
    refine ⟨rfl, ev_int ⟨12, rfl, sm9 (by decide), fun r r0 r1 => ?_⟩⟩
    k_call_by "s" 0
    refine ⟨fun hc => ?_, fun hc => ?_⟩
    · have hc : r < 3 := of_decide_eq_true hc
      with_reducible refine w_cons ?_
      with_reducible refine w_ret ?_
      with_reducible refine ev_ixL ?_ (by with_unfolding_all exact fun _ _ => rfl)
      with_reducible refine ev_lst ?_
      k_call_by "l" 0
      k_call_by "n" 0
      obtain ⟨d, hd, e⟩ := at_any (ds := [.tup [.int 0, .int 1], .tup [.int 1, .int 2], .tup [.int 11, .int 12]]) r0 (by simp; omega)
      refine ⟨_, _, d, rfl, rfl, e, List.Sublist.refl _, ?_⟩
      simp only [List.mem_cons, List.not_mem_nil, or_false] at hd
      rcases hd with rfl | rfl | rfl <;> exact hL _ _ (by decide) (by decide) (by decide) (by decide)
    · with_reducible refine w_nil ?_
      with_reducible refine w_cons ?_
      with_reducible refine w_asg 2 rfl rfl rfl ?_ (by with_unfolding_all rfl)
      with_reducible refine ev_add ?_
      with_reducible refine ev_int ?_
      with_reducible refine w_take 0 T rfl rfl (List.Sublist.refl _) ?_ (by with_unfolding_all rfl) (by with_unfolding_all rfl) (by with_unfolding_all rfl)
      k_call_by "n" 0
      refine ⟨rfl, ev_int ⟨12, rfl, sm9 (by decide), fun r2 r20 r21 => ⟨_, _, rfl, rfl, ?_⟩⟩⟩
      with_reducible refine w_cons ?_
      with_reducible refine w_ret ?_
      with_reducible refine w_call 1 (kn_l_lowest T) rfl rfl ?_ (by with_unfolding_all rfl) (by with_unfolding_all rfl)
      with_reducible refine ea_cons ?_ (by with_unfolding_all rfl)
      with_reducible refine w_take 0 T rfl rfl (List.Sublist.refl _) ?_ (by with_unfolding_all rfl) (by with_unfolding_all rfl) (by with_unfolding_all rfl)
      k_call_by "n" 0
      refine ⟨rfl, ?_⟩
      k_call_by "n" 0
      refine ⟨_, rfl, sm9 (by omega), fun r3 r30 r31 => ?_⟩
      k_call_by "w" 0
      refine ⟨by omega, sm9 (by omega), List.Sublist.refl _, hB _ _ (by omega) (by omega) (by omega)⟩
end
end Wh

set_option Elab.async false
set_option linter.all false
set_option maxRecDepth 100000
set_option maxHeartbeats 4000000
namespace Wh
open PySem L2 PyProof.Rows DL
theorem lt4 {n d : Int} (hd : 0 < d) (h : 4 * n < d) : 4 * Rat.divInt n d < 1 := by
  have h1 : Rat.divInt n d < 1 / 4 := by
    rw [dv_lt hd]
    have : ((4 * n : Int) : Rat) < (d : Rat) := by exact_mod_cast h
    push_cast at this
    grind
  grind
theorem smk {n k : Nat} (h : n < 2 ^ k) (hk : k ≤ 8999) : n < 2 ^ 8999 := Nat.lt_of_lt_of_le h (Nat.pow_le_pow_right (by omega) hk)
theorem iF (n : Int) : (.tup [.int n, .int 1] : D) = Fq (n : Rat) := by
  unfold Fq
  rw [(Q.int_num n).1, (Q.int_num n).2]
  rfl
local macro_rules | `(tactic| k_call_by "n" 0) => `(tactic| ((with_reducible refine' nm_ix rfl ?na ?nb ?nc ?nd); (case na => (repeat (first | with_reducible exact ix0 | with_reducible apply ixS))); (case nb => rfl); (case nc => rfl)))
local macro_rules | `(tactic| k_call_by "v" 0) => `(tactic| first
  | with_reducible refine w_cons ?_
  | with_reducible refine w_nil ?_
  | with_reducible refine w_ret ?_
  | with_reducible refine w_if ?_
  | with_reducible refine ea_cons ?_ (by with_unfolding_all rfl)
  | with_reducible refine ea_nil ?_
  | k_call_by "n" 0
  | with_reducible refine ev_int ?_ | with_reducible refine ev_bl ?_ | with_reducible refine ev_non ?_ | with_reducible refine ev_str ?_
  | with_reducible refine ev_add ?_
  | with_reducible refine ev_sub ?_
  | with_reducible refine ev_mul ?_
  | with_reducible refine ev_fdiv ?_
  | with_reducible refine ev_mod ?_
  | with_reducible refine ev_neg ?_
  | with_reducible refine ev_tup ?_
  | with_reducible refine et_lt ?_ | with_reducible refine et_le ?_ | with_reducible refine et_gt ?_ | with_reducible refine et_ge ?_
  | with_reducible refine ev_lt ?_ | with_reducible refine ev_le ?_ | with_reducible refine ev_gt ?_ | with_reducible refine ev_ge ?_
  | with_reducible refine et_ne ?_ | with_reducible refine et_eq ?_ | with_reducible refine ev_ne ?_ | with_reducible refine ev_eq ?_
  | with_reducible refine et_isN ?_ | with_reducible refine et_notN ?_
  | with_reducible refine et_not ?_
  | with_reducible refine et_and ?_ | with_reducible refine et_or ?_
  | with_reducible refine ew_and ?_ | with_reducible refine ew_or ?_
  | with_reducible refine ew_and1 ?_ | with_reducible refine ew_or1 ?_
  | with_reducible refine ev_and ?_ | with_reducible refine ev_or ?_ | with_reducible refine ev_one ?_ | with_reducible refine ev_not ?_
  | with_reducible refine ev_ifExp ?_
  | with_reducible refine et_call ?_
  | with_reducible refine ev_ixT ?_ (by with_unfolding_all exact fun _ _ => rfl)
  | with_reducible refine ⟨_, _, rfl, rfl, ?_⟩)
local macro_rules | `(tactic| k_call_by "w" 0) => `(tactic| repeat (first | k_call_by "v" 0 | refine ⟨Nat.le_of_ble_eq_true rfl, ?_⟩ | (refine ⟨?no, fun _ => ?_⟩; (case no => intro z; contradiction)) | (refine ⟨fun _ => ?_, ?no⟩; (case no => intro z; contradiction)) | refine ⟨_, rfl, ?_⟩ | refine ⟨_, _, _, rfl, rfl, rfl, ?_⟩ | refine ⟨_, _, rfl, ?_⟩ | refine ⟨_, _, _, rfl, ?_⟩ | refine ⟨_, _, _, _, rfl, ?_⟩))
local macro_rules | `(tactic| k_call_by "no" 0) => `(tactic| (intro z; first | (exact absurd z (by decide)) | (exact (nomatch z)) | (simp at z; done)))
local macro_rules | `(tactic| k_call_by "F" 0) => `(tactic| (refine ⟨?no, fun _ => ?_⟩; (case no => k_call_by "no" 0)))
local macro_rules | `(tactic| k_call_by "T" 0) => `(tactic| (refine ⟨fun _ => ?_, ?no⟩; (case no => k_call_by "no" 0)))
local macro_rules | `(tactic| k_call_by "s" 0) => `(tactic| (refine w_cons ?_; k_call_by "w" 0))
local macro_rules | `(tactic| k_call_by "l" 0) => `(tactic| repeat (first | with_reducible refine ea_cons ?_ (by with_unfolding_all rfl) | with_reducible refine ea_nil ?_ | with_reducible refine ev_lst ?_ | with_reducible refine ev_tup ?_ | with_reducible refine ev_int ?_ | with_reducible refine ev_neg ?_ | refine ⟨Nat.le_of_ble_eq_true rfl, ?_⟩ | refine ⟨_, rfl, ?_⟩))
section
variable {P : Program} {w : World} {K : PySem.W.Frag} {mg : Str → Option Value} {base : Heap}
def sp_l_moment : SpecD := fun ds R => ∃ p : Addr, ds = [.s (.ref p), .int 12] ∧ ∀ q : Rat, Q.B 12 q → R (Fq q)
theorem kn_l_moment (T : Tc K mg) : Kn P w K mg base CX0 "_law_moment" 4 (spG K [] (stc K) sp_l_moment) :=
  T.d_l_moment.kn (ps := ["_law_store_here", "_law_reach"]) (fun _ _ _ _ _ _ us hl => match us, hl with | [_, _], _ => rfl) fun f fd F => def_okW F sc_l_moment (fun ds R h => by obtain ⟨_, rfl, _⟩ := h; rfl) fun X hx sc G H ds R h => by
    obtain ⟨p, rfl, hR⟩ := h
    refine w_cons ?_
    with_reducible refine w_asg 2 rfl rfl rfl ?_ (by with_unfolding_all rfl)
    with_reducible refine w_take 0 T rfl rfl (List.Sublist.refl _) ?_ (by with_unfolding_all rfl) (by with_unfolding_all rfl) (by with_unfolding_all rfl)
    k_call_by "n" 0
    refine ⟨rfl, ev_int ⟨12, rfl, sm9 (by decide), fun r r0 r1 => ?_⟩⟩
    k_call_by "s" 0
    refine ⟨fun hc => ?_, fun hc => ?_⟩
    · with_reducible refine w_cons ?_
      with_reducible refine w_ret ?_
      with_reducible refine ev_tup ?_
      with_reducible refine ea_cons ?_ (by with_unfolding_all rfl)
      with_reducible refine w_callW 1 (kn_l_whole T) rfl rfl ?_ (by with_unfolding_all rfl) (by with_unfolding_all rfl)
      k_call_by "w" 0
      refine ⟨List.Sublist.refl _, .inl rfl, p, 12, rfl, by decide, Nat.lt_of_lt_of_le (by decide : 12 < 2 ^ 4) (Nat.pow_le_pow_right (by omega) (by omega)), fun n n0 n1 => ?_⟩
      k_call_by "w" 0
      refine ⟨List.Sublist.refl _, ?_⟩
      rw [iF]
      exact hR _ (Q.B.int (by omega) (by omega))
    · with_reducible refine w_nil ?_
      with_reducible refine w_cons ?_
      with_reducible refine w_asg 3 rfl rfl rfl ?_ (by with_unfolding_all rfl)
      with_reducible refine ev_add ?_
      with_reducible refine ev_int ?_
      with_reducible refine w_take 0 T rfl rfl (List.Sublist.refl _) ?_ (by with_unfolding_all rfl) (by with_unfolding_all rfl) (by with_unfolding_all rfl)
      k_call_by "n" 0
      refine ⟨rfl, ev_int ⟨12, rfl, sm9 (by decide), fun r2 r20 r21 => ⟨_, _, rfl, rfl, ?_⟩⟩⟩
      with_reducible refine w_cons ?_
      with_reducible refine w_ret ?_
      with_reducible refine w_call 2 (kn_l_lowest T) rfl rfl ?_ (by with_unfolding_all rfl) (by with_unfolding_all rfl)
      with_reducible refine ea_cons ?_ (by with_unfolding_all rfl)
      with_reducible refine ev_sub ?_
      with_reducible refine w_take 0 T rfl rfl (List.Sublist.refl _) ?_ (by with_unfolding_all rfl) (by with_unfolding_all rfl) (by with_unfolding_all rfl)
      k_call_by "n" 0
      refine ⟨rfl, ?_⟩
      k_call_by "w" 0
      refine ⟨.inr (.inr (by decide)), ?_⟩
      k_call_by "w" 0
      refine ⟨.inr (.inr (by decide)), ?_⟩
      k_call_by "w" 0
      refine ⟨sm9 (by omega), fun r3 r30 r31 => ?_⟩
      k_call_by "w" 0
      refine ⟨.inr (.inr (by decide)), ?_⟩
      k_call_by "w" 0
      exact ⟨by omega, sm9 (by omega), List.Sublist.refl _, hR _ (Q.B.low (by omega) (by omega) (by omega))⟩
def sp_l_below : SpecD := fun ds R => ∃ p : Addr, ds = [.s (.ref p), .int 4] ∧ ∀ q : Rat, Q.B 110 q → 0 ≤ q → 4 * q < 1 → R (Fq q)
theorem kn_l_below (T : Tc K mg) : Kn P w K mg base CX0 "_law_below" 3 (spG K [] (stc K) sp_l_below) :=
  T.d_l_below.kn (ps := ["_law_store_here", "_law_share"]) (fun _ _ _ _ _ _ us hl => match us, hl with | [_, _], _ => rfl) fun f fd F => def_okW F sc_l_below (fun ds R h => by obtain ⟨_, rfl, _⟩ := h; rfl) fun X hx sc G H ds R h => by
    obtain ⟨p, rfl, hR⟩ := h
    have hB : ∀ n d : Int, 0 ≤ n → 4 * n < d → d.natAbs < 2 ^ 110 → R (Fq (Rat.divInt n d)) := fun n d h1 h2 h3 => hR _ (Q.B.low (by omega) (by omega) h3) (dv_nn (by omega) h1) (lt4 (by omega) h2)
    refine w_cons ?_
    with_reducible refine w_asg 2 rfl rfl rfl ?_ (by with_unfolding_all rfl)
    with_reducible refine w_take 0 T rfl rfl (List.Sublist.refl _) ?_ (by with_unfolding_all rfl) (by with_unfolding_all rfl) (by with_unfolding_all rfl)
    k_call_by "n" 0
    refine ⟨rfl, ev_int ⟨6, rfl, sm9 (by decide), fun r r0 r1 => ?_⟩⟩
    k_call_by "s" 0
    refine ⟨rfl, fun hc => ?_, fun hc => ?_⟩
    · k_call_by "w" 0
      refine ⟨List.Sublist.refl _, ?_⟩
      rw [iF]
      exact hR 0 ⟨by decide, by decide⟩ (by decide +kernel) (by decide +kernel)
    · with_reducible refine w_nil ?_
      with_reducible refine w_cons ?_
      with_reducible refine w_asg 3 rfl rfl rfl ?_ (by with_unfolding_all rfl)
      with_reducible refine ev_add ?_
      with_reducible refine ev_int ?_
      with_reducible refine w_take 0 T rfl rfl (List.Sublist.refl _) ?_ (by with_unfolding_all rfl) (by with_unfolding_all rfl) (by with_unfolding_all rfl)
      k_call_by "n" 0
      refine ⟨rfl, ev_int ⟨12, rfl, sm9 (by decide), fun r2 r20 r21 => ⟨_, _, rfl, rfl, ?_⟩⟩⟩
      k_call_by "s" 0
      refine ⟨rfl, fun hc2 => ?_, fun hc2 => ?_⟩
      · with_reducible refine w_cons ?_
        with_reducible refine w_asg 3 rfl rfl rfl ?_ (by with_unfolding_all rfl)
        with_reducible refine ev_ixL ?_ (by with_unfolding_all exact fun _ _ => rfl)
        with_reducible refine ev_lst ?_
        with_reducible refine ea_cons ?_ (by with_unfolding_all rfl)
        k_call_by "n" 0
        refine ea_cons (ev_pow ?_) (by with_unfolding_all rfl)
        k_call_by "w" 0
        refine ⟨⟨by decide, by decide, by decide⟩, ?_⟩
        refine ea_cons (ev_pow ?_) (by with_unfolding_all rfl)
        k_call_by "w" 0
        refine ⟨⟨by decide, by decide, by decide⟩, ?_⟩
        refine ea_nil ⟨Nat.le_of_ble_eq_true rfl, ?_⟩
        with_reducible refine w_take 0 T rfl rfl (List.Sublist.refl _) ?_ (by with_unfolding_all rfl) (by with_unfolding_all rfl) (by with_unfolding_all rfl)
        k_call_by "n" 0
        refine ⟨rfl, ev_int ⟨3, rfl, sm9 (by decide), fun r3 r30 r31 => ?_⟩⟩
        obtain ⟨d, hd, e⟩ := at_any (ds := [.int (1 + r2), .int ((10 : Int) ^ (6 : Int).toNat), .int ((10 : Int) ^ (30 : Int).toNat)]) r30 (by simp; omega)
        refine ⟨_, _, d, rfl, rfl, e, ?_⟩
        have hd' : ∃ s : Int, d = .int s ∧ 1 ≤ s ∧ s.natAbs < 2 ^ 100 := by
          simp only [List.mem_cons, List.not_mem_nil, or_false] at hd
          rcases hd with rfl | rfl | rfl
          · exact ⟨_, rfl, by omega, by omega⟩
          · exact ⟨_, rfl, by decide, by decide⟩
          · exact ⟨_, rfl, by decide, by decide⟩
        obtain ⟨s, rfl, s1, s2⟩ := hd'
        with_reducible refine w_cons ?_
        with_reducible refine w_ret ?_
        with_reducible refine w_call 1 (kn_l_lowest T) rfl rfl ?_ (by with_unfolding_all rfl) (by with_unfolding_all rfl)
        k_call_by "w" 0
        refine ⟨.inr (.inr (by decide)), ?_⟩
        k_call_by "w" 0
        exact ⟨by omega, smk (k := 103) (by omega) (by decide), List.Sublist.refl _, hB _ _ (by omega) (by omega) (by omega)⟩
      · with_reducible refine w_nil ?_
        with_reducible refine w_cons ?_
        with_reducible refine w_ret ?_
        with_reducible refine w_call 1 (kn_l_lowest T) rfl rfl ?_ (by with_unfolding_all rfl) (by with_unfolding_all rfl)
        with_reducible refine ea_cons ?_ (by with_unfolding_all rfl)
        with_reducible refine w_take 0 T rfl rfl (List.Sublist.refl _) ?_ (by with_unfolding_all rfl) (by with_unfolding_all rfl) (by with_unfolding_all rfl)
        k_call_by "n" 0
        refine ⟨rfl, ?_⟩
        k_call_by "n" 0
        refine ⟨_, rfl, sm9 (by omega), fun r3 r30 r31 => ?_⟩
        k_call_by "w" 0
        refine ⟨.inr (.inr (by decide)), ?_⟩
        k_call_by "w" 0
        exact ⟨by omega, sm9 (by omega), List.Sublist.refl _, hB _ _ (by omega) (by omega) (by omega)⟩
def sp_l_many : SpecD := fun ds R => ∃ p : Addr, ds = [.s (.ref p), .int 400] ∧ ∀ n : Int, 0 ≤ n → n < 2 ^ 12 → R (.int n)
theorem kn_l_many (T : Tc K mg) : Kn P w K mg base CX0 "_law_many" 3 (spG K [] (stc K) sp_l_many) :=
  T.d_l_many.kn (ps := ["_law_store_here", "_law_limit"]) (fun _ _ _ _ _ _ us hl => match us, hl with | [_, _], _ => rfl) fun f fd F => def_okW F sc_l_many (fun ds R h => by obtain ⟨_, rfl, _⟩ := h; rfl) fun X hx sc G H ds R h => by
    obtain ⟨p, rfl, hR⟩ := h
    refine w_cons ?_
    with_reducible refine w_asg 2 rfl rfl rfl ?_ (by with_unfolding_all rfl)
    with_reducible refine w_take 0 T rfl rfl (List.Sublist.refl _) ?_ (by with_unfolding_all rfl) (by with_unfolding_all rfl) (by with_unfolding_all rfl)
    k_call_by "n" 0
    refine ⟨rfl, ev_int ⟨24, rfl, sm9 (by decide), fun r r0 r1 => ?_⟩⟩
    k_call_by "s" 0
    refine ⟨fun hc => ?_, fun hc => ?_⟩
    · have hc : r < 2 := of_decide_eq_true hc
      k_call_by "w" 0
      exact ⟨List.Sublist.refl _, hR _ (by omega) (by omega)⟩
    · have hc : ¬ r < 2 := of_decide_eq_false hc
      k_call_by "w" 0
      refine ⟨rfl, fun hc2 => ?_, fun hc2 => ?_⟩
      · with_reducible refine w_cons ?_
        with_reducible refine w_ret ?_
        with_reducible refine ev_add ?_
        k_call_by "w" 0
        with_reducible refine w_take 0 T rfl rfl (List.Sublist.refl _) ?_ (by with_unfolding_all rfl) (by with_unfolding_all rfl) (by with_unfolding_all rfl)
        k_call_by "n" 0
        refine ⟨rfl, ?_⟩
        k_call_by "w" 0
        refine ⟨.inr (.inr (by decide)), ?_⟩
        k_call_by "w" 0
        refine fun r2 r20 r21 => ?_
        k_call_by "w" 0
        exact ⟨List.Sublist.refl _, hR _ (by omega) (by omega)⟩
      · with_reducible refine w_nil ?_
        with_reducible refine w_cons ?_
        with_reducible refine w_ret ?_
        refine w_min 1 T.b_min rfl ?_
        k_call_by "n" 0
        with_reducible refine w_take 0 T rfl rfl (List.Sublist.refl _) ?_ (by with_unfolding_all rfl) (by with_unfolding_all rfl) (by with_unfolding_all rfl)
        k_call_by "n" 0
        refine ⟨rfl, ev_int ⟨9, rfl, sm9 (by decide), fun r2 r20 r21 => ⟨_, _, rfl, rfl, List.Sublist.refl _, hR _ (by omega) (by omega)⟩⟩⟩
end
end Wh

set_option Elab.async false
set_option linter.all false
set_option maxRecDepth 100000
set_option maxHeartbeats 4000000
namespace Wh
open PySem L2 PyProof.Rows DL
theorem zmo_bd' {r d : Rat} (h : r ≠ 0) (b : Q.B 8 r) (c : Q.B 17 d) : Q.B 60 (zmo r d) := by
  unfold zmo
  have b0 : Q.B 1 (0 : Rat) := ⟨by decide, by decide⟩
  have bs : Q.B 1 ((Q.sg r : Int) : Rat) := Q.B.int (Q.sg_bd r) (by omega)
  have bz := b0.sub (bs.mul c)
  exact (bz.part.mul (Q.one_div_bd b.ab (Q.ab_ne h))).mono (by decide)
theorem ivl_bd' {r : Rat} (h : r ≠ 0) (b : Q.B 8 r) : Q.B 20 (ivl r) := (Q.one_div_bd b.ab (Q.ab_ne h)).mono (by decide)
theorem shares_ok {x : D} (h : x ∈ ([.tup [.int 0, .int 1], .tup [.int 0, .int 1], .tup [.int 1, .int 2], .tup [.int 1, .int 12], .tup [.int 11, .int 12]] : List D)) : ∃ e : Rat, x = Fq e ∧ 0 ≤ e ∧ Q.B 4 e := by
  simp only [List.mem_cons, List.not_mem_nil, or_false] at h
  rcases h with rfl | rfl | rfl | rfl | rfl
  · exact ⟨_, lit 0 1 (by decide) (by decide), by decide +kernel, by decide +kernel, by decide +kernel⟩
  · exact ⟨_, lit 0 1 (by decide) (by decide), by decide +kernel, by decide +kernel, by decide +kernel⟩
  · exact ⟨_, lit 1 2 (by decide) (by decide), by decide +kernel, by decide +kernel, by decide +kernel⟩
  · exact ⟨_, lit 1 12 (by decide) (by decide), by decide +kernel, by decide +kernel, by decide +kernel⟩
  · exact ⟨_, lit 11 12 (by decide) (by decide), by decide +kernel, by decide +kernel, by decide +kernel⟩
theorem ends_ok {x : D} (h : x ∈ ([.tup [.tup [.int 1, .int 12], .tup [.int 11, .int 12]], .tup [.tup [.int 1, .int 3], .tup [.int 1, .int 2]], .tup [.tup [.int 1, .int 2], .tup [.int 1, .int 2]]] : List D)) : ∃ e f : Rat, x = .tup [Fq e, Fq f] ∧ e ≤ f ∧ Q.B 4 e ∧ Q.B 4 f := by
  simp only [List.mem_cons, List.not_mem_nil, or_false] at h
  rcases h with rfl | rfl | rfl
  · exact ⟨_, _, by rw [lit 1 12 (by decide) (by decide), lit 11 12 (by decide) (by decide)], by decide +kernel, ⟨by decide +kernel, by decide +kernel⟩, by decide +kernel, by decide +kernel⟩
  · exact ⟨_, _, by rw [lit 1 3 (by decide) (by decide), lit 1 2 (by decide) (by decide)], by decide +kernel, ⟨by decide +kernel, by decide +kernel⟩, by decide +kernel, by decide +kernel⟩
  · exact ⟨_, _, by rw [lit 1 2 (by decide) (by decide)], by decide +kernel, ⟨by decide +kernel, by decide +kernel⟩, by decide +kernel, by decide +kernel⟩
local macro_rules | `(tactic| k_call_by "n" 0) => `(tactic| ((with_reducible refine' nm_ix rfl ?na ?nb ?nc ?nd); (case na => (repeat (first | with_reducible exact ix0 | with_reducible apply ixS))); (case nb => rfl); (case nc => rfl)))
local macro_rules | `(tactic| k_call_by "v" 0) => `(tactic| first
  | with_reducible refine w_cons ?_
  | with_reducible refine w_nil ?_
  | with_reducible refine w_ret ?_
  | with_reducible refine w_if ?_
  | with_reducible refine ea_cons ?_ (by with_unfolding_all rfl)
  | with_reducible refine ea_nil ?_
  | k_call_by "n" 0
  | with_reducible refine ev_int ?_ | with_reducible refine ev_bl ?_ | with_reducible refine ev_non ?_ | with_reducible refine ev_str ?_
  | with_reducible refine ev_add ?_
  | with_reducible refine ev_sub ?_
  | with_reducible refine ev_mul ?_
  | with_reducible refine ev_fdiv ?_
  | with_reducible refine ev_mod ?_
  | with_reducible refine ev_neg ?_
  | with_reducible refine ev_tup ?_
  | with_reducible refine et_lt ?_ | with_reducible refine et_le ?_ | with_reducible refine et_gt ?_ | with_reducible refine et_ge ?_
  | with_reducible refine ev_lt ?_ | with_reducible refine ev_le ?_ | with_reducible refine ev_gt ?_ | with_reducible refine ev_ge ?_
  | with_reducible refine et_ne ?_ | with_reducible refine et_eq ?_ | with_reducible refine ev_ne ?_ | with_reducible refine ev_eq ?_
  | with_reducible refine et_isN ?_ | with_reducible refine et_notN ?_
  | with_reducible refine et_not ?_
  | with_reducible refine et_and ?_ | with_reducible refine et_or ?_
  | with_reducible refine ew_and ?_ | with_reducible refine ew_or ?_
  | with_reducible refine ew_and1 ?_ | with_reducible refine ew_or1 ?_
  | with_reducible refine ev_and ?_ | with_reducible refine ev_or ?_ | with_reducible refine ev_one ?_ | with_reducible refine ev_not ?_
  | with_reducible refine ev_ifExp ?_
  | with_reducible refine et_call ?_
  | with_reducible refine ev_ixT ?_ (by with_unfolding_all exact fun _ _ => rfl)
  | with_reducible refine ⟨_, _, rfl, rfl, ?_⟩)
local macro_rules | `(tactic| k_call_by "w" 0) => `(tactic| repeat (first | k_call_by "v" 0 | refine ⟨Nat.le_of_ble_eq_true rfl, ?_⟩ | (refine ⟨?no, fun _ => ?_⟩; (case no => intro z; contradiction)) | (refine ⟨fun _ => ?_, ?no⟩; (case no => intro z; contradiction)) | refine ⟨_, rfl, ?_⟩ | refine ⟨_, _, _, rfl, rfl, rfl, ?_⟩ | refine ⟨_, _, rfl, ?_⟩ | refine ⟨_, _, _, rfl, ?_⟩ | refine ⟨_, _, _, _, rfl, ?_⟩))
local macro_rules | `(tactic| k_call_by "no" 0) => `(tactic| (intro z; first | (exact absurd z (by decide)) | (exact (nomatch z)) | (simp at z; done)))
local macro_rules | `(tactic| k_call_by "F" 0) => `(tactic| (refine ⟨?no, fun _ => ?_⟩; (case no => k_call_by "no" 0)))
local macro_rules | `(tactic| k_call_by "T" 0) => `(tactic| (refine ⟨fun _ => ?_, ?no⟩; (case no => k_call_by "no" 0)))
local macro_rules | `(tactic| k_call_by "s" 0) => `(tactic| (refine w_cons ?_; k_call_by "w" 0))
local macro_rules | `(tactic| k_call_by "l" 0) => `(tactic| repeat (first | with_reducible refine ea_cons ?_ (by with_unfolding_all rfl) | with_reducible refine ea_nil ?_ | with_reducible refine ev_lst ?_ | with_reducible refine ev_tup ?_ | with_reducible refine ev_int ?_ | with_reducible refine ev_neg ?_ | refine ⟨Nat.le_of_ble_eq_true rfl, ?_⟩ | refine ⟨_, rfl, ?_⟩))
section
variable {P : Program} {w : World} {K : PySem.W.Frag} {mg : Str → Option Value} {base : Heap}
def sp_l_span_over : SpecD := fun ds R => ∃ (p : Addr) (f i : Rat) (m : Int), ds = [.s (.ref p), Fq f, Fq i, .int m] ∧ 0 < i ∧ Q.B 200 f ∧ Q.B 20 i ∧ 0 ≤ m ∧ m < 2 ^ 12 ∧ ∀ a b : Rat, Q.B 300 a → Q.B 300 b → a ≤ b → R (.tup [Fq a, Fq b])
theorem kn_l_span_over (T : Tc K mg) : Kn P w K mg base CX0 "_law_span_over" 4 (spG K [] (stc K) sp_l_span_over) :=
  T.d_l_span_over.kn (ps := ["_law_store_here", "_law_first", "_law_interval", "_law_many_here"]) (fun _ _ _ _ _ _ us hl => match us, hl with | [_, _, _, _], _ => rfl) fun f fd F => def_okW F sc_l_span_over (fun ds R h => by obtain ⟨_, _, _, _, rfl, _⟩ := h; rfl) fun X hx sc G H ds R h => by
    obtain ⟨p, f, i, m, rfl, hi, bf, bi, hm0, hm1, hR⟩ := h
    refine w_cons ?_
    with_reducible refine w_asg 4 rfl rfl rfl ?_ (by with_unfolding_all rfl)
    with_reducible refine w_call 0 (kn_l_plus T) rfl rfl ?_ (by with_unfolding_all rfl) (by with_unfolding_all rfl)
    k_call_by "v" 0
    k_call_by "n" 0
    with_reducible refine ea_cons ?_ (by with_unfolding_all rfl)
    with_reducible refine w_call 1 (kn_l_times T) rfl rfl ?_ (by with_unfolding_all rfl) (by with_unfolding_all rfl)
    k_call_by "v" 0
    k_call_by "n" 0
    refine ea_cons (ev_tup (ea_cons ?_)) (by with_unfolding_all rfl)
    with_reducible refine w_callW 2 (kn_l_whole T) rfl rfl ?_ (by with_unfolding_all rfl) (by with_unfolding_all rfl)
    k_call_by "w" 0
    refine ⟨List.Sublist.refl _, .inl rfl, p, 6, rfl, by decide, Nat.lt_of_lt_of_le (by decide : 6 < 2 ^ 4) (Nat.pow_le_pow_right (by omega) (by omega)), fun n n0 n1 => ?_⟩
    k_call_by "w" 0
    have bn : Q.B 4 ((n : Int) : Rat) := Q.B.ofInt (a := 3) (by omega)
    refine ⟨i, (n : Rat), by rw [iF], bq bi, bq bn, ?_⟩
    k_call_by "w" 0
    refine ⟨bq bf, bq (bi.mul bn), ?_⟩
    have bb := bf.add (bi.mul bn)
    generalize f + i * (n : Rat) = g at bb
    k_call_by "s" 0
    refine ⟨fun hc => ?_, fun hc => ?_⟩
    · with_reducible refine w_cons ?_
      with_reducible refine w_asg 5 rfl rfl rfl ?_ (by with_unfolding_all rfl)
      with_reducible refine w_callW 3 (kn_l_pick T) rfl rfl ?_ (by with_unfolding_all rfl) (by with_unfolding_all rfl)
      with_reducible refine ea_cons ?_ (by with_unfolding_all rfl)
      k_call_by "n" 0
      k_call_by "l" 0
      refine ⟨List.Sublist.refl _, .inl rfl, p, _, rfl, Nat.le_of_ble_eq_true rfl, Nat.le_of_ble_eq_true rfl, fun x hx => ?_⟩
      obtain ⟨e, e', rfl, hee, be, be'⟩ := ends_ok hx
      with_reducible refine w_cons ?_
      with_reducible refine w_ret ?_
      with_reducible refine ev_tup ?_
      with_reducible refine ea_cons ?_ (by with_unfolding_all rfl)
      with_reducible refine w_call 0 (kn_l_plus T) rfl rfl ?_ (by with_unfolding_all rfl) (by with_unfolding_all rfl)
      k_call_by "v" 0
      k_call_by "n" 0
      with_reducible refine ea_cons ?_ (by with_unfolding_all rfl)
      with_reducible refine w_call 1 (kn_l_times T) rfl rfl ?_ (by with_unfolding_all rfl) (by with_unfolding_all rfl)
      k_call_by "v" 0
      k_call_by "n" 0
      k_call_by "w" 0
      refine ⟨bq bi, bq be, ?_⟩
      k_call_by "w" 0
      refine ⟨bq bb, bq (bi.mul be), ?_⟩
      with_reducible refine ea_cons ?_ (by with_unfolding_all rfl)
      with_reducible refine w_call 0 (kn_l_plus T) rfl rfl ?_ (by with_unfolding_all rfl) (by with_unfolding_all rfl)
      k_call_by "v" 0
      k_call_by "n" 0
      with_reducible refine ea_cons ?_ (by with_unfolding_all rfl)
      with_reducible refine w_call 1 (kn_l_times T) rfl rfl ?_ (by with_unfolding_all rfl) (by with_unfolding_all rfl)
      k_call_by "v" 0
      k_call_by "n" 0
      k_call_by "w" 0
      refine ⟨bq bi, bq be', ?_⟩
      k_call_by "w" 0
      refine ⟨bq bb, bq (bi.mul be'), ?_⟩
      k_call_by "w" 0
      refine ⟨List.Sublist.refl _, hR _ _ ((bb.add (bi.mul be)).mono (by decide)) ((bb.add (bi.mul be')).mono (by decide)) ?_⟩
      have := Rat.mul_le_mul_of_nonneg_left hee (Rat.le_of_lt hi)
      grind
    · have hc : ¬ m < 1 := of_decide_eq_false hc
      with_reducible refine w_nil ?_
      with_reducible refine w_cons ?_
      with_reducible refine w_asg 6 rfl rfl rfl ?_ (by with_unfolding_all rfl)
      have bm : Q.B 13 ((m - 1 : Int) : Rat) := Q.B.ofInt (a := 12) (by omega)
      with_reducible refine w_call 0 (kn_l_plus T) rfl rfl ?_ (by with_unfolding_all rfl) (by with_unfolding_all rfl)
      k_call_by "v" 0
      k_call_by "n" 0
      with_reducible refine ea_cons ?_ (by with_unfolding_all rfl)
      with_reducible refine w_call 1 (kn_l_times T) rfl rfl ?_ (by with_unfolding_all rfl) (by with_unfolding_all rfl)
      k_call_by "w" 0
      refine ⟨i, ((m - 1 : Int) : Rat), by rw [iF], bq bi, bq bm, ?_⟩
      k_call_by "w" 0
      refine ⟨bq bb, bq (bi.mul bm), ?_⟩
      have bl := bb.add (bi.mul bm)
      have hml : (0 : Rat) ≤ i * ((m - 1 : Int) : Rat) := Rat.mul_nonneg (Rat.le_of_lt hi) (by exact_mod_cast (show (0 : Int) ≤ m - 1 by omega))
      generalize i * ((m - 1 : Int) : Rat) = y at bl hml
      with_reducible refine w_cons ?_
      with_reducible refine w_asg 7 rfl rfl rfl ?_ (by with_unfolding_all rfl)
      with_reducible refine ev_lst ?_
      k_call_by "l" 0
      with_reducible refine w_cons ?_
      with_reducible refine w_asg 8 rfl rfl rfl ?_ (by with_unfolding_all rfl)
      with_reducible refine w_call 1 (kn_l_times T) rfl rfl ?_ (by with_unfolding_all rfl) (by with_unfolding_all rfl)
      k_call_by "v" 0
      k_call_by "n" 0
      with_reducible refine ea_cons ?_ (by with_unfolding_all rfl)
      with_reducible refine w_callW 3 (kn_l_pick T) rfl rfl ?_ (by with_unfolding_all rfl) (by with_unfolding_all rfl)
      with_reducible refine ea_cons ?_ (by with_unfolding_all rfl)
      k_call_by "n" 0
      with_reducible refine ea_cons ?_ (by with_unfolding_all rfl)
      k_call_by "n" 0
      with_reducible refine ea_nil ?_
      refine ⟨List.Sublist.refl _, .inl rfl, p, _, rfl, Nat.le_of_ble_eq_true rfl, Nat.le_of_ble_eq_true rfl, fun x hx => ?_⟩
      obtain ⟨e, rfl, he0, be⟩ := shares_ok hx
      k_call_by "w" 0
      refine ⟨bq bi, bq be, ?_⟩
      with_reducible refine w_cons ?_
      with_reducible refine w_ret ?_
      with_reducible refine ev_tup ?_
      with_reducible refine ea_cons ?_ (by with_unfolding_all rfl)
      with_reducible refine w_call 4 (kn_l_minus T) rfl rfl ?_ (by with_unfolding_all rfl) (by with_unfolding_all rfl)
      k_call_by "w" 0
      refine ⟨bq bb, bq (bi.mul be), ?_⟩
      with_reducible refine ea_cons ?_ (by with_unfolding_all rfl)
      with_reducible refine w_call 0 (kn_l_plus T) rfl rfl ?_ (by with_unfolding_all rfl) (by with_unfolding_all rfl)
      k_call_by "v" 0
      k_call_by "n" 0
      with_reducible refine ea_cons ?_ (by with_unfolding_all rfl)
      with_reducible refine w_call 1 (kn_l_times T) rfl rfl ?_ (by with_unfolding_all rfl) (by with_unfolding_all rfl)
      k_call_by "v" 0
      k_call_by "n" 0
      with_reducible refine ea_cons ?_ (by with_unfolding_all rfl)
      with_reducible refine w_callW 3 (kn_l_pick T) rfl rfl ?_ (by with_unfolding_all rfl) (by with_unfolding_all rfl)
      with_reducible refine ea_cons ?_ (by with_unfolding_all rfl)
      k_call_by "n" 0
      with_reducible refine ea_cons ?_ (by with_unfolding_all rfl)
      k_call_by "n" 0
      with_reducible refine ea_nil ?_
      refine ⟨List.Sublist.refl _, .inl rfl, p, _, rfl, Nat.le_of_ble_eq_true rfl, Nat.le_of_ble_eq_true rfl, fun x hx => ?_⟩
      obtain ⟨e', rfl, he0', be'⟩ := shares_ok hx
      k_call_by "w" 0
      refine ⟨bq bi, bq be', ?_⟩
      k_call_by "w" 0
      refine ⟨bq bl, bq (bi.mul be'), ?_⟩
      k_call_by "w" 0
      refine ⟨List.Sublist.refl _, hR _ _ ((bb.sub (bi.mul be)).mono (by decide)) ((bl.add (bi.mul be')).mono (by decide)) ?_⟩
      have h1 := Rat.mul_nonneg (Rat.le_of_lt hi) he0
      have h2 := Rat.mul_nonneg (Rat.le_of_lt hi) he0'
      grind
def sp_l_cycle : SpecD := fun ds R => ∃ p : Addr, ds = [.s (.ref p)] ∧ ∀ r s : Rat, Q.B 8 r → Q.B 8 s → 0 ≤ s → s < 1 → R (pr r s)
theorem kn_l_cycle (T : Tc K mg) : Kn P w K mg base CX0 "_law_cycle" 4 (spG K [] (stc K) sp_l_cycle) :=
  T.d_l_cycle.kn (ps := ["_law_store_here"]) (fun _ _ _ _ _ _ us hl => match us, hl with | [_], _ => rfl) fun f fd F => def_okW F sc_l_cycle (fun ds R h => by obtain ⟨_, rfl, _⟩ := h; rfl) fun X hx sc G H ds R h => by
    obtain ⟨p, rfl, hR⟩ := h
    refine w_cons ?_
    with_reducible refine w_if ?_
    with_reducible refine et_eq ?_
    with_reducible refine w_take 0 T rfl rfl (List.Sublist.refl _) ?_ (by with_unfolding_all rfl) (by with_unfolding_all rfl) (by with_unfolding_all rfl)
    k_call_by "n" 0
    refine ⟨rfl, ev_int ⟨16, rfl, sm9 (by decide), fun r r0 r1 => ?_⟩⟩
    k_call_by "v" 0
    refine ⟨_, _, rfl, rfl, rfl, fun _ => ?_, fun _ => ?_⟩
    · with_reducible refine w_cons ?_
      with_reducible refine w_ret ?_
      with_reducible refine ev_tup ?_
      k_call_by "w" 0
      with_reducible refine w_callW 1 (kn_l_place T) rfl rfl ?_ (by with_unfolding_all rfl) (by with_unfolding_all rfl)
      k_call_by "w" 0
      refine ⟨List.Sublist.refl _, .inl rfl, p, rfl, fun q hq q0 q1 => ?_⟩
      k_call_by "w" 0
      refine ⟨List.Sublist.refl _, ?_⟩
      rw [iF]
      exact hR 0 q ⟨by decide, by decide⟩ hq q0 q1
    · with_reducible refine w_nil ?_
      with_reducible refine w_cons ?_
      with_reducible refine w_ret ?_
      with_reducible refine ev_tup ?_
      with_reducible refine ea_cons ?_ (by with_unfolding_all rfl)
      with_reducible refine w_callW 2 (kn_l_frac T) rfl rfl ?_ (by with_unfolding_all rfl) (by with_unfolding_all rfl)
      k_call_by "w" 0
      refine ⟨List.Sublist.refl _, .inl rfl, p, rfl, fun r hr => ?_⟩
      with_reducible refine ea_cons ?_ (by with_unfolding_all rfl)
      with_reducible refine w_callW 1 (kn_l_place T) rfl rfl ?_ (by with_unfolding_all rfl) (by with_unfolding_all rfl)
      k_call_by "w" 0
      refine ⟨List.Sublist.refl _, .inl rfl, p, rfl, fun q hq q0 q1 => ?_⟩
      k_call_by "w" 0
      exact ⟨List.Sublist.refl _, hR r q hr hq q0 q1⟩
/-- a shade whose starts are places -/
def Sd.Pl (S : Sd) : Prop := (0 ≤ S.sl ∧ S.sl < 1) ∧ (0 ≤ S.sc ∧ S.sc < 1) ∧ 0 ≤ S.sn ∧ S.sn < 1
structure Sd.Gd (S : Sd) : Prop where
  ok : S.Ok
  pl : S.Pl
  rl : Q.B 8 S.rl
  i : Q.B 20 S.i
  z : Q.B 60 S.z
def sp_l_shade : SpecD := fun ds R => ∃ p : Addr, ds = [.s (.ref p)] ∧ ∀ S : Sd, S.Gd → R (shT S)
theorem kn_l_shade (T : Tc K mg) : Kn P w K mg base CX0 "_law_shade" 5 (spG K [] (stc K) sp_l_shade) :=
  T.d_l_shade.kn (ps := ["_law_store_here"]) (fun _ _ _ _ _ _ us hl => match us, hl with | [_], _ => rfl) fun f fd F => def_okW F sc_l_shade (fun ds R h => by obtain ⟨_, rfl, _⟩ := h; rfl) fun X hx sc G H ds R h => by
    obtain ⟨p, rfl, hR⟩ := h
    refine w_cons ?_
    with_reducible refine w_asg 1 rfl rfl rfl ?_ (by with_unfolding_all rfl)
    with_reducible refine w_callW 0 (kn_l_cycle T) rfl rfl ?_ (by with_unfolding_all rfl) (by with_unfolding_all rfl)
    k_call_by "w" 0
    refine ⟨List.Sublist.refl _, .inl rfl, p, rfl, fun rl sl brl bsl hsl0 hsl1 => ?_⟩
    with_reducible refine w_cons ?_
    with_reducible refine w_asg 2 rfl rfl rfl ?_ (by with_unfolding_all rfl)
    with_reducible refine ev_tup ?_
    with_reducible refine ea_cons ?_ (by with_unfolding_all rfl)
    with_reducible refine w_call 1 (kn_l_plus T) rfl rfl ?_ (by with_unfolding_all rfl) (by with_unfolding_all rfl)
    k_call_by "w" 0
    with_reducible refine w_callW 2 (kn_l_no_zero T) rfl rfl ?_ (by with_unfolding_all rfl) (by with_unfolding_all rfl)
    k_call_by "w" 0
    refine ⟨List.Sublist.refl _, .inl rfl, p, rfl, fun nz bnz hnz => ?_⟩
    k_call_by "w" 0
    refine ⟨bq brl, bq bnz, ?_⟩
    with_reducible refine ea_cons ?_ (by with_unfolding_all rfl)
    with_reducible refine w_callW 3 (kn_l_place T) rfl rfl ?_ (by with_unfolding_all rfl) (by with_unfolding_all rfl)
    k_call_by "w" 0
    refine ⟨List.Sublist.refl _, .inl rfl, p, rfl, fun sc bsc hsc0 hsc1 => ?_⟩
    k_call_by "w" 0
    skip
    with_reducible refine w_asg 3 rfl rfl rfl ?_ (by with_unfolding_all rfl)
    with_reducible refine w_callW 0 (kn_l_cycle T) rfl rfl ?_ (by with_unfolding_all rfl) (by with_unfolding_all rfl)
    k_call_by "w" 0
    refine ⟨List.Sublist.refl _, .inl rfl, p, rfl, fun rn sn brn bsn hsn0 hsn1 => ?_⟩
    with_reducible refine w_cons ?_
    with_reducible refine w_asg 4 rfl rfl rfl ?_ (by with_unfolding_all rfl)
    with_reducible refine w_take 4 T rfl rfl (List.Sublist.refl _) ?_ (by with_unfolding_all rfl) (by with_unfolding_all rfl) (by with_unfolding_all rfl)
    k_call_by "n" 0
    refine ⟨rfl, ev_int ⟨4, rfl, sm9 (by decide), fun r r0 r1 => ?_⟩⟩
    refine cutM (fun ω δ => ω = [Cell.inv X.K p StOk] ∧ ∃ (rn sn : Rat) (k : D), Q.B 20 rn ∧ Q.B 8 sn ∧ 0 ≤ sn ∧ sn < 1 ∧ δ = [some (.s (.ref p)), some (pr rl sl), some (pr (rl + nz) sc), some (pr rn sn), some k]) ?_ ?_
    · have hK : X.K = K := hx.K
      with_reducible refine w_if ?_
      k_call_by "w" 0
      refine ⟨rfl, fun hc => ?_, fun hc => ?_⟩
      · with_reducible refine w_cons ?_
        with_reducible refine w_asg 3 rfl rfl rfl ?_ (by with_unfolding_all rfl)
        with_reducible refine ev_tup ?_
        k_call_by "w" 0
        exact ⟨by rw [hK]; rfl, rl, sn, _, brl.mono (by decide), bsn, hsn0, hsn1, rfl⟩
      · with_reducible refine w_cons ?_
        with_reducible refine w_if ?_
        k_call_by "w" 0
        refine ⟨rfl, fun hc => ?_, fun hc => ?_⟩
        · with_reducible refine w_cons ?_
          with_reducible refine w_asg 3 rfl rfl rfl ?_ (by with_unfolding_all rfl)
          with_reducible refine ev_tup ?_
          with_reducible refine ea_cons ?_ (by with_unfolding_all rfl)
          with_reducible refine w_call 1 (kn_l_plus T) rfl rfl ?_ (by with_unfolding_all rfl) (by with_unfolding_all rfl)
          k_call_by "w" 0
          with_reducible refine w_call 5 (kn_l_lowest T) rfl rfl ?_ (by with_unfolding_all rfl) (by with_unfolding_all rfl)
          with_reducible refine ea_cons ?_ (by with_unfolding_all rfl)
          with_reducible refine ev_sub ?_
          with_reducible refine w_take 4 T rfl rfl (List.Sublist.refl _) ?_ (by with_unfolding_all rfl) (by with_unfolding_all rfl) (by with_unfolding_all rfl)
          k_call_by "n" 0
          refine ⟨rfl, ev_int ⟨25, rfl, sm9 (by decide), fun r2 r20 r21 => ?_⟩⟩
          k_call_by "w" 0
          refine ⟨by omega, sm9 (by omega), ?_⟩
          have bk : Q.B 5 (Rat.divInt (r2 - 12) 12) := Q.B.low (by omega) (by omega) (by omega)
          k_call_by "w" 0
          refine ⟨bq brl, bq bk, ?_⟩
          k_call_by "w" 0
          exact ⟨by rw [hK]; rfl, _, sl, _, (brl.add bk).mono (by decide), bsl, hsl0, hsl1, rfl⟩
        · k_call_by "w" 0
          exact ⟨by rw [hK]; rfl, rn, sn, _, brn.mono (by decide), bsn, hsn0, hsn1, rfl⟩
    · rintro ω δ ⟨rfl, rn, sn, k, brn, bsn, hsn0, hsn1, rfl⟩
      have hK : X.K = K := hx.K
      with_reducible refine w_cons ?_
      with_reducible refine w_ret ?_
      with_reducible refine ev_tup ?_
      k_call_by "w" 0
      with_reducible refine w_callW 6 (kn_l_below T) rfl rfl ?_ (by with_unfolding_all rfl) (by with_unfolding_all rfl)
      k_call_by "w" 0
      refine ⟨by rw [hK]; exact List.Sublist.refl _, .inl rfl, p, rfl, fun wd bw hw0 hw4 => ?_⟩
      k_call_by "w" 0
      have er : (rl + nz) - rl = nz := by grind
      refine ⟨by rw [hK]; exact List.Sublist.refl _, hR ⟨rl, sl, rl + nz, sc, rn, sn, wd⟩ ⟨⟨?_, brl.mono (by decide), bsl.mono (by decide), (brl.add bnz).mono (by decide), bsc.mono (by decide), brn.mono (by decide), bsn.mono (by decide), bw.mono (by decide), hw0, hw4⟩, ⟨⟨hsl0, hsl1⟩, ⟨hsc0, hsc1⟩, hsn0, hsn1⟩, brl, ?_, ?_⟩⟩
      · show (rl + nz) - rl ≠ 0
        rw [er]; exact hnz
      · show Q.B 20 (ivl ((rl + nz) - rl))
        rw [er]; exact ivl_bd' hnz bnz
      · show Q.B 60 (zmo ((rl + nz) - rl) (sc - sl))
        rw [er]; exact zmo_bd' hnz bnz (bsc.sub bsl)
end
end Wh

set_option Elab.async false
set_option linter.all false
set_option maxRecDepth 100000
set_option maxHeartbeats 4000000
namespace Wh
open PySem L2 PyProof.Rows DL
theorem offs_ok {x : D} (h : x ∈ ([.tup [.int 0, .int 1], .tup [.int 1, .int 1], .tup [.int (-1), .int 1], .tup [.int 1, .int 2], .tup [.int (-11), .int 12]] : List D)) : ∃ e : Rat, x = Fq e ∧ Q.B 4 e := by
  simp only [List.mem_cons, List.not_mem_nil, or_false] at h
  rcases h with rfl | rfl | rfl | rfl | rfl
  · exact ⟨_, lit 0 1 (by decide) (by decide), by decide +kernel, by decide +kernel⟩
  · exact ⟨_, lit 1 1 (by decide) (by decide), by decide +kernel, by decide +kernel⟩
  · exact ⟨_, lit (-1) 1 (by decide) (by decide), by decide +kernel, by decide +kernel⟩
  · exact ⟨_, lit 1 2 (by decide) (by decide), by decide +kernel, by decide +kernel⟩
  · exact ⟨_, lit (-11) 12 (by decide) (by decide), by decide +kernel, by decide +kernel⟩
theorem max_bd {x y : Int} {k : Nat} (hx : x.natAbs < 2 ^ k) (hy : y.natAbs < 2 ^ k) : (max 1 (y - x + 1)).natAbs < 2 ^ (k + 2) := by
  have e1 : (2 : Nat) ^ (k + 2) = 2 ^ k + 2 ^ k + 2 ^ k + 2 ^ k := by rw [Nat.pow_succ, Nat.pow_succ]; omega
  omega
theorem add_bd {x r m : Int} {k : Nat} (hx : x.natAbs < 2 ^ k) (hm : m.natAbs < 2 ^ (k + 2)) (h0 : 0 ≤ r) (h1 : r < m ∨ r = 0) : (x + r).natAbs < 2 ^ (k + 3) := by
  have e1 : (2 : Nat) ^ (k + 2) = 2 ^ k + 2 ^ k + 2 ^ k + 2 ^ k := by rw [Nat.pow_succ, Nat.pow_succ]; omega
  have e2 : (2 : Nat) ^ (k + 3) = 2 ^ (k + 2) + 2 ^ (k + 2) := by rw [Nat.pow_succ]; omega
  omega
theorem part_small {q : Rat} (h : q.den < 10 ^ 40) : Q.B 140 (Q.part q) := by
  have hd : (Q.part q).den = q.den := (Q.part_nd q).2
  have hn : (Q.part q).num = q.num % (q.den : Int) := (Q.part_nd q).1
  have h1 := Int.emod_nonneg q.num (Q.den_ne q)
  have h2 := Int.emod_lt_of_pos q.num (Q.den_pos q)
  have e : 10 ^ 40 < 2 ^ 140 := by decide
  refine ⟨?_, by rw [hd]; omega⟩
  rw [hn]
  omega
/-- the shade with another node -/
def Sd.node (S : Sd) (rn sn : Rat) : Sd := ⟨S.rl, S.sl, S.rc, S.sc, rn, sn, S.w⟩
theorem Sd.node_gd {S : Sd} (h : S.Gd) {rn sn : Rat} (h1 : Q.B 40 rn) (h2 : Q.B 140 sn) (h3 : 0 ≤ sn) (h4 : sn < 1) : (S.node rn sn).Gd :=
  ⟨⟨h.ok.r0, h.ok.rl, h.ok.sl, h.ok.rc, h.ok.sc, h1, h2, h.ok.w, h.ok.w0, h.ok.w4⟩, ⟨h.pl.1, h.pl.2.1, h3, h4⟩, h.rl, h.i, h.z⟩
local macro_rules | `(tactic| k_call_by "n" 0) => `(tactic| ((with_reducible refine' nm_ix rfl ?na ?nb ?nc ?nd); (case na => (repeat (first | with_reducible exact ix0 | with_reducible apply ixS))); (case nb => rfl); (case nc => rfl)))
local macro_rules | `(tactic| k_call_by "v" 0) => `(tactic| first
  | with_reducible refine w_cons ?_
  | with_reducible refine w_nil ?_
  | with_reducible refine w_ret ?_
  | with_reducible refine w_if ?_
  | with_reducible refine ea_cons ?_ (by with_unfolding_all rfl)
  | with_reducible refine ea_nil ?_
  | k_call_by "n" 0
  | with_reducible refine ev_int ?_ | with_reducible refine ev_bl ?_ | with_reducible refine ev_non ?_ | with_reducible refine ev_str ?_
  | with_reducible refine ev_add ?_
  | with_reducible refine ev_sub ?_
  | with_reducible refine ev_mul ?_
  | with_reducible refine ev_fdiv ?_
  | with_reducible refine ev_mod ?_
  | with_reducible refine ev_neg ?_
  | with_reducible refine ev_tup ?_
  | with_reducible refine et_lt ?_ | with_reducible refine et_le ?_ | with_reducible refine et_gt ?_ | with_reducible refine et_ge ?_
  | with_reducible refine ev_lt ?_ | with_reducible refine ev_le ?_ | with_reducible refine ev_gt ?_ | with_reducible refine ev_ge ?_
  | with_reducible refine et_ne ?_ | with_reducible refine et_eq ?_ | with_reducible refine ev_ne ?_ | with_reducible refine ev_eq ?_
  | with_reducible refine et_isN ?_ | with_reducible refine et_notN ?_
  | with_reducible refine et_not ?_
  | with_reducible refine et_and ?_ | with_reducible refine et_or ?_
  | with_reducible refine ew_and ?_ | with_reducible refine ew_or ?_
  | with_reducible refine ew_and1 ?_ | with_reducible refine ew_or1 ?_
  | with_reducible refine ev_and ?_ | with_reducible refine ev_or ?_ | with_reducible refine ev_one ?_ | with_reducible refine ev_not ?_
  | with_reducible refine ev_ifExp ?_
  | with_reducible refine et_call ?_
  | with_reducible refine ev_ixT ?_ (by with_unfolding_all exact fun _ _ => rfl)
  | with_reducible refine ⟨_, _, rfl, rfl, ?_⟩)
local macro_rules | `(tactic| k_call_by "w" 0) => `(tactic| repeat (first | k_call_by "v" 0 | refine ⟨Nat.le_of_ble_eq_true rfl, ?_⟩ | (refine ⟨?no, fun _ => ?_⟩; (case no => intro z; contradiction)) | (refine ⟨fun _ => ?_, ?no⟩; (case no => intro z; contradiction)) | refine ⟨_, rfl, ?_⟩ | refine ⟨_, _, _, rfl, rfl, rfl, ?_⟩ | refine ⟨_, _, rfl, ?_⟩ | refine ⟨_, _, _, rfl, ?_⟩ | refine ⟨_, _, _, _, rfl, ?_⟩))
local macro_rules | `(tactic| k_call_by "no" 0) => `(tactic| (intro z; first | (exact absurd z (by decide)) | (exact (nomatch z)) | (simp at z; done)))
local macro_rules | `(tactic| k_call_by "F" 0) => `(tactic| (refine ⟨?no, fun _ => ?_⟩; (case no => k_call_by "no" 0)))
local macro_rules | `(tactic| k_call_by "T" 0) => `(tactic| (refine ⟨fun _ => ?_, ?no⟩; (case no => k_call_by "no" 0)))
local macro_rules | `(tactic| k_call_by "s" 0) => `(tactic| (refine w_cons ?_; k_call_by "w" 0))
local macro_rules | `(tactic| k_call_by "l" 0) => `(tactic| repeat (first | with_reducible refine ea_cons ?_ (by with_unfolding_all rfl) | with_reducible refine ea_nil ?_ | with_reducible refine ev_lst ?_ | with_reducible refine ev_tup ?_ | with_reducible refine ev_int ?_ | with_reducible refine ev_neg ?_ | refine ⟨Nat.le_of_ble_eq_true rfl, ?_⟩ | refine ⟨_, rfl, ?_⟩))
section
variable {P : Program} {w : World} {K : PySem.W.Frag} {mg : Str → Option Value} {base : Heap}
def sp_l_darkened : SpecD := fun ds R => ∃ (p : Addr) (S : Sd) (a b : Rat), ds = [.s (.ref p), shT S, .tup [Fq S.z, Fq S.i], .tup [Fq a, Fq b]] ∧ S.Gd ∧ Q.B 300 a ∧ Q.B 300 b ∧ ∀ rn sn : Rat, (S.node rn sn).Gd → R (shT (S.node rn sn))
theorem kn_l_darkened (T : Tc K mg) : Kn P w K mg base CX0 "_law_darkened" 5 (spG K [] (stc K) sp_l_darkened) :=
  T.d_l_darkened.kn (ps := ["_law_store_here", "_law_shade_here", "_law_rule_here", "_law_ends"]) (fun _ _ _ _ _ _ us hl => match us, hl with | [_, _, _, _], _ => rfl) fun f fd F => def_okW F sc_l_darkened (fun ds R h => by obtain ⟨_, _, _, _, rfl, _⟩ := h; rfl) fun X hx sc G H ds R h => by
    obtain ⟨p, S, a, b, rfl, hS, ha, hb, hR⟩ := h
    have hz := hS.z
    have hi := hS.i
    have hi0 := hS.ok.i0
    have bl : (stp S.z S.i a).natAbs < 2 ^ 382 := Nat.lt_of_lt_of_le (stp_bd hz hi ha hi0) (Nat.pow_le_pow_right (by omega) (by decide))
    have bh : ((b - S.z) / S.i).floor.natAbs < 2 ^ 382 := Nat.lt_of_lt_of_le ((hb.sub hz).div hi hi0).floor (Nat.pow_le_pow_right (by omega) (by decide))
    generalize hlo : stp S.z S.i a = lo at bl
    generalize hhi : ((b - S.z) / S.i).floor = hh at bh
    refine w_cons ?_
    with_reducible refine w_unpack4 4 5 6 7 rfl rfl rfl rfl rfl rfl rfl rfl rfl ?_ (by with_unfolding_all rfl) (by with_unfolding_all rfl)
    k_call_by "n" 0
    refine ⟨_, _, _, _, rfl, ?_⟩
    with_reducible refine w_cons ?_
    with_reducible refine w_unpack2 8 9 rfl rfl rfl rfl rfl ?_ (by with_unfolding_all rfl) (by with_unfolding_all rfl)
    with_reducible refine w_call 0 (kn_l_numbers_in T) rfl rfl ?_ (by with_unfolding_all rfl) (by with_unfolding_all rfl)
    k_call_by "w" 0
    refine ⟨hi0, hz.mono (by decide), hi.mono (by decide), ha.mono (by decide), hb.mono (by decide), ?_⟩
    rw [hlo, hhi]
    refine ⟨_, _, rfl, ?_⟩
    with_reducible refine w_cons ?_
    with_reducible refine w_asg 10 rfl rfl rfl ?_ (by with_unfolding_all rfl)
    k_call_by "v" 0
    k_call_by "v" 0
    k_call_by "v" 0
    refine ⟨_, _, _, rfl, rfl, rfl, ?_⟩
    refine cutM (fun ω δ => ω = [Cell.inv X.K p StOk] ∧ ∃ (rn : Rat) (x1 x2 x3 x4 : Option D), Q.B 40 rn ∧ δ = [some (.s (.ref p)), some (shT S), some (.tup [Fq S.z, Fq S.i]), some (.tup [Fq a, Fq b]), some (pr S.rl S.sl), some (pr S.rc S.sc), some (pr S.rn S.sn), some (Fq S.w), some (.int lo), some (.int hh), some (Fq rn), x1, x2, x3, x4]) ?_ ?_
    · have hK : X.K = K := hx.K
      with_reducible refine w_if ?_
      with_reducible refine et_gt ?_
      with_reducible refine w_take 1 T rfl rfl (List.Sublist.refl _) ?_ (by with_unfolding_all rfl) (by with_unfolding_all rfl) (by with_unfolding_all rfl)
      k_call_by "n" 0
      refine ⟨rfl, ev_int ⟨3, rfl, sm9 (by decide), fun r r0 r1 => ?_⟩⟩
      k_call_by "w" 0
      refine ⟨fun hc => ?_, fun hc => ?_⟩
      · with_reducible refine w_cons ?_
        with_reducible refine w_asg 10 rfl rfl rfl ?_ (by with_unfolding_all rfl)
        with_reducible refine w_call 2 (kn_l_plus T) rfl rfl ?_ (by with_unfolding_all rfl) (by with_unfolding_all rfl)
        k_call_by "w" 0
        with_reducible refine w_call 3 (kn_l_over T) rfl rfl ?_ (by with_unfolding_all rfl) (by with_unfolding_all rfl)
        k_call_by "w" 0
        with_reducible refine w_call 4 (kn_l_lowest T) rfl rfl ?_ (by with_unfolding_all rfl) (by with_unfolding_all rfl)
        with_reducible refine ea_cons ?_ (by with_unfolding_all rfl)
        with_reducible refine ev_sub ?_
        with_reducible refine w_take 1 T rfl rfl (List.Sublist.refl _) ?_ (by with_unfolding_all rfl) (by with_unfolding_all rfl) (by with_unfolding_all rfl)
        k_call_by "n" 0
        refine ⟨rfl, ev_int ⟨25, rfl, sm9 (by decide), fun r2 r20 r21 => ?_⟩⟩
        k_call_by "w" 0
        refine ⟨by omega, sm9 (by omega), ?_⟩
        have bk : Q.B 7 (Rat.divInt (r2 - 12) 48) := Q.B.low (by omega) (by omega) (by omega)
        k_call_by "w" 0
        refine ⟨bq bk, bq hi, hi0, ?_⟩
        k_call_by "w" 0
        refine ⟨bq hS.rl, bq (bk.div hi hi0), ?_⟩
        k_call_by "w" 0
        exact ⟨by rw [hK]; rfl, _, _, _, _, _, (hS.rl.add (bk.div hi hi0)).mono (by decide), rfl⟩
      · k_call_by "w" 0
        exact ⟨by rw [hK]; rfl, S.rn, _, _, _, _, hS.ok.rn, rfl⟩
    · rintro ω δ ⟨rfl, rn, x1, x2, x3, x4, brn, rfl⟩
      have hK : X.K = K := hx.K
      have hsub : (stc K [.s (.ref p), shT S, .tup [Fq S.z, Fq S.i], .tup [Fq a, Fq b]]).Sublist [Cell.inv X.K p StOk] := by rw [hK]; exact List.Sublist.refl _
      have hsub2 : [Cell.inv K p StOk].Sublist [Cell.inv X.K p StOk] := by rw [hK]; exact List.Sublist.refl _
      have bw := hS.ok.w
      with_reducible refine w_cons ?_
      with_reducible refine w_asg 11 rfl rfl rfl ?_ (by with_unfolding_all rfl)
      with_reducible refine w_call 5 (kn_l_times T) rfl rfl ?_ (by with_unfolding_all rfl) (by with_unfolding_all rfl)
      k_call_by "v" 0
      k_call_by "n" 0
      with_reducible refine ea_cons ?_ (by with_unfolding_all rfl)
      with_reducible refine w_callW 6 (kn_l_pick T) rfl rfl ?_ (by with_unfolding_all rfl) (by with_unfolding_all rfl)
      with_reducible refine ea_cons ?_ (by with_unfolding_all rfl)
      k_call_by "n" 0
      k_call_by "l" 0
      refine ⟨hsub, .inl rfl, p, _, rfl, Nat.le_of_ble_eq_true rfl, Nat.le_of_ble_eq_true rfl, fun x hx => ?_⟩
      obtain ⟨e, rfl, be⟩ := offs_ok hx
      k_call_by "w" 0
      refine ⟨bq bw, bq be, ?_⟩
      have bo := bw.mul be
      generalize S.w * e = o at bo
      with_reducible refine w_cons ?_
      with_reducible refine w_asg 12 rfl rfl rfl ?_ (by with_unfolding_all rfl)
      with_reducible refine w_call 2 (kn_l_plus T) rfl rfl ?_ (by with_unfolding_all rfl) (by with_unfolding_all rfl)
      k_call_by "w" 0
      with_reducible refine w_call 5 (kn_l_times T) rfl rfl ?_ (by with_unfolding_all rfl) (by with_unfolding_all rfl)
      k_call_by "v" 0
      k_call_by "v" 0
      k_call_by "n" 0
      refine ev_int ?_
      refine ⟨_, _, _, rfl, rfl, rfl, ?_⟩
      with_reducible refine ea_cons ?_ (by with_unfolding_all rfl)
      with_reducible refine ev_tup ?_
      with_reducible refine ea_cons ?_ (by with_unfolding_all rfl)
      with_reducible refine ev_add ?_
      k_call_by "n" 0
      with_reducible refine w_take 1 T rfl rfl hsub2 ?_ (by with_unfolding_all rfl) (by with_unfolding_all rfl) (by with_unfolding_all rfl)
      k_call_by "n" 0
      refine ⟨rfl, w_max 7 T.b_max rfl ?_⟩
      k_call_by "w" 0
      refine ⟨smk (max_bd bl bh) (by decide), fun r r0 r1 => ?_⟩
      have bn := Q.B.ofInt (add_bd bl (max_bd bl bh) r0 r1)
      k_call_by "w" 0
      refine ⟨S.i, ((lo + r : Int) : Rat), by rw [iF], bq hi, bq bn, ?_⟩
      k_call_by "w" 0
      refine ⟨bq hz, bq (hi.mul bn), ?_⟩
      have bm := hz.add (hi.mul bn)
      generalize S.z + S.i * ((lo + r : Int) : Rat) = m at bm
      have bt := hS.ok.sl.add (hS.rl.mul bm)
      with_reducible refine w_cons ?_
      with_reducible refine w_asg 13 rfl rfl rfl ?_ (by with_unfolding_all rfl)
      with_reducible refine w_call 2 (kn_l_plus T) rfl rfl ?_ (by with_unfolding_all rfl) (by with_unfolding_all rfl)
      k_call_by "v" 0
      with_reducible refine w_call 8 (kn_l_turns T) rfl rfl ?_ (by with_unfolding_all rfl) (by with_unfolding_all rfl)
      k_call_by "w" 0
      refine ⟨bq hS.rl, bq hS.ok.sl, bq bm, bq (hS.rl.mul bm), ?_⟩
      k_call_by "w" 0
      refine ⟨bq bt, bq bo, ?_⟩
      have bto := bt.add bo
      with_reducible refine w_cons ?_
      with_reducible refine w_asg 14 rfl rfl rfl ?_ (by with_unfolding_all rfl)
      with_reducible refine w_call 9 (kn_l_part T) rfl rfl ?_ (by with_unfolding_all rfl) (by with_unfolding_all rfl)
      k_call_by "v" 0
      with_reducible refine w_call 10 (kn_l_minus T) rfl rfl ?_ (by with_unfolding_all rfl) (by with_unfolding_all rfl)
      k_call_by "v" 0
      k_call_by "n" 0
      with_reducible refine ea_cons ?_ (by with_unfolding_all rfl)
      with_reducible refine w_call 5 (kn_l_times T) rfl rfl ?_ (by with_unfolding_all rfl) (by with_unfolding_all rfl)
      k_call_by "w" 0
      refine ⟨bq brn, bq bm, ?_⟩
      k_call_by "w" 0
      refine ⟨bq bto, bq (brn.mul bm), ?_⟩
      k_call_by "w" 0
      refine ⟨bq (bto.sub (brn.mul bm)), ?_⟩
      generalize (S.sl + S.rl * m + o - rn * m) = q
      with_reducible refine w_cons ?_
      with_reducible refine w_if ?_
      with_reducible refine et_ge ?_
      k_call_by "w" 0
      with_reducible refine ev_pow ?_
      k_call_by "w" 0
      refine ⟨⟨by decide, by decide, by decide⟩, ?_⟩
      refine ⟨_, _, rfl, rfl, fun hc => ?_, fun hc => ?_⟩
      · k_call_by "w" 0
        exact ⟨hsub, hR S.rn S.sn hS⟩
      · have hc := of_decide_eq_false hc
        have hd : q.den < 10 ^ 40 := by
          have h1 : (Q.part q).den = q.den := (Q.part_nd q).2
          have h2 : ((10 : Int) ^ (40 : Int).toNat) = ((10 ^ 40 : Nat) : Int) := by decide
          rw [h1, h2] at hc
          omega
        k_call_by "w" 0
        exact ⟨hsub, hR rn (Q.part q) (Sd.node_gd hS brn (part_small hd) (Q.part_bd q).1 (Q.part_bd q).2)⟩
end
end Wh

set_option Elab.async false
set_option linter.all false
set_option maxRecDepth 100000
set_option maxHeartbeats 4000000
/-! _law_answer: how a call of the lambda ended. -/
namespace Wh
open PySem L2 PyProof.Rows DL
structure Td (K : PySem.W.Frag) (mg : Str → Option Value) : Prop extends Tc K mg where
  g_nine : ∀ x ∈ nine, mg x = some (.ref (He.ga K x))
  g_Sky : mg "SkyError" = some (.ref (He.ga K "SkyError"))
  x_sky : ∀ C ∈ (["BadValue", "TooMany"] : List Str), PySem.W.exmOne K (.ref (He.ga K C)) (.ref (He.ga K "SkyError")) = some true
  x_is : ∀ C ∈ (["BadValue", "TooMany"] : List Str), ∀ x ∈ nine, PySem.W.kitOne K (.ref (He.ga K C)) (.ref (He.ga K x)) = some false
  x_BT : PySem.W.kitOne K (.ref (He.ga K "BadValue")) (.ref (He.ga K "TooMany")) = some false
  x_TB : PySem.W.kitOne K (.ref (He.ga K "TooMany")) (.ref (He.ga K "BadValue")) = some false
  x_VE : ∀ C ∈ (["BadValue", "TooMany"] : List Str), PySem.W.kitOne K (.ref (He.ga K C)) (.type "ValueError") = some true
  x_c : ∀ C ∈ (["BadValue", "TooMany"] : List Str), ExcC K (He.ga K C)
  x_f : ∀ C ∈ (["BadValue", "TooMany"] : List Str), XfC K (He.ga K C)
/-- an error's class, its fields, what is told of it -/
def AnW (K : PySem.W.Frag) : Addr → List (Str × V) → D → Prop := fun C fs ans =>
  (∃ s : Str, C = He.ga K "BadValue" ∧ fs = [(("what" : Str), V.str s)] ∧ ans = .tup [.str "BadValue", .str s]) ∨ (∃ n : Int, C = He.ga K "TooMany" ∧ fs = [(("limit" : Str), V.int n)] ∧ ans = .tup [.str "TooMany", .int n])
def suiteOf : List Stmt := match defBody s_l_answer with
  | [.Try _ [.ExceptHandler _ _ su _] _ _ _] => su
  | _ => []
abbrev NA : List Str := ["_law_call", "e", "_law_others", "_law_rows"]
abbrev GA : List Str := ["SkyError", "isinstance", "Mismatch", "Still", "Endless", "NoName", "Taken", "Locked", "Looped", "Broken", "ReadError", "BadValue", "TooMany", "len", "ValueError"]
theorem kit_self {K : PySem.W.Frag} {a : Addr} : PySem.W.kitOne K (.ref a) (.ref a) = some true := by
  unfold PySem.W.kitOne
  rw [if_pos (by exact beq_self_eq_true _)]
local macro_rules | `(tactic| k_call_by "n" 0) => `(tactic| ((with_reducible refine' nm_ix rfl ?na ?nb ?nc ?nd); (case na => (repeat (first | with_reducible exact ix0 | with_reducible apply ixS))); (case nb => rfl); (case nc => rfl)))
local macro_rules | `(tactic| k_call_by "v" 0) => `(tactic| first
  | with_reducible refine w_cons ?_
  | with_reducible refine w_nil ?_
  | with_reducible refine w_ret ?_
  | with_reducible refine w_if ?_
  | with_reducible refine ea_cons ?_ (by with_unfolding_all rfl)
  | with_reducible refine ea_nil ?_
  | k_call_by "n" 0
  | with_reducible refine ev_int ?_ | with_reducible refine ev_bl ?_ | with_reducible refine ev_non ?_ | with_reducible refine ev_str ?_
  | with_reducible refine ev_add ?_
  | with_reducible refine ev_sub ?_
  | with_reducible refine ev_mul ?_
  | with_reducible refine ev_fdiv ?_
  | with_reducible refine ev_mod ?_
  | with_reducible refine ev_neg ?_
  | with_reducible refine ev_tup ?_
  | with_reducible refine et_lt ?_ | with_reducible refine et_le ?_ | with_reducible refine et_gt ?_ | with_reducible refine et_ge ?_
  | with_reducible refine ev_lt ?_ | with_reducible refine ev_le ?_ | with_reducible refine ev_gt ?_ | with_reducible refine ev_ge ?_
  | with_reducible refine et_ne ?_ | with_reducible refine et_eq ?_ | with_reducible refine ev_ne ?_ | with_reducible refine ev_eq ?_
  | with_reducible refine et_isN ?_ | with_reducible refine et_notN ?_
  | with_reducible refine et_not ?_
  | with_reducible refine et_and ?_ | with_reducible refine et_or ?_
  | with_reducible refine ew_and ?_ | with_reducible refine ew_or ?_
  | with_reducible refine ew_and1 ?_ | with_reducible refine ew_or1 ?_
  | with_reducible refine ev_and ?_ | with_reducible refine ev_or ?_ | with_reducible refine ev_one ?_ | with_reducible refine ev_not ?_
  | with_reducible refine ev_ifExp ?_
  | with_reducible refine et_call ?_
  | with_reducible refine ev_ixT ?_ (by with_unfolding_all exact fun _ _ => rfl)
  | with_reducible refine ⟨_, _, rfl, rfl, ?_⟩)
local macro_rules | `(tactic| k_call_by "w" 0) => `(tactic| repeat (first | k_call_by "v" 0 | refine ⟨Nat.le_of_ble_eq_true rfl, ?_⟩ | (refine ⟨?no, fun _ => ?_⟩; (case no => intro z; contradiction)) | (refine ⟨fun _ => ?_, ?no⟩; (case no => intro z; contradiction)) | refine ⟨_, rfl, ?_⟩ | refine ⟨_, _, _, rfl, rfl, rfl, ?_⟩ | refine ⟨_, _, rfl, ?_⟩ | refine ⟨_, _, _, rfl, ?_⟩ | refine ⟨_, _, _, _, rfl, ?_⟩))
local macro_rules | `(tactic| k_call_by "no" 0) => `(tactic| (intro z; first | (exact absurd z (by decide)) | (exact (nomatch z)) | (simp at z; done)))
local macro_rules | `(tactic| k_call_by "F" 0) => `(tactic| (refine ⟨?no, fun _ => ?_⟩; (case no => k_call_by "no" 0)))
local macro_rules | `(tactic| k_call_by "T" 0) => `(tactic| (refine ⟨fun _ => ?_, ?no⟩; (case no => k_call_by "no" 0)))
local macro_rules | `(tactic| k_call_by "s" 0) => `(tactic| (refine w_cons ?_; k_call_by "w" 0))
local macro_rules | `(tactic| k_call_by "l" 0) => `(tactic| repeat (first | with_reducible refine ea_cons ?_ (by with_unfolding_all rfl) | with_reducible refine ea_nil ?_ | with_reducible refine ev_lst ?_ | with_reducible refine ev_tup ?_ | with_reducible refine ev_int ?_ | with_reducible refine ev_neg ?_ | refine ⟨Nat.le_of_ble_eq_true rfl, ?_⟩ | refine ⟨_, rfl, ?_⟩))
section
variable {K : PySem.W.Frag} {mg : Str → Option Value}
theorem ans_suite (T : Td K mg) {X : Cx} (hK : X.K = K) (hmg : X.mg = mg) (hN : X.N = NA) (hsc : X.env.scope = defScope s_l_answer) (hfn : ∀ x, X.fn x = true) {a dx Cc : Addr} {oe : Obj} {pn : List (Addr × Obj)} {fs : List (Str × V)} {ans : D}
    (hA : AnW K Cc fs ans) (hz : Zc (.ref Cc) (some dx) oe) (hf : ∃ vs, oe.data = .fields vs) {G H : Hp} (hd : H dx = some (.xd fs)) {R : D → Prop} (hR : R ans) :
    BV (X.suite a ((a, oe) :: pn)) (ent G H [] []) [] [none, some (.s (.ref a)), none, none] suiteOf ⟨fun _ _ => False, fun _ d => R d, fun _ _ => False, fun _ _ => False⟩ := by
  have hC : ∃ b : Bool, Cc = He.ga K (if b = true then "BadValue" else "TooMany" : Str) ∧ ∃ v : V, fs = [((if b = true then "what" else "limit" : Str), v)] ∧ ans = .tup [.str (if b = true then "BadValue" else "TooMany" : Str), .s v] := by
    rcases hA with ⟨s, rfl, rfl, rfl⟩ | ⟨n, rfl, rfl, rfl⟩
    · exact ⟨true, rfl, .str s, rfl, rfl⟩
    · exact ⟨false, rfl, .int n, rfl, rfl⟩
  obtain ⟨b, rfl, v, rfl, rfl⟩ := hC
  have hm2 : (if b = true then "BadValue" else "TooMany" : Str) ∈ (["BadValue", "TooMany"] : List Str) := by cases b <;> simp
  have lo : LocOk 4 (X.suite a ((a, oe) :: pn)).N (X.suite a ((a, oe) :: pn)).env.scope := by show LocOk 4 X.N X.env.scope; rw [hN, hsc]; exact sc_l_answer.lo
  have nm : NamesOk 4 X.N X.env.scope := by rw [hN, hsc]; exact sc_l_answer.nm
  have g : GlobOk GA X.env.scope := by rw [hsc]; exact sc_l_answer.gl
  have n1 : X.N[1]? = some ("e" : Str) := by rw [hN]; rfl
  have n2 : X.N[2]? = some ("_law_others" : Str) := by rw [hN]; rfl
  have n3 : X.N[3]? = some ("_law_rows" : Str) := by rw [hN]; rfl
  have bi : X.mg "isinstance" = none := by rw [hmg]; exact T.b_isinstance
  have xc : ExcC X.K (He.ga K (if b = true then "BadValue" else "TooMany" : Str)) := by rw [hK]; exact T.x_c _ hm2
  have xf : XfC X.K (He.ga K (if b = true then "BadValue" else "TooMany" : Str)) := by rw [hK]; exact T.x_f _ hm2
  have isn : ∀ {ω : List Cell} {δ : DE} {R : D → Prop} (j : Nat) {x : Str} {A : Addr} {bb : Bool} {p p1 p2 pos : Pos}, GA[j]? = some x → mg x = some (.ref A) → δ[1]? = some (some (.s (.ref a))) → PySem.W.kitOne K (.ref (He.ga K (if b = true then "BadValue" else "TooMany" : Str))) (.ref A) = some bb → R (.bl bb) →
      EV (X.suite a ((a, oe) :: pn)) (ent G H [] []) ω δ (.Call (.Name "isinstance" p) [.Name "e" p1, .Name x p2] [] pos) R := by
    intro ω δ R j x A bb p p1 p2 pos hj hm hδ hk hR
    refine ev_isE (j := 1) (i := 1) (nv := 4) (Gs := GA) xc hz hf ent_pu hd g rfl bi nm rfl n1 hδ ?_
    exact ev_glob (X := X.suite a ((a, oe) :: pn)) (v := .ref A) g hj (by rw [show (X.suite a ((a, oe) :: pn)).mg = X.mg from rfl, hmg]; exact hm) rfl ⟨_, _, bb, rfl, fun u h => h, by rw [hK]; exact hk, hR⟩
  have is9 : ∀ {ω : List Cell} {δ : DE} {R : D → Prop} (j : Nat) {x : Str} {p p1 p2 pos : Pos}, GA[j]? = some x → x ∈ nine → δ[1]? = some (some (.s (.ref a))) → R (.bl false) →
      EV (X.suite a ((a, oe) :: pn)) (ent G H [] []) ω δ (.Call (.Name "isinstance" p) [.Name "e" p1, .Name x p2] [] pos) R := by
    intro ω δ R j x p p1 p2 pos hj hx hδ hR
    exact isn j hj (T.g_nine x hx) hδ (T.x_is _ hm2 x hx) hR
  have m9 : ∀ {x : Str}, nine.contains x = true → x ∈ nine := fun h => List.contains_iff_mem.mp h
  unfold suiteOf
  refine bv_cons (sv_asg lo rfl n2 (ev_lst ?_) (by rfl) (.inl (hfn _)))
  refine ea_cons (is9 2 rfl (m9 (by decide +kernel)) rfl ?_)
  refine ea_cons (is9 3 rfl (m9 (by decide +kernel)) rfl ?_)
  refine ea_cons (is9 4 rfl (m9 (by decide +kernel)) rfl ?_)
  refine ea_cons (is9 5 rfl (m9 (by decide +kernel)) rfl ?_)
  refine ea_cons (is9 6 rfl (m9 (by decide +kernel)) rfl ?_)
  refine ea_cons (is9 7 rfl (m9 (by decide +kernel)) rfl ?_)
  refine ea_cons (is9 8 rfl (m9 (by decide +kernel)) rfl ?_)
  refine ea_cons (is9 9 rfl (m9 (by decide +kernel)) rfl ?_)
  refine ea_cons (is9 10 rfl (m9 (by decide +kernel)) rfl ?_)
  refine ea_nil ⟨Nat.le_of_ble_eq_true rfl, ?_⟩
  refine bv_cons (sv_newL lo rfl n3 (ea_nil ⟨Nat.zero_le _, fun p hp => ?_⟩) (by rfl) (.inl (hfn _)))
  have kB : PySem.W.kitOne K (.ref (He.ga K (if b = true then "BadValue" else "TooMany" : Str))) (.ref (He.ga K "BadValue")) = some b := by
    cases b
    · exact T.x_TB
    · exact kit_self
  have kT : PySem.W.kitOne K (.ref (He.ga K (if b = true then "BadValue" else "TooMany" : Str))) (.ref (He.ga K "TooMany")) = some (!b) := by
    cases b
    · exact kit_self
    · exact T.x_BT
  have hno : PySem.W.findIn X.K (.ref (He.ga K (if b = true then "BadValue" else "TooMany" : Str))) (if b = true then "what" else "limit" : Str) = some none := by
    rw [hK]
    cases b
    · exact T.e_TooMany.no
    · exact T.e_BadValue.no
  refine bv_cut (fun ω δ => ω = [Cell.own X.K p (if b = true then [.tup [.str "BadValue", .s v]] else [])] ∧ δ = [none, some (.s (.ref a)), some (.lst (List.map D.bl [false, false, false, false, false, false, false, false, false])), some (.s (.ref p))]) ?_ ?_
  · refine sv_if (et_call (isn 11 rfl T.e_BadValue.g rfl kB ⟨_, rfl, fun hb => ?_, fun hb => ?_⟩))
    · subst hb
      refine bv_cons (w_append (ω1 := []) (ω2 := []) rfl (by simp) (ev_name (X := X.suite a ((a, oe) :: pn)) nm rfl n3 rfl ⟨rfl, ev_tup (ea_cons (ev_str (ea_cons ?_ (by with_unfolding_all rfl))) (by with_unfolding_all rfl))⟩))
      refine ev_xf xf hno hz hf ent_pu hd (v := v) (by simp) ?_
      refine ev_name (X := X.suite a ((a, oe) :: pn)) nm rfl n1 rfl ⟨rfl, ea_nil ⟨Nat.le_of_ble_eq_true rfl, bv_nil ⟨rfl, rfl⟩⟩⟩
    · subst hb
      exact bv_nil ⟨rfl, rfl⟩
  · rintro ω δ ⟨rfl, rfl⟩
    refine bv_cut (fun ω δ => ω = [Cell.own X.K p [.tup [.str (if b = true then "BadValue" else "TooMany" : Str), .s v]]] ∧ δ = [none, some (.s (.ref a)), some (.lst (List.map D.bl [false, false, false, false, false, false, false, false, false])), some (.s (.ref p))]) ?_ ?_
    · refine sv_if (et_call (isn 12 rfl T.e_TooMany.g rfl kT ⟨_, rfl, fun hb => ?_, fun hb => ?_⟩))
      · have hb : b = false := by cases b; rfl; cases hb
        subst hb
        refine bv_cons (w_append (ω1 := []) (ω2 := []) rfl (by simp) (ev_name (X := X.suite a ((a, oe) :: pn)) nm rfl n3 rfl ⟨rfl, ev_tup (ea_cons (ev_str (ea_cons ?_ (by with_unfolding_all rfl))) (by with_unfolding_all rfl))⟩))
        refine ev_xf xf hno hz hf ent_pu hd (v := v) (by simp) ?_
        refine ev_name (X := X.suite a ((a, oe) :: pn)) nm rfl n1 rfl ⟨rfl, ea_nil ⟨Nat.le_of_ble_eq_true rfl, bv_nil ⟨rfl, rfl⟩⟩⟩
      · have hb : b = true := by cases b; cases hb; rfl
        subst hb
        exact bv_nil ⟨rfl, rfl⟩
    · rintro ω δ ⟨rfl, rfl⟩
      refine bv_cons (sv_if (et_or (ew_or (et_ne (ev_peek List.mem_cons_self (seen_name (i := 3) rfl) fun E' => ev_len (X := X.suite a ((a, oe) :: pn)) (j := 13) g rfl (by rw [show (X.suite a ((a, oe) :: pn)).mg = X.mg from rfl, hmg]; exact T.b_len) ?_)))))
      refine ev_name (X := X.suite a ((a, oe) :: pn)) nm rfl n3 rfl ⟨_, rfl, _, rfl, ev_int ⟨_, _, rfl, rfl, rfl, ?_⟩⟩
      refine ⟨fun _ => ?_, fun z => by simp at z⟩
      refine ew_or (et_inB ?_)
      refine ev_bl (ev_name (X := X.suite a ((a, oe) :: pn)) nm rfl n2 rfl ⟨true, _, rfl, rfl, ?_⟩)
      refine ⟨fun _ => ?_, fun z => absurd z (by decide)⟩
      refine ew_or1 (et_not (et_call ?_))
      refine ev_isE (j := 1) (i := 1) (nv := 4) (Gs := GA) xc hz hf ent_pu hd g rfl bi nm rfl n1 rfl ?_
      refine ev_bltn (X := X.suite a ((a, oe) :: pn)) (j := 14) (v := .ty "ValueError") g rfl (by rw [show (X.suite a ((a, oe) :: pn)).mg = X.mg from rfl, hmg]; exact T.b_ValueError) rfl rfl (by decide +kernel) ⟨_, .type "ValueError", true, rfl, fun u h => h, by rw [hK]; exact T.x_VE _ hm2, _, rfl, ?_⟩
      refine ⟨fun z => absurd z (by decide), fun _ => bv_nil ?_⟩
      refine bv_freeze (ω1 := []) rfl hp (seen_name (i := 3) rfl) ?_
      refine bv_cons (sv_ret (ev_ixL ?_))
      refine ev_name (X := X.suite a ((a, oe) :: pn)) nm rfl n3 rfl (ev_int ⟨_, _, _, rfl, rfl, rfl, hR⟩)
end
end Wh

set_option Elab.async false
set_option linter.all false
set_option maxRecDepth 100000
set_option maxHeartbeats 4000000
namespace Wh
open PySem L2 PyProof.Rows DL
section
variable {K : PySem.W.Frag} {mg : Str → Option Value}
theorem ans_gives (T : Td K mg) {X : Cx} (hK : X.K = K) (hmg : X.mg = mg) (g : Addr) (cdv : Value) (q : Str) : LamX.GivesTo X NA "_law_answer" (defScope s_l_answer) g cdv (defBody s_l_answer) "_law_call" q (TTans K (AnW K) (He.ga K "SkyError")) := by
  subst hK hmg
  intro f c' s H Q tl act hc h
  have hgl : Gl (cxOf C8.CX0 X.prog X.w X.K X.mg X.base NA "_law_answer" (defScope s_l_answer) g cdv X.A X.stack s H C8.E0).nox "SkyError" := (sc_l_answer.gl.gl 0 "SkyError" rfl).1
  refine ⟨_, pss_one (ps_try_as (X := (cxOf C8.CX0 X.prog X.w X.K X.mg X.base NA "_law_answer" (defScope s_l_answer) g cdv X.A X.stack s H C8.E0).nox) (i := 1) (n := "e") (c := .ref (He.ga X.K "SkyError")) (Wout := fun _ _ _ _ => False)
      (tb := fun W D σ H => ∃ Ech : XK, (∀ cls d σ' H', Ech cls d H' → W cls d σ' H') ∧ σ[0]? = some (some (.ref f)) ∧ H c' = some (LamX.CodeO c' q) ∧ tl Ech H (fun v H' => [V.str "told", v].length ≤ sizeLine ∧ ∀ p, H' p = none → D.rt (.ref p) (upd H' p (.tup [.str "told", v]))))
      (ts := fun a cls d D σ H => ∃ (σ0 : L2.St) (Cc : Addr) (fs : List (Str × V)) (dx : Addr) (ans : DL.D) (G : Hp), σ = σ0.set 1 (some (.ref a)) ∧ cls = .ref Cc ∧ d = some dx ∧ H dx = some (.xd fs) ∧ AnW X.K Cc fs ans ∧ SOk (ent G H [] []) [] G H ∧ ∀ v G' H', SOk (ent G H [] []) [] G' H' → Same G G' → Rep X.K G' ans v → D.rt v H')
      rfl rfl sc_l_answer.lo.nd rfl ?_ ⟨hgl, by decide, .inl T.g_Sky⟩ LamX.takes0 (fun W pn xe tk _ => ?_) (fun a oe cls d pn hz hf => ?_)), ?_⟩
  · exact (by decide +kernel : (defScope s_l_answer).names.lookup ("e" : Str) = some NameKind.local)
  · refine ⟨fun pins s' σ H' D I h' => ?_⟩
    obtain ⟨Ech, hW, h1, h2, h3⟩ := h'
    refine (pss_one (ps_ret (pe_tup (pa_cons pe_str (pa_cons (act W pn xe Ech _ _ tk hW) pa_nil))))).run pins s' σ H' D I ?_
    exact ⟨h1, h2, h3⟩
  · refine ⟨fun pins s' σ H' D I h' => ?_⟩
    obtain ⟨σ0, Cc, fs, dx, ans, G, rfl, rfl, rfl, hd, hA, ok, k⟩ := h'
    have hlen : σ0.length = 4 := by have := I.len; rw [List.length_set] at this; exact this
    have en : EnvR X.K G [none, some (.s (.ref a)), none, none] (σ0.set 1 (some (.ref a))) := by
      refine ⟨by rw [List.length_set, hlen]; rfl, fun i d hi => ?_⟩
      match i, hi with
      | 0, hi => cases hi
      | 1, hi =>
        cases hi
        exact ⟨.ref a, List.getElem?_set_self (by rw [hlen]; decide), .s _⟩
      | 2, hi => cases hi
      | 3, hi => cases hi
      | k + 4, hi => simp at hi
    exact ans_suite T (X := (cxOf C8.CX0 X.prog X.w X.K X.mg X.base NA "_law_answer" (defScope s_l_answer) g cdv X.A X.stack s H C8.E0).nox) rfl rfl rfl rfl (fun _ => rfl) hA hz hf hd (R := fun d => d = ans) rfl _ G H' D ok en
      ⟨fun _ _ _ _ _ p => p.elim, fun ω d v G' H2 p ok' s' r' => k v G' H2 (ok'.drop (List.nil_sublist _)) s' (by subst p; exact r'), fun _ _ _ _ _ p => p.elim, fun _ _ _ _ _ p => p.elim⟩ pins s' I
  · exact ⟨EchA X.K (AnW X.K) (He.ga X.K "SkyError") Q, fun cls d σ' H' z => by
      obtain ⟨Cc, fs, dx, ans, G, e1, e2, e3, e4, e5, e6, e7⟩ := z
      exact ⟨true, e4, fun _ a _ => ⟨σ', Cc, fs, dx, ans, G, rfl, e1, e2, e3, e5, e6, e7⟩, fun z => nomatch z⟩, rfl, hc, h⟩
end
end Wh

set_option Elab.async false
set_option linter.all false
set_option maxRecDepth 100000
set_option maxHeartbeats 4000000
namespace Wh
open PySem L2 PyProof.Rows DL
theorem inv_ng {c : Rat} (h : c ≠ 0) : (-c)⁻¹ = -c⁻¹ := by
  have h1 := Q.mul_inv h
  have h2 := Q.mul_inv (i := -c) (by grind)
  have e : (-c)⁻¹ = (-c)⁻¹ * (c * c⁻¹) := by rw [h1, Rat.mul_one]
  grind
theorem div_ng {b c : Rat} (h : c ≠ 0) : b / c = (-b) / (-c) := by
  rw [Rat.div_def, Rat.div_def, inv_ng h]
  grind
theorem div_le_neg {a b c : Rat} (h : c < 0) : b / c ≤ a ↔ a * c ≤ b := by
  rw [div_ng (by grind), Q.div_le (by grind)]
  constructor <;> intro h <;> grind
theorem le_div_neg {a b c : Rat} (h : c < 0) : a ≤ b / c ↔ b ≤ a * c := by
  rw [div_ng (by grind), Q.le_div (by grind)]
  constructor <;> intro h <;> grind
theorem lea_iff {r s a b w : Rat} {k : Int} : lea r s a b w ≤ k ↔ s + r * loM r a b - w ≤ (k : Rat) := by
  unfold lea
  have : -(w - (s + r * loM r a b)).floor ≤ k ↔ -k ≤ (w - (s + r * loM r a b)).floor := by omega
  rw [this, Q.le_floor]
  push_cast
  constructor <;> intro h <;> grind
theorem mos_iff {r s a b w : Rat} {k : Int} : k ≤ mos r s a b w ↔ (k : Rat) ≤ s + r * hiM r a b + w := by
  unfold mos
  rw [Q.le_floor]
theorem cf_le {r s a w m : Rat} {k : Int} (ha : a ≤ m) : cf r s a w k ≤ m ↔ ((k : Rat) - sw r w - s) / r ≤ m := by
  unfold cf
  split
  · rename_i h
    constructor
    · intro _; grind
    · intro _; exact ha
  · exact Iff.rfl
theorem le_cl {r s b w m : Rat} {k : Int} (hb : m ≤ b) : m ≤ cl r s b w k ↔ m ≤ ((k : Rat) + sw r w - s) / r := by
  unfold cl
  split
  · rename_i h
    constructor
    · intro _; grind
    · intro _; exact hb
  · exact Iff.rfl
theorem cf_ge {r s a w : Rat} {k : Int} : a ≤ cf r s a w k := by
  unfold cf
  split
  · exact Rat.le_refl
  · grind
theorem inside {r s w m : Rat} {k : Int} (h0 : r ≠ 0) : (((k : Rat) - sw r w - s) / r ≤ m ∧ m ≤ ((k : Rat) + sw r w - s) / r) ↔ Q.ab (s + r * m - (k : Rat)) ≤ w := by
  rw [Q.ab_le]
  unfold sw
  by_cases h : r < 0
  · rw [if_pos h, div_le_neg h, le_div_neg h]
    constructor
    · rintro ⟨h1, h2⟩; constructor <;> grind
    · rintro ⟨h1, h2⟩; constructor <;> grind
  · have h' : 0 < r := by grind
    rw [if_neg h, Q.div_le h', Q.le_div h']
    constructor
    · rintro ⟨h1, h2⟩; constructor <;> grind
    · rintro ⟨h1, h2⟩; constructor <;> grind
theorem lo_le {r a b m : Rat} (h0 : r ≠ 0) (ha : a ≤ m) (hb : m ≤ b) : r * loM r a b ≤ r * m ∧ r * m ≤ r * hiM r a b := by
  unfold loM hiM
  by_cases h : 0 < r
  · rw [if_pos h, if_pos h]
    exact ⟨Rat.mul_le_mul_of_nonneg_left ha (Rat.le_of_lt h), Rat.mul_le_mul_of_nonneg_left hb (Rat.le_of_lt h)⟩
  · rw [if_neg h, if_neg h]
    have h' : 0 ≤ -r := by grind
    have h1 := Rat.mul_le_mul_of_nonneg_left ha h'
    have h2 := Rat.mul_le_mul_of_nonneg_left hb h'
    constructor <;> grind
theorem pair_le {r s a b w : Rat} {k : Int} (h0 : r ≠ 0) (hab : a ≤ b) (hw : 0 ≤ w) (h1 : lea r s a b w ≤ k) (h2 : k ≤ mos r s a b w) : cf r s a w k ≤ cl r s b w k := by
  rw [lea_iff] at h1
  rw [mos_iff] at h2
  have fl : ((k : Rat) - sw r w - s) / r ≤ ((k : Rat) + sw r w - s) / r := by
    have h : (((k : Rat) - sw r w - s) / r ≤ ((k : Rat) - s) / r ∧ ((k : Rat) - s) / r ≤ ((k : Rat) + sw r w - s) / r) := (inside h0).mpr (by
      have e : s + r * (((k : Rat) - s) / r) - (k : Rat) = 0 := by rw [Rat.div_def]; have := Q.mul_inv h0; grind
      rw [e]
      exact Q.ab_le.mpr ⟨by grind, hw⟩)
    exact Rat.le_trans h.1 h.2
  have fb : ((k : Rat) - sw r w - s) / r ≤ b := by
    unfold sw
    unfold loM at h1
    unfold hiM at h2
    by_cases h : r < 0
    · rw [if_pos h, div_le_neg h]
      rw [if_neg (by grind)] at h1
      grind
    · have h' : 0 < r := by grind
      rw [if_neg h, Q.div_le h']
      rw [if_pos h'] at h2
      grind
  have al : a ≤ ((k : Rat) + sw r w - s) / r := by
    unfold sw
    unfold loM at h1
    unfold hiM at h2
    by_cases h : r < 0
    · rw [if_pos h, le_div_neg h]
      rw [if_neg (by grind)] at h2
      grind
    · have h' : 0 < r := by grind
      rw [if_neg h, Q.le_div h']
      rw [if_pos h'] at h1
      grind
  unfold cf cl
  split <;> split <;> grind
theorem near_span {r s a b w m : Rat} (h0 : r ≠ 0) (ha : a ≤ m) (hb : m ≤ b) : (∃ k : Int, (lea r s a b w ≤ k ∧ k ≤ mos r s a b w) ∧ cf r s a w k ≤ m ∧ m ≤ cl r s b w k) ↔ Q.ab (Q.offs (s + r * m)) ≤ w := by
  rw [Q.near_iff]
  constructor
  · rintro ⟨k, _, h1, h2⟩
    rw [cf_le ha] at h1
    rw [le_cl hb] at h2
    exact ⟨k, (inside h0).mp ⟨h1, h2⟩⟩
  · rintro ⟨k, hk⟩
    obtain ⟨h1, h2⟩ := (inside h0).mpr hk
    obtain ⟨k1, k2⟩ := Q.ab_le.mp hk
    obtain ⟨l1, l2⟩ := lo_le h0 ha hb
    exact ⟨k, ⟨lea_iff.mpr (by grind), mos_iff.mpr (by grind)⟩, (cf_le ha).mpr h1, (le_cl hb).mpr h2⟩
theorem near_neg {t w : Rat} : Q.ab (Q.offs (-t)) ≤ w ↔ Q.ab (Q.offs t) ≤ w := by
  have key : ∀ t : Rat, Q.ab (Q.offs t) ≤ w → Q.ab (Q.offs (-t)) ≤ w := fun t h => by
    rw [Q.near_iff] at h ⊢
    obtain ⟨k, hk⟩ := h
    refine ⟨-k, ?_⟩
    have e : -t - ((-k : Int) : Rat) = -(t - (k : Rat)) := by push_cast; grind
    rw [e, Q.ab_neg]
    exact hk
  exact ⟨fun h => by have := key _ h; rwa [show - -t = t by grind] at this, key t⟩
theorem sg_neg {r : Rat} (h : r ≠ 0) : Q.sg (-r) = -Q.sg r := by
  unfold Q.sg
  by_cases h1 : r < 0
  · rw [if_pos h1, if_neg (by grind)]; rfl
  · rw [if_neg h1, if_pos (by grind)]
theorem ivl_neg (r : Rat) : ivl (-r) = ivl r := by unfold ivl; rw [Q.ab_neg]
theorem zmo_neg {r d : Rat} (h : r ≠ 0) : zmo (-r) (-d) = zmo r d := by
  unfold zmo
  rw [ivl_neg, sg_neg h]
  have e : (0 : Rat) - ((-Q.sg r : Int) : Rat) * -d = 0 - (Q.sg r : Rat) * d := by push_cast; grind
  rw [e]
/-- at a meeting the two cycles stand alike -/
theorem met {r d : Rat} (h : r ≠ 0) (n : Int) : ∃ k : Int, d + r * mom (zmo r d) (ivl r) n = (k : Rat) := by
  have e1 : r * ivl r = (Q.sg r : Rat) := by
    unfold ivl
    have := Q.div_ab h
    rw [Rat.div_def] at this ⊢
    grind
  unfold mom zmo Q.part
  refine ⟨-(Q.sg r * (0 - (Q.sg r : Rat) * d).floor) + n * Q.sg r, ?_⟩
  have e2 := Q.sg_sq r
  push_cast
  generalize ((0 - (Q.sg r : Rat) * d).floor : Rat) = f
  generalize (Q.sg r : Rat) = g at *
  generalize ivl r = i at *
  grind

/-! ### the spans and the rows -/
theorem whs_mem {r s a b w : Rat} {k : Int} : k ∈ whl r s a b w ↔ lea r s a b w ≤ k ∧ k ≤ mos r s a b w := by
  constructor
  · exact whl_mem
  · rintro ⟨h1, h2⟩
    have h : k ∈ whs r s a b w := by
      unfold whs
      exact List.mem_map.mpr ⟨(k - lea r s a b w).toNat, List.mem_range.mpr (by omega), by omega⟩
    unfold whl
    split
    · exact List.mem_reverse.mpr h
    · exact h
theorem lspR_le {r s a b w : Rat} (hab : a ≤ b) (hw : 0 ≤ w) : ∀ q ∈ lspR r s a b w, q.1 ≤ q.2 := by
  intro q hq
  unfold lspR at hq
  split at hq
  · split at hq
    · rw [List.mem_singleton.mp hq]; exact hab
    · cases hq
  · rename_i h0
    obtain ⟨k, hk, rfl⟩ := List.mem_map.mp hq
    obtain ⟨h1, h2⟩ := whs_mem.mp hk
    exact pair_le h0 hab hw h1 h2
theorem lspR_near {r s a b w m : Rat} (ha : a ≤ m) (hb : m ≤ b) : (∃ q ∈ lspR r s a b w, q.1 ≤ m ∧ m ≤ q.2) ↔ Q.ab (Q.offs (s + r * m)) ≤ w := by
  unfold lspR
  by_cases h0 : r = 0
  · rw [if_pos h0]
    subst h0
    have e : s + 0 * a = s + 0 * m := by grind
    rw [e]
    split
    · rename_i h
      exact ⟨fun _ => h, fun _ => ⟨_, List.mem_singleton.mpr rfl, ha, hb⟩⟩
    · rename_i h
      exact ⟨fun ⟨q, hq, _⟩ => (List.not_mem_nil hq).elim, fun z => absurd z h⟩
  · rw [if_neg h0, ← near_span h0 ha hb]
    constructor
    · rintro ⟨q, hq, h1, h2⟩
      obtain ⟨k, hk, rfl⟩ := List.mem_map.mp hq
      exact ⟨k, whs_mem.mp hk, h1, h2⟩
    · rintro ⟨k, hk, h1, h2⟩
      exact ⟨_, List.mem_map.mpr ⟨k, whs_mem.mpr hk, rfl⟩, h1, h2⟩
namespace Sd
/-- light and cover exchanged -/
def twin (S : Sd) : Sd := ⟨S.rc, S.sc, S.rl, S.sl, S.rn, S.sn, S.w⟩
variable {S : Sd}
theorem twin_r : S.twin.r = -S.r := by unfold twin r; grind
theorem twin_d : S.twin.d = -S.d := by unfold twin d; grind
theorem twin_z (h : S.Ok) : S.twin.z = S.z := by unfold z; rw [twin_r, twin_d]; exact zmo_neg h.r0
theorem twin_i : S.twin.i = S.i := by unfold i; rw [twin_r]; exact ivl_neg _
theorem twin_ok (h : S.Ok) : S.twin.Ok := ⟨by rw [twin_r]; have := h.r0; grind, h.rc, h.sc, h.rl, h.sl, h.rn, h.sn, h.w, h.w0, h.w4⟩
theorem twin_off (h : S.Ok) (n : Int) : S.twin.off n = S.off n := by
  rw [← off_eq S.twin n, ← off_eq S n, twin_z h, twin_i]
  obtain ⟨k, hk⟩ := met (d := S.d) h.r0 n
  have e1 : zmo S.r S.d = S.z := rfl
  have e2 : ivl S.r = S.i := rfl
  rw [e1, e2] at hk
  unfold Sd.r Sd.d at hk
  show Q.offs ((S.sn + S.rn * mom S.z S.i n) - (S.sc + S.rc * mom S.z S.i n)) = _
  have e : (S.sn + S.rn * mom S.z S.i n) - (S.sc + S.rc * mom S.z S.i n) = (S.sn + S.rn * mom S.z S.i n) - (S.sl + S.rl * mom S.z S.i n) + ((-k : Int) : Rat) := by
    push_cast
    grind
  rw [e, Q.offs_add]
theorem twin_c (h : S.Ok) (a b : Rat) : S.twin.c a b = S.c a b := by unfold c; rw [twin_z h, twin_i]
theorem twin_l (h : S.Ok) (a : Rat) : S.twin.l a = S.l a := by unfold l; rw [twin_z h, twin_i]
theorem twin_row (h : S.Ok) (n : Int) : S.twin.row n = S.row n := by
  unfold row
  rw [twin_off h, twin_z h, twin_i]
  rfl
theorem twin_rows (h : S.Ok) (a b : Rat) : S.twin.rows a b = S.rows a b := by
  unfold rows
  rw [twin_c h, twin_l h]
  exact List.map_congr_left fun k _ => twin_row h _
/-- dark, by the law's gap -/
theorem dark_gap (n : Int) : Q.offs ((S.sn - S.sl) + (S.rn - S.rl) * mom S.z S.i n) = S.off n := by
  rw [← off_eq S n]
  congr 1
  grind
/-- a number of the roll stands for a moment in the span -/
theorem row_in (h : S.Ok) {a b : Rat} {n : Int} (h1 : S.l a ≤ n) (h2 : n < S.l a + S.c a b) : a ≤ mom S.z S.i n ∧ mom S.z S.i n ≤ b := by
  have hp := h.ip
  unfold c cnt at h2
  unfold l stp at h1 h2
  have e1 : -n ≤ ((S.z - a) / S.i).floor := by omega
  have e2 : n ≤ ((b - S.z) / S.i).floor := by omega
  rw [Q.le_floor, Q.le_div hp] at e1 e2
  push_cast at e1
  unfold mom
  constructor <;> grind
end Sd
end Wh

set_option Elab.async false
set_option linter.all false
set_option maxRecDepth 100000
set_option maxHeartbeats 4000000
/-! Ordered, near_many. -/
namespace Wh
open PySem L2 PyProof.Rows DL
/-- the tables of code objects that the run may fill -/
def Tt (K : PySem.W.Frag) : List (Addr × Str) := [((He.cT K ("law", none)).2, (("law" : Str) ++ ".<locals>.") ++ "<lambda>"), ((He.cT K ("_law_ordered", none)).2, (("_law_ordered" : Str) ++ ".<locals>.") ++ "<lambda>"), ((He.cT K ("_law_form_right", none)).2, (("_law_form_right" : Str) ++ ".<locals>.") ++ "<lambda>")]
structure Te (K : PySem.W.Frag) (mg : Str → Option Value) (base : Heap) : Prop extends Td K mg where
  t_law : LamX.TabB base mg (He.cT K ("law", none)).1 (He.cT K ("law", none)).2
  t_ord : LamX.TabB base mg (He.cT K ("_law_ordered", none)).1 (He.cT K ("_law_ordered", none)).2
  t_frm : LamX.TabB base mg (He.cT K ("_law_form_right", none)).1 (He.cT K ("_law_form_right", none)).2
  g_ord : mg "_law_ordered" = some (.ref (He.ga K "_law_ordered"))
  g_frm : mg "_law_form_right" = some (.ref (He.ga K "_law_form_right"))
  g_law : mg "law" = some (.ref (He.ga K "law"))
  n_lo : (He.cT K ("law", none)).2 ≠ (He.cT K ("_law_ordered", none)).2
  n_lf : (He.cT K ("law", none)).2 ≠ (He.cT K ("_law_form_right", none)).2
  n_of : (He.cT K ("_law_ordered", none)).2 ≠ (He.cT K ("_law_form_right", none)).2
theorem lcm_step {S d : Int} (hS : 0 < S) (hd : 0 < d) : 0 < S / (Int.gcd S d : Int) * d ∧ S ∣ S / (Int.gcd S d : Int) * d ∧ d ∣ S / (Int.gcd S d : Int) * d := by
  have hg : (0 : Int) < (Int.gcd S d : Int) := by
    have := Int.gcd_pos_of_ne_zero_left d (show S ≠ 0 by omega)
    omega
  obtain ⟨a, ha⟩ := Int.gcd_dvd_left S d
  obtain ⟨b, hb⟩ := Int.gcd_dvd_right S d
  generalize (Int.gcd S d : Int) = g at *
  have e : S / g = a := by
    rw [ha]
    exact Int.mul_ediv_cancel_left a (by omega)
  rw [e]
  have hap : 0 < a := by
    rcases Int.lt_or_le 0 a with h | h
    · exact h
    · have : g * a ≤ 0 := Int.mul_nonpos_of_nonneg_of_nonpos (by omega) h
      omega
  refine ⟨Int.mul_pos hap hd, ⟨b, ?_⟩, ⟨a, Int.mul_comm _ _⟩⟩
  rw [ha, hb, ← Int.mul_assoc, Int.mul_comm a]
theorem lcm_bd {S d : Int} {a b : Nat} (hS : 0 < S) (hd : 0 < d) (h1 : S.natAbs < 2 ^ a) (h2 : d.natAbs < 2 ^ b) : (S / (Int.gcd S d : Int) * d).natAbs < 2 ^ (a + b) := by
  rw [Int.natAbs_mul]
  refine Q.mul_lt (Nat.lt_of_le_of_lt ?_ h1) h2
  have := Int.ediv_le_self (Int.gcd S d : Int) (Int.le_of_lt hS)
  have h0 := Int.ediv_nonneg (Int.le_of_lt hS) (show (0 : Int) ≤ (Int.gcd S d : Int) by omega)
  omega
/-- by a common bottom -/
theorem kpos_le {p q : Rat} {S : Int} (hS : 0 < S) (h1 : (p.den : Int) ∣ S) (h2 : (q.den : Int) ∣ S) : kpos p.num (p.den : Int) S ≤ kpos q.num (q.den : Int) S ↔ p ≤ q := by
  have key : ∀ x : Rat, (x.den : Int) ∣ S → ((kpos x.num (x.den : Int) S : Int) : Rat) = x * (S : Rat) := fun x ⟨c, hc⟩ => by
    have e : S / (x.den : Int) = c := by rw [hc]; exact Int.mul_ediv_cancel_left c (Q.den_ne x)
    have hn := Q.num_den x
    unfold kpos
    rw [e, hc]
    push_cast
    push_cast at hn
    rw [← hn]
    grind
  have hS' : (0 : Rat) < (S : Rat) := by exact_mod_cast hS
  rw [← Rat.intCast_le_intCast, key p h1, key q h2]
  constructor
  · intro h; exact Rat.le_of_mul_le_mul_right h hS'
  · intro h; exact Rat.mul_le_mul_of_nonneg_right h (Rat.le_of_lt hS')
theorem F2_Fq (q : Rat) : F2 q.num (q.den : Int) = Fq q := rfl
theorem mulK {i j : Int} {a b : Nat} (h1 : i.natAbs < 2 ^ a) (h2 : j.natAbs < 2 ^ b) (ha : a ≤ 400000) (hb : b ≤ 400000) : MulOk i j := .inl ⟨Nat.lt_of_lt_of_le h1 (Nat.pow_le_pow_right (by omega) ha), Nat.lt_of_lt_of_le h2 (Nat.pow_le_pow_right (by omega) hb)⟩
theorem gcd_bd' {S d : Int} {b : Nat} (hd : 0 < d) (h : d.natAbs < 2 ^ b) : 0 < (Int.gcd S d : Int) ∧ ((Int.gcd S d : Int)).natAbs < 2 ^ b := by
  have h1 := Int.gcd_pos_of_ne_zero_right S (show d ≠ 0 by omega)
  have h2 : Int.gcd S d ≤ d.natAbs := Nat.le_of_dvd (by omega) (Int.gcd_dvd_natAbs_right S d)
  omega
theorem quo_bd {S g : Int} {a : Nat} (hS : 0 < S) (hg : 0 < g) (h : S.natAbs < 2 ^ a) : (S / g).natAbs < 2 ^ a := by
  have h1 := Int.ediv_le_self g (Int.le_of_lt hS)
  have h0 := Int.ediv_nonneg (Int.le_of_lt hS) (Int.le_of_lt hg)
  omega
local macro_rules | `(tactic| k_call_by "n" 0) => `(tactic| ((with_reducible refine' nm_ix rfl ?na ?nb ?nc ?nd); (case na => (repeat (first | with_reducible exact ix0 | with_reducible apply ixS))); (case nb => rfl); (case nc => rfl)))
local macro_rules | `(tactic| k_call_by "v" 0) => `(tactic| first
  | with_reducible refine w_cons ?_
  | with_reducible refine w_nil ?_
  | with_reducible refine w_ret ?_
  | with_reducible refine w_if ?_
  | with_reducible refine ea_cons ?_ (by with_unfolding_all rfl)
  | with_reducible refine ea_nil ?_
  | k_call_by "n" 0
  | with_reducible refine ev_int ?_ | with_reducible refine ev_bl ?_ | with_reducible refine ev_non ?_ | with_reducible refine ev_str ?_
  | with_reducible refine ev_add ?_
  | with_reducible refine ev_sub ?_
  | with_reducible refine ev_mul ?_
  | with_reducible refine ev_fdiv ?_
  | with_reducible refine ev_mod ?_
  | with_reducible refine ev_neg ?_
  | with_reducible refine ev_tup ?_
  | with_reducible refine et_lt ?_ | with_reducible refine et_le ?_ | with_reducible refine et_gt ?_ | with_reducible refine et_ge ?_
  | with_reducible refine ev_lt ?_ | with_reducible refine ev_le ?_ | with_reducible refine ev_gt ?_ | with_reducible refine ev_ge ?_
  | with_reducible refine et_ne ?_ | with_reducible refine et_eq ?_ | with_reducible refine ev_ne ?_ | with_reducible refine ev_eq ?_
  | with_reducible refine et_isN ?_ | with_reducible refine et_notN ?_
  | with_reducible refine et_not ?_
  | with_reducible refine et_and ?_ | with_reducible refine et_or ?_
  | with_reducible refine ew_and ?_ | with_reducible refine ew_or ?_
  | with_reducible refine ew_and1 ?_ | with_reducible refine ew_or1 ?_
  | with_reducible refine ev_and ?_ | with_reducible refine ev_or ?_ | with_reducible refine ev_one ?_ | with_reducible refine ev_not ?_
  | with_reducible refine ev_ifExp ?_
  | with_reducible refine et_call ?_
  | with_reducible refine ev_ixT ?_ (by with_unfolding_all exact fun _ _ => rfl)
  | with_reducible refine ⟨_, _, rfl, rfl, ?_⟩)
local macro_rules | `(tactic| k_call_by "w" 0) => `(tactic| repeat (first | k_call_by "v" 0 | refine ⟨Nat.le_of_ble_eq_true rfl, ?_⟩ | (refine ⟨?no, fun _ => ?_⟩; (case no => intro z; contradiction)) | (refine ⟨fun _ => ?_, ?no⟩; (case no => intro z; contradiction)) | refine ⟨_, rfl, ?_⟩ | refine ⟨_, _, _, rfl, rfl, rfl, ?_⟩ | refine ⟨_, _, rfl, ?_⟩ | refine ⟨_, _, _, rfl, ?_⟩ | refine ⟨_, _, _, _, rfl, ?_⟩))
local macro_rules | `(tactic| k_call_by "no" 0) => `(tactic| (intro z; first | (exact absurd z (by decide)) | (exact (nomatch z)) | (simp at z; done)))
local macro_rules | `(tactic| k_call_by "F" 0) => `(tactic| (refine ⟨?no, fun _ => ?_⟩; (case no => k_call_by "no" 0)))
local macro_rules | `(tactic| k_call_by "T" 0) => `(tactic| (refine ⟨fun _ => ?_, ?no⟩; (case no => k_call_by "no" 0)))
local macro_rules | `(tactic| k_call_by "s" 0) => `(tactic| (refine w_cons ?_; k_call_by "w" 0))
local macro_rules | `(tactic| k_call_by "l" 0) => `(tactic| repeat (first | with_reducible refine ea_cons ?_ (by with_unfolding_all rfl) | with_reducible refine ea_nil ?_ | with_reducible refine ev_lst ?_ | with_reducible refine ev_tup ?_ | with_reducible refine ev_int ?_ | with_reducible refine ev_neg ?_ | refine ⟨Nat.le_of_ble_eq_true rfl, ?_⟩ | refine ⟨_, rfl, ?_⟩))
section
variable {P : Program} {w : World} {K : PySem.W.Frag} {mg : Str → Option Value} {base : Heap}
def sp_l_scale : SpecD := fun ds R => ∃ p q : Rat, ds = [.lst [Fq p, Fq q]] ∧ Q.B 900 p ∧ Q.B 900 q ∧ ∀ S : Int, 0 < S → S.natAbs < 2 ^ 1801 → (p.den : Int) ∣ S → (q.den : Int) ∣ S → R (.int S)
theorem kn_l_scale (T : Tc K mg) : Kn P w K mg base CX0 "_law_scale" 2 (spP K sp_l_scale) :=
  T.d_l_scale.kn (ps := ["_law_fracs"]) (fun _ _ _ _ _ _ us hl => match us, hl with | [_], _ => rfl) fun f fd F => def_ok F sc_l_scale (fun ds R h => by obtain ⟨_, _, rfl, _⟩ := h; rfl) fun X hx sc G H ds R h => by
    obtain ⟨p, q, rfl, hp, hq, hR⟩ := h
    have dp := Q.den_pos p
    have dq := Q.den_pos q
    have bp : ((p.den : Nat) : Int).natAbs < 2 ^ 900 := by rw [Int.natAbs_natCast]; exact hp.2
    have bq' : ((q.den : Nat) : Int).natAbs < 2 ^ 900 := by rw [Int.natAbs_natCast]; exact hq.2
    refine w_cons ?_
    with_reducible refine w_asg 1 rfl rfl rfl ?_ (by with_unfolding_all rfl)
    refine ev_int ?_
    with_reducible refine w_cons ?_
    refine w_forN 2 rfl rfl rfl (iv_list ?_)
    k_call_by "n" 0
    obtain ⟨s1, s2, s3⟩ := lcm_step (S := 1) (by decide) dp
    have s4 := lcm_bd (S := 1) (a := 1) (by decide) dp (by decide) bp
    generalize hS1 : (1 : Int) / (Int.gcd 1 (p.den : Int) : Int) * (p.den : Int) = S1 at s1 s2 s3 s4
    obtain ⟨t1, t2, t3⟩ := lcm_step s1 dq
    have t4 := lcm_bd s1 dq s4 bq'
    generalize hS2 : S1 / (Int.gcd S1 (q.den : Int) : Int) * (q.den : Int) = S2 at t1 t2 t3 t4
    refine ⟨_, rfl, fun k ω δ => ω = [] ∧ ∃ x, δ = [some (.lst [Fq p, Fq q]), some (.int (if k = 0 then 1 else if k = 1 then S1 else S2)), x], ⟨rfl, _, rfl⟩, fun k d ω δ hd hP => ?_, fun ω δ hP => ?_⟩
    · obtain ⟨rfl, x, rfl⟩ := hP
      obtain ⟨S, y, e1, rfl, y1, y2, y3, e2⟩ : ∃ (S : Int) (y : Rat), (if k = 0 then 1 else if k = 1 then S1 else S2) = S ∧ d = Fq y ∧ 0 < S ∧ S.natAbs < 2 ^ (1 + 900) ∧ ((y.den : Nat) : Int).natAbs < 2 ^ 900 ∧ S / (Int.gcd S (y.den : Int) : Int) * (y.den : Int) = (if k + 1 = 0 then 1 else if k + 1 = 1 then S1 else S2) := by
        rcases two_get hd with ⟨rfl, rfl⟩ | ⟨rfl, rfl⟩
        · exact ⟨1, p, rfl, rfl, by decide, by decide, bp, by simpa using hS1⟩
        · exact ⟨S1, q, rfl, rfl, s1, s4, bq', by simpa using hS2⟩
      rw [e1]
      have dy := Q.den_pos y
      obtain ⟨g1, g2⟩ := gcd_bd' (S := S) dy y3
      refine w_cons ?_
      with_reducible refine w_asg 1 rfl rfl rfl ?_ (by with_unfolding_all rfl)
      k_call_by "v" 0
      k_call_by "v" 0
      k_call_by "n" 0
      with_reducible refine w_call 0 (kn_l_gcd T) rfl rfl ?_ (by with_unfolding_all rfl) (by with_unfolding_all rfl)
      k_call_by "w" 0
      refine ⟨⟨g1, smk g2 (by decide)⟩, ?_⟩
      k_call_by "w" 0
      refine ⟨mulK (quo_bd y1 g1 y2) y3 (by decide) (by decide), ?_⟩
      k_call_by "w" 0
      rw [e2]
      exact ⟨rfl, _, rfl⟩
    · obtain ⟨rfl, x, rfl⟩ := hP
      k_call_by "w" 0
      exact hR S2 t1 t4 (Int.dvd_trans s3 t2) t3
end
end Wh

set_option Elab.async false
set_option linter.all false
set_option maxRecDepth 100000
set_option maxHeartbeats 4000000
namespace Wh
open PySem L2 PyProof.Rows DL
theorem pyl {S d : Int} (hd : 0 < d) (h : d.natAbs < 2 ^ 8999) : Builtin.divisionGoesByPylong S d = false := PyProof.noPylong_of_log2 (wide_div (i := S) hd h (by omega) (by omega)).2
theorem Tt_mem_ord {K : PySem.W.Frag} : ((He.cT K ("_law_ordered", none)).2, (("_law_ordered" : Str) ++ ".<locals>.") ++ "<lambda>") ∈ Tt K := by unfold Tt; simp
theorem Tt_mem_law {K : PySem.W.Frag} : ((He.cT K ("law", none)).2, (("law" : Str) ++ ".<locals>.") ++ "<lambda>") ∈ Tt K := by unfold Tt; simp
theorem Tt_mem_frm {K : PySem.W.Frag} : ((He.cT K ("_law_form_right", none)).2, (("_law_form_right" : Str) ++ ".<locals>.") ++ "<lambda>") ∈ Tt K := by unfold Tt; simp
theorem Te.uq_ord {K : PySem.W.Frag} {mg : Str → Option Value} {base : Heap} (T : Te K mg base) : ∀ p ∈ Tt K, p.1 = (He.cT K ("_law_ordered", none)).2 → p.2 = (("_law_ordered" : Str) ++ ".<locals>.") ++ "<lambda>" := by
  intro p hp e
  unfold Tt at hp
  simp only [List.mem_cons, List.not_mem_nil, or_false] at hp
  rcases hp with rfl | rfl | rfl
  · exact absurd e T.n_lo
  · rfl
  · exact absurd e.symm T.n_of
theorem Te.uq_law {K : PySem.W.Frag} {mg : Str → Option Value} {base : Heap} (T : Te K mg base) : ∀ p ∈ Tt K, p.1 = (He.cT K ("law", none)).2 → p.2 = (("law" : Str) ++ ".<locals>.") ++ "<lambda>" := by
  intro p hp e
  unfold Tt at hp
  simp only [List.mem_cons, List.not_mem_nil, or_false] at hp
  rcases hp with rfl | rfl | rfl
  · rfl
  · exact absurd e.symm T.n_lo
  · exact absurd e.symm T.n_lf
theorem Te.uq_frm {K : PySem.W.Frag} {mg : Str → Option Value} {base : Heap} (T : Te K mg base) : ∀ p ∈ Tt K, p.1 = (He.cT K ("_law_form_right", none)).2 → p.2 = (("_law_form_right" : Str) ++ ".<locals>.") ++ "<lambda>" := by
  intro p hp e
  unfold Tt at hp
  simp only [List.mem_cons, List.not_mem_nil, or_false] at hp
  rcases hp with rfl | rfl | rfl
  · exact absurd e T.n_lf
  · exact absurd e T.n_of
  · rfl
def ordR (p q : Rat) : List DL.D := if p ≤ q then (if p = q then [Fq p] else [Fq p, Fq q]) else [Fq q, Fq p]
local macro_rules | `(tactic| k_call_by "n" 0) => `(tactic| ((with_reducible refine' nm_ix rfl ?na ?nb ?nc ?nd); (case na => (repeat (first | with_reducible exact ix0 | with_reducible apply ixS))); (case nb => rfl); (case nc => rfl)))
local macro_rules | `(tactic| k_call_by "v" 0) => `(tactic| first
  | with_reducible refine w_cons ?_
  | with_reducible refine w_nil ?_
  | with_reducible refine w_ret ?_
  | with_reducible refine w_if ?_
  | with_reducible refine ea_cons ?_ (by with_unfolding_all rfl)
  | with_reducible refine ea_nil ?_
  | k_call_by "n" 0
  | with_reducible refine ev_int ?_ | with_reducible refine ev_bl ?_ | with_reducible refine ev_non ?_ | with_reducible refine ev_str ?_
  | with_reducible refine ev_add ?_
  | with_reducible refine ev_sub ?_
  | with_reducible refine ev_mul ?_
  | with_reducible refine ev_fdiv ?_
  | with_reducible refine ev_mod ?_
  | with_reducible refine ev_neg ?_
  | with_reducible refine ev_tup ?_
  | with_reducible refine et_lt ?_ | with_reducible refine et_le ?_ | with_reducible refine et_gt ?_ | with_reducible refine et_ge ?_
  | with_reducible refine ev_lt ?_ | with_reducible refine ev_le ?_ | with_reducible refine ev_gt ?_ | with_reducible refine ev_ge ?_
  | with_reducible refine et_ne ?_ | with_reducible refine et_eq ?_ | with_reducible refine ev_ne ?_ | with_reducible refine ev_eq ?_
  | with_reducible refine et_isN ?_ | with_reducible refine et_notN ?_
  | with_reducible refine et_not ?_
  | with_reducible refine et_and ?_ | with_reducible refine et_or ?_
  | with_reducible refine ew_and ?_ | with_reducible refine ew_or ?_
  | with_reducible refine ew_and1 ?_ | with_reducible refine ew_or1 ?_
  | with_reducible refine ev_and ?_ | with_reducible refine ev_or ?_ | with_reducible refine ev_one ?_ | with_reducible refine ev_not ?_
  | with_reducible refine ev_ifExp ?_
  | with_reducible refine et_call ?_
  | with_reducible refine ev_ixT ?_ (by with_unfolding_all exact fun _ _ => rfl)
  | with_reducible refine ⟨_, _, rfl, rfl, ?_⟩)
local macro_rules | `(tactic| k_call_by "w" 0) => `(tactic| repeat (first | k_call_by "v" 0 | refine ⟨Nat.le_of_ble_eq_true rfl, ?_⟩ | (refine ⟨?no, fun _ => ?_⟩; (case no => intro z; contradiction)) | (refine ⟨fun _ => ?_, ?no⟩; (case no => intro z; contradiction)) | refine ⟨_, rfl, ?_⟩ | refine ⟨_, _, _, rfl, rfl, rfl, ?_⟩ | refine ⟨_, _, rfl, ?_⟩ | refine ⟨_, _, _, rfl, ?_⟩ | refine ⟨_, _, _, _, rfl, ?_⟩))
local macro_rules | `(tactic| k_call_by "no" 0) => `(tactic| (intro z; first | (exact absurd z (by decide)) | (exact (nomatch z)) | (simp at z; done)))
local macro_rules | `(tactic| k_call_by "F" 0) => `(tactic| (refine ⟨?no, fun _ => ?_⟩; (case no => k_call_by "no" 0)))
local macro_rules | `(tactic| k_call_by "T" 0) => `(tactic| (refine ⟨fun _ => ?_, ?no⟩; (case no => k_call_by "no" 0)))
local macro_rules | `(tactic| k_call_by "s" 0) => `(tactic| (refine w_cons ?_; k_call_by "w" 0))
local macro_rules | `(tactic| k_call_by "l" 0) => `(tactic| repeat (first | with_reducible refine ea_cons ?_ (by with_unfolding_all rfl) | with_reducible refine ea_nil ?_ | with_reducible refine ev_lst ?_ | with_reducible refine ev_tup ?_ | with_reducible refine ev_int ?_ | with_reducible refine ev_neg ?_ | refine ⟨Nat.le_of_ble_eq_true rfl, ?_⟩ | refine ⟨_, rfl, ?_⟩))
section
variable {P : Program} {w : World} {K : PySem.W.Frag} {mg : Str → Option Value} {base : Heap}
def sp_l_ordered : SpecD := fun ds R => ∃ p q : Rat, ds = [.lst [Fq p, Fq q]] ∧ Q.B 900 p ∧ Q.B 900 q ∧ R (.lst (ordR p q))
theorem kn_l_ordered (T : Te K mg base) : Kn P w K mg base CX0 "_law_ordered" 4 (spG K (Tt K) noC sp_l_ordered) := by
  obtain ⟨f, fd, hm, F⟩ := T.d_l_ordered.ex
  have ef : He.fAd K ("_law_ordered", none) = f := by have := T.g_ord; rw [hm] at this; injection this with e; injection e with e; exact e.symm
  refine ⟨f, fd, ["_law_fracs"], hm, F.kp, F.bindsN (fun _ _ _ _ _ _ us hl => match us, hl with | [_], _ => rfl), def_okL (n := "_law_ordered") F sc_l_ordered (fun ds R h => by obtain ⟨_, _, rfl, _⟩ := h; rfl) ef T.t_ord Tt_mem_ord T.uq_ord fun X hx sc L G H ds R h => ?_⟩
  obtain ⟨p, q, rfl, hp, hq, hR⟩ := h
  have dp := Q.den_pos p
  have dq := Q.den_pos q
  have bp : ((p.den : Nat) : Int).natAbs < 2 ^ 900 := by rw [Int.natAbs_natCast]; exact hp.2
  have bq' : ((q.den : Nat) : Int).natAbs < 2 ^ 900 := by rw [Int.natAbs_natCast]; exact hq.2
  refine w_cons ?_
  with_reducible refine w_asg 1 rfl rfl rfl ?_ (by with_unfolding_all rfl)
  with_reducible refine w_call 0 (kn_l_scale T.toTc) rfl rfl ?_ (by with_unfolding_all rfl) (by with_unfolding_all rfl)
  k_call_by "w" 0
  refine ⟨hp, hq, fun S hS bS d1 d2 => ?_⟩
  with_reducible refine w_cons ?_
  refine w_newL 2 rfl rfl rfl ?_
  refine ea_nil ⟨Nat.zero_le _, fun a ha => ?_⟩
  with_reducible refine w_cons ?_
  refine w_forN 3 rfl rfl rfl ?_
  refine iv_list ?_
  refine ev_sortedK (k := 0) (S := S) (n1 := p.num) (d1 := (p.den : Int)) (n2 := q.num) (d2 := (q.den : Int)) 1 1 T.b_sorted rfl L rfl rfl rfl rfl rfl (by decide +kernel) (by decide +kernel) (by decide +kernel) (by rw [sc]; decide +kernel) (fun _ _ _ _ _ _ => rfl) rfl rfl rfl dp dq
    (mulK hp.1 (quo_bd hS dp bS) (by decide) (by decide)).ok (mulK hq.1 (quo_bd hS dq bS) (by decide) (by decide)).ok (pyl dp (smk bp (by decide))) (pyl dq (smk bq' (by decide))) ?_
  k_call_by "n" 0
  refine ⟨rfl, ?_⟩
  have ek : (if kpos p.num (p.den : Int) S ≤ kpos q.num (q.den : Int) S then [F2 p.num (p.den : Int), F2 q.num (q.den : Int)] else [F2 q.num (q.den : Int), F2 p.num (p.den : Int)]) = if p ≤ q then [Fq p, Fq q] else [Fq q, Fq p] := by
    by_cases h : p ≤ q
    · rw [if_pos h, if_pos ((kpos_le hS d1 d2).mpr h)]; rfl
    · rw [if_neg h, if_neg (fun z => h ((kpos_le hS d1 d2).mp z))]; rfl
  rw [ek]
  obtain ⟨u, v, e1, e2⟩ : ∃ u v : Rat, (if p ≤ q then [Fq p, Fq q] else [Fq q, Fq p]) = [Fq u, Fq v] ∧ (if u = v then [Fq u] else [Fq u, Fq v]) = ordR p q := by
    unfold ordR
    by_cases h : p ≤ q
    · exact ⟨p, q, by rw [if_pos h], by rw [if_pos h]⟩
    · refine ⟨q, p, by rw [if_neg h], ?_⟩
      rw [if_neg h, if_neg (by grind)]
  rw [e1]
  rw [← e2] at hR
  refine ⟨_, rfl, fun k ω δ => ∃ x, δ = [some (.lst [Fq p, Fq q]), some (.int S), some (.s (.ref a)), x] ∧ ω = [Cell.own X.K a (if k = 0 then [] else if k = 1 then [Fq u] else if u = v then [Fq u] else [Fq u, Fq v])], ⟨_, rfl, rfl⟩, fun k d ω δ hd hP => ?_, fun ω δ hP => ?_⟩
  · obtain ⟨x, rfl, rfl⟩ := hP
    rcases two_get hd with ⟨rfl, rfl⟩ | ⟨rfl, rfl⟩
    · refine w_cons ?_
      with_reducible refine w_if ?_
      with_reducible refine et_or ?_
      with_reducible refine ew_or ?_
      with_reducible refine et_not ?_
      refine et_peek List.mem_cons_self (seen_name (i := 2) rfl) fun E' => ?_
      refine et_truL (by intro _; rfl) ?_
      k_call_by "n" 0
      refine ⟨_, rfl, fun z => by simp at z, fun _ => ?_⟩
      refine ⟨fun _ => ?_, fun z => by simp at z⟩
      refine w_cons ?_
      refine w_append (ω1 := []) (ω2 := []) rfl (by simp) ?_
      k_call_by "n" 0
      refine ⟨rfl, ?_⟩
      k_call_by "n" 0
      exact w_nil (w_nil ⟨_, rfl, rfl⟩)
    · refine w_cons ?_
      with_reducible refine w_if ?_
      with_reducible refine et_or ?_
      with_reducible refine ew_or ?_
      with_reducible refine et_not ?_
      refine et_peek List.mem_cons_self (seen_name (i := 2) rfl) fun E' => ?_
      refine et_truL (by intro _; rfl) ?_
      k_call_by "n" 0
      refine ⟨_, rfl, fun _ => ?_, fun z => by simp at z⟩
      with_reducible refine ew_or1 ?_
      refine et_peek List.mem_cons_self (seen_name (i := 2) rfl) fun E' => ?_
      refine et_neP ?_
      refine ev_ixL ?_
      k_call_by "n" 0
      refine ev_neg ?_
      refine ev_int ⟨_, rfl, _, _, _, rfl, rfl, rfl, ?_⟩
      k_call_by "n" 0
      refine ⟨_, _, _, _, rfl, rfl, fun hc => ?_, fun hc => ?_⟩
      · have hne : u ≠ v := fun z => by subst z; simp at hc
        refine w_cons ?_
        refine w_append (ω1 := []) (ω2 := []) rfl (by simp) ?_
        k_call_by "n" 0
        refine ⟨rfl, ?_⟩
        k_call_by "n" 0
        refine w_nil (w_nil ⟨_, rfl, ?_⟩)
        simp [hne]
      · have he : u = v := by
          simp at hc
          exact Rat.ext hc.1 (by exact_mod_cast hc.2)
        refine w_nil (w_nil ⟨_, rfl, ?_⟩)
        simp [he]
  · obtain ⟨x, rfl, rfl⟩ := hP
    refine bv_freeze (ω1 := []) rfl ha (seen_name (i := 2) rfl) ?_
    k_call_by "w" 0
    exact ⟨List.nil_sublist _, hR⟩
end
end Wh

set_option Elab.async false
set_option linter.all false
set_option maxRecDepth 100000
set_option maxHeartbeats 4000000
namespace Wh
open PySem L2 PyProof.Rows DL
theorem ord_ends {r s a b : Rat} (h0 : r ≠ 0) (hab : a ≤ b) : ∃ lo hi : Rat, atI (ordR (s + r * a) (s + r * b)) 0 = some (Fq lo) ∧ atI (ordR (s + r * a) (s + r * b)) (-1) = some (Fq hi) ∧ lo = s + r * loM r a b ∧ hi = s + r * hiM r a b := by
  unfold ordR loM hiM
  by_cases h : 0 < r
  · have h1 := Rat.mul_le_mul_of_nonneg_left hab (Rat.le_of_lt h)
    rw [if_pos (by grind), if_pos h, if_pos h]
    by_cases e : s + r * a = s + r * b
    · rw [if_pos e]
      exact ⟨_, _, rfl, rfl, rfl, e⟩
    · rw [if_neg e]
      exact ⟨_, _, rfl, rfl, rfl, rfl⟩
  · have h1 := Rat.mul_le_mul_of_nonneg_left hab (show 0 ≤ -r by grind)
    rw [if_neg h, if_neg h]
    by_cases e : s + r * a ≤ s + r * b
    · have e' : s + r * a = s + r * b := by grind
      rw [if_pos e, if_pos e']
      exact ⟨_, _, rfl, rfl, e', rfl⟩
    · rw [if_neg e]
      exact ⟨_, _, rfl, rfl, rfl, rfl⟩
local macro_rules | `(tactic| k_call_by "n" 0) => `(tactic| ((with_reducible refine' nm_ix rfl ?na ?nb ?nc ?nd); (case na => (repeat (first | with_reducible exact ix0 | with_reducible apply ixS))); (case nb => rfl); (case nc => rfl)))
local macro_rules | `(tactic| k_call_by "v" 0) => `(tactic| first
  | with_reducible refine w_cons ?_
  | with_reducible refine w_nil ?_
  | with_reducible refine w_ret ?_
  | with_reducible refine w_if ?_
  | with_reducible refine ea_cons ?_ (by with_unfolding_all rfl)
  | with_reducible refine ea_nil ?_
  | k_call_by "n" 0
  | with_reducible refine ev_int ?_ | with_reducible refine ev_bl ?_ | with_reducible refine ev_non ?_ | with_reducible refine ev_str ?_
  | with_reducible refine ev_add ?_
  | with_reducible refine ev_sub ?_
  | with_reducible refine ev_mul ?_
  | with_reducible refine ev_fdiv ?_
  | with_reducible refine ev_mod ?_
  | with_reducible refine ev_neg ?_
  | with_reducible refine ev_tup ?_
  | with_reducible refine et_lt ?_ | with_reducible refine et_le ?_ | with_reducible refine et_gt ?_ | with_reducible refine et_ge ?_
  | with_reducible refine ev_lt ?_ | with_reducible refine ev_le ?_ | with_reducible refine ev_gt ?_ | with_reducible refine ev_ge ?_
  | with_reducible refine et_ne ?_ | with_reducible refine et_eq ?_ | with_reducible refine ev_ne ?_ | with_reducible refine ev_eq ?_
  | with_reducible refine et_isN ?_ | with_reducible refine et_notN ?_
  | with_reducible refine et_not ?_
  | with_reducible refine et_and ?_ | with_reducible refine et_or ?_
  | with_reducible refine ew_and ?_ | with_reducible refine ew_or ?_
  | with_reducible refine ew_and1 ?_ | with_reducible refine ew_or1 ?_
  | with_reducible refine ev_and ?_ | with_reducible refine ev_or ?_ | with_reducible refine ev_one ?_ | with_reducible refine ev_not ?_
  | with_reducible refine ev_ifExp ?_
  | with_reducible refine et_call ?_
  | with_reducible refine ev_ixT ?_ (by with_unfolding_all exact fun _ _ => rfl)
  | with_reducible refine ⟨_, _, rfl, rfl, ?_⟩)
local macro_rules | `(tactic| k_call_by "w" 0) => `(tactic| repeat (first | k_call_by "v" 0 | refine ⟨Nat.le_of_ble_eq_true rfl, ?_⟩ | (refine ⟨?no, fun _ => ?_⟩; (case no => intro z; contradiction)) | (refine ⟨fun _ => ?_, ?no⟩; (case no => intro z; contradiction)) | refine ⟨_, rfl, ?_⟩ | refine ⟨_, _, _, rfl, rfl, rfl, ?_⟩ | refine ⟨_, _, rfl, ?_⟩ | refine ⟨_, _, _, rfl, ?_⟩ | refine ⟨_, _, _, _, rfl, ?_⟩))
local macro_rules | `(tactic| k_call_by "no" 0) => `(tactic| (intro z; first | (exact absurd z (by decide)) | (exact (nomatch z)) | (simp at z; done)))
local macro_rules | `(tactic| k_call_by "F" 0) => `(tactic| (refine ⟨?no, fun _ => ?_⟩; (case no => k_call_by "no" 0)))
local macro_rules | `(tactic| k_call_by "T" 0) => `(tactic| (refine ⟨fun _ => ?_, ?no⟩; (case no => k_call_by "no" 0)))
local macro_rules | `(tactic| k_call_by "s" 0) => `(tactic| (refine w_cons ?_; k_call_by "w" 0))
local macro_rules | `(tactic| k_call_by "l" 0) => `(tactic| repeat (first | with_reducible refine ea_cons ?_ (by with_unfolding_all rfl) | with_reducible refine ea_nil ?_ | with_reducible refine ev_lst ?_ | with_reducible refine ev_tup ?_ | with_reducible refine ev_int ?_ | with_reducible refine ev_neg ?_ | refine ⟨Nat.le_of_ble_eq_true rfl, ?_⟩ | refine ⟨_, rfl, ?_⟩))
section
variable {P : Program} {w : World} {K : PySem.W.Frag} {mg : Str → Option Value} {base : Heap}
def sp_l_near_many : SpecD := fun ds R => ∃ ra sa rb sb wd a b : Rat, ds = [pr ra sa, pr rb sb, Fq wd, .tup [Fq a, Fq b]] ∧ Q.B 40 ra ∧ Q.B 140 sa ∧ Q.B 40 rb ∧ Q.B 140 sb ∧ Q.B 140 wd ∧ Q.B 400 a ∧ Q.B 400 b ∧ a ≤ b ∧
  ∀ n : Int, (rb - ra ≠ 0 → n = mos (rb - ra) (sb - sa) a b wd - lea (rb - ra) (sb - sa) a b wd + 1) → R (.int n)
theorem kn_l_near_many (T : Te K mg base) : Kn P w K mg base CX0 "_law_near_many" 6 (spG K (Tt K) noC sp_l_near_many) := by
  refine T.d_l_near_many.kn (ps := ["_law_lead", "_law_row", "_law_width", "_law_ends"]) (fun _ _ _ _ _ _ us hl => match us, hl with | [_, _, _, _], _ => rfl) fun f fd F => def_okW F sc_l_near_many (fun ds R h => by obtain ⟨_, _, _, _, _, _, _, rfl, _⟩ := h; rfl) fun X hx sc G H ds R h => ?_
  obtain ⟨ra, sa, rb, sb, wd, a, b, rfl, bra, bsa, brb, bsb, bw, ba, bb, hab, hR⟩ := h
  have br := brb.sub bra
  have bs := bsb.sub bsa
  refine w_cons ?_
  with_reducible refine w_asg 4 rfl rfl rfl ?_ (by with_unfolding_all rfl)
  with_reducible refine ev_tup ?_
  with_reducible refine ea_cons ?_ (by with_unfolding_all rfl)
  with_reducible refine w_call 0 (kn_l_minus T.toTc) rfl rfl ?_ (by with_unfolding_all rfl) (by with_unfolding_all rfl)
  k_call_by "w" 0
  refine ⟨bq brb, bq bra, ?_⟩
  with_reducible refine ea_cons ?_ (by with_unfolding_all rfl)
  with_reducible refine w_call 0 (kn_l_minus T.toTc) rfl rfl ?_ (by with_unfolding_all rfl) (by with_unfolding_all rfl)
  k_call_by "w" 0
  refine ⟨bq bsb, bq bsa, ?_⟩
  k_call_by "w" 0
  refine ⟨rfl, fun hc => ?_, fun hc => ?_⟩
  · have hc : rb - ra = 0 := Rat.num_eq_zero.mp (V.int.inj (of_decide_eq_true hc))
    with_reducible refine w_cons ?_
    with_reducible refine w_ret ?_
    refine w_int 1 T.b_int rfl ?_
    with_reducible refine w_call 2 (kn_l_near T.toTc) rfl rfl ?_ (by with_unfolding_all rfl) (by with_unfolding_all rfl)
    with_reducible refine ea_cons ?_ (by with_unfolding_all rfl)
    with_reducible refine ev_lst ?_
    k_call_by "w" 0
    refine ⟨_, _, _, _, _, _, rfl, bra, bsa, brb, bsb, ba.mono (by decide), bw.mono (by decide), ?_⟩
    refine .inr ⟨_, rfl, List.nil_sublist _, hR _ fun z => absurd hc z⟩
  · have hc : rb - ra ≠ 0 := fun z => by rw [z] at hc; simp at hc
    obtain ⟨lo, hi, e1, e2, e3, e4⟩ := ord_ends (s := sb - sa) hc hab
    have blo : Q.B 1000 lo := by
      rw [e3]
      exact (bs.add (br.mul (loM_bd ba bb))).mono (by decide)
    have bhi : Q.B 1000 hi := by
      rw [e4]
      exact (bs.add (br.mul (hiM_bd ba bb))).mono (by decide)
    with_reducible refine w_nil ?_
    with_reducible refine w_cons ?_
    with_reducible refine w_asg 5 rfl rfl rfl ?_ (by with_unfolding_all rfl)
    with_reducible refine w_callW 3 (kn_l_ordered T) rfl rfl ?_ (by with_unfolding_all rfl) (by with_unfolding_all rfl)
    with_reducible refine ea_cons ?_ (by with_unfolding_all rfl)
    with_reducible refine ev_lst ?_
    with_reducible refine ea_cons ?_ (by with_unfolding_all rfl)
    with_reducible refine w_call 4 (kn_l_turns T.toTc) rfl rfl ?_ (by with_unfolding_all rfl) (by with_unfolding_all rfl)
    k_call_by "w" 0
    refine ⟨bq br, bq bs, bq ba, bq (br.mul ba), ?_⟩
    with_reducible refine ea_cons ?_ (by with_unfolding_all rfl)
    with_reducible refine w_call 4 (kn_l_turns T.toTc) rfl rfl ?_ (by with_unfolding_all rfl) (by with_unfolding_all rfl)
    k_call_by "w" 0
    refine ⟨bq br, bq bs, bq bb, bq (br.mul bb), ?_⟩
    with_reducible refine ea_nil ?_
    refine ⟨Nat.le_of_ble_eq_true rfl, ?_⟩
    with_reducible refine ea_nil ?_
    refine ⟨List.nil_sublist _, .inr rfl, _, _, rfl, (bs.add (br.mul ba)).mono (by decide), (bs.add (br.mul bb)).mono (by decide), ?_⟩
    with_reducible refine w_cons ?_
    with_reducible refine w_ret ?_
    with_reducible refine ev_add ?_
    with_reducible refine ev_add ?_
    with_reducible refine w_call 5 (kn_l_floor T.toTc) rfl rfl ?_ (by with_unfolding_all rfl) (by with_unfolding_all rfl)
    with_reducible refine ea_cons ?_ (by with_unfolding_all rfl)
    with_reducible refine w_call 6 (kn_l_plus T.toTc) rfl rfl ?_ (by with_unfolding_all rfl) (by with_unfolding_all rfl)
    with_reducible refine ea_cons ?_ (by with_unfolding_all rfl)
    refine ev_ixL ?_
    k_call_by "n" 0
    refine ev_neg ?_
    refine ev_int ⟨_, rfl, _, _, _, rfl, rfl, e2, ?_⟩
    k_call_by "w" 0
    refine ⟨bq bhi, bq bw, ?_⟩
    k_call_by "w" 0
    refine ⟨bq (bhi.add bw), ?_⟩
    with_reducible refine w_call 5 (kn_l_floor T.toTc) rfl rfl ?_ (by with_unfolding_all rfl) (by with_unfolding_all rfl)
    with_reducible refine ea_cons ?_ (by with_unfolding_all rfl)
    with_reducible refine w_call 0 (kn_l_minus T.toTc) rfl rfl ?_ (by with_unfolding_all rfl) (by with_unfolding_all rfl)
    with_reducible refine ea_cons ?_ (by with_unfolding_all rfl)
    k_call_by "n" 0
    with_reducible refine ea_cons ?_ (by with_unfolding_all rfl)
    refine ev_ixL ?_
    k_call_by "n" 0
    refine ev_int ⟨_, _, _, rfl, rfl, e1, ?_⟩
    with_reducible refine ea_nil ?_
    refine ⟨_, _, rfl, bq bw, bq blo, ?_⟩
    k_call_by "w" 0
    refine ⟨bq (bw.sub blo), ?_⟩
    k_call_by "w" 0
    refine ⟨List.nil_sublist _, hR _ fun _ => ?_⟩
    unfold mos lea
    rw [e3, e4]
    omega
end
end Wh

set_option Elab.async false
set_option linter.all false
set_option maxRecDepth 100000
set_option maxHeartbeats 4000000
namespace Wh
open PySem L2 PyProof.Rows DL
theorem cutD_sub {ds : List DL.D} {lo hi : Option Int} {x : DL.D} (h : x ∈ DL.cutD ds lo hi) : x ∈ ds := by
  unfold DL.cutD at h
  exact List.mem_of_mem_drop (List.mem_of_mem_take h)
theorem cutD_len {ds : List DL.D} {lo hi : Option Int} : (DL.cutD ds lo hi).length ≤ ds.length := by
  unfold DL.cutD
  rw [List.length_take, List.length_drop]
  omega
/-- rows of the roll -/
structure RowsOk (S : Sd) (a b : Rat) (rws : List DL.D) : Prop where
  len : rws.length ≤ 400
  at_ : ∀ d ∈ rws, ∃ n : Int, d = S.row n ∧ n.natAbs < 2 ^ 660 ∧ a ≤ mom S.z S.i n ∧ mom S.z S.i n ≤ b
theorem RowsOk.nil {S : Sd} {a b : Rat} : RowsOk S a b [] := ⟨by simp, fun d h => (List.not_mem_nil h).elim⟩
theorem RowsOk.rows {S : Sd} (h : S.Ok) {a b : Rat} (ha : Q.B 400 a) (hc : S.c a b ≤ 400) : RowsOk S a b (S.rows a b) := by
  refine ⟨?_, fun d hd => ?_⟩
  · unfold Sd.rows
    rw [List.length_map, List.length_range]
    omega
  · unfold Sd.rows at hd
    obtain ⟨k, hk, rfl⟩ := List.mem_map.mp hd
    have hk := List.mem_range.mp hk
    refine ⟨_, rfl, lk_bd (h.bl ha) (by omega), ?_⟩
    exact Sd.row_in h (by omega) (by omega)
theorem pl_bb (x y : Bool) : Pl 1 (.lst [.bl x, .bl y]) := .lst (by simp) fun d hd => by
  simp only [List.mem_cons, List.not_mem_nil, or_false] at hd
  rcases hd with rfl | rfl <;> exact .bl 0 _
theorem near_back (S : Sd) (n : Int) : decide (Q.ab (Q.offs ((S.sl - S.sn) + (S.rl - S.rn) * mom S.z S.i n)) ≤ S.w) = decide (Q.ab (S.off n) ≤ S.w) := by
  refine decide_eq_decide.mpr ?_
  rw [← Sd.dark_gap n]
  have e : (S.sl - S.sn) + (S.rl - S.rn) * mom S.z S.i n = -((S.sn - S.sl) + (S.rn - S.rl) * mom S.z S.i n) := by grind
  rw [e]
  exact near_neg
section
variable {X : Cx} {C : CtxI} [hx : XOk X C] {E : Ent} {ω : List Cell} {δ : DE} {R : DL.D → Prop} {it elt test : Expr} {pos : Pos} {scope : Scope}
/-- [.. for x in .. if ..] -/
theorem w_lcIf (j : Nat) (vis : List Nat) (Gs : List Str) {x : Str} {px : Pos} (hf : C.is = none) (B : CpOk [(x, j)] [j] vis C.N Gs X.env.scope scope) (hj : C.N[j]? = some x)
    (h : IV X E ω δ (.Name x px) it fun ds => ∃ res : Nat → Option DL.D, ds.length ≤ 100000 ∧ (∀ (i : Nat) (d : DL.D) (c : Cell), ds[i]? = some d → ∃ b0 : Bool, (∀ (Y : Cx) [XOk Y (C.blk Gs vis)], ET Y E (c :: ω) ((δ.set j none).set j (some d)) test fun b => b = b0) ∧ (b0 = true → ∀ (Y : Cx) [XOk Y (C.blk Gs vis)], EV Y E (c :: ω) ((δ.set j none).set j (some d)) elt fun r => res i = some r) ∧ (b0 = false → res i = none)) ∧ R (.lst ((List.range ds.length).filterMap res)))
    (hs : ∀ x, foldedSetIterable it X.env x = pure x := by intro _; rfl) : EV X E ω δ (.ListComp elt [⟨.Name x px, it, [test], 0⟩] scope pos) R :=
  have nd : C.N.Nodup := by have := (hx.lo hf).nd; rw [hx.N] at this; exact this
  ev_lcIf B nd (tgb_name nd B hj) (h.imp fun ds q => let ⟨res, a, b, c⟩ := q; ⟨res, a, fun i d e hd => let ⟨b0, q1, q2, q3⟩ := b i d e hd; ⟨_, rfl, b0, q1, q2, q3⟩, c⟩) hs
end
/-- how many spans hold the moment -/
theorem held_len {l : List (Rat × Rat)} {f : Rat × Rat → DL.D} {m : Rat} : (0 < ((List.range l.length).filterMap fun i => match l[i]? with | some q => if q.1 ≤ m ∧ m ≤ q.2 then some (f q) else none | none => none).length) ↔ ∃ q ∈ l, q.1 ≤ m ∧ m ≤ q.2 := by
  rw [List.length_pos_iff_exists_mem]
  constructor
  · rintro ⟨d, hd⟩
    obtain ⟨i, hi, e⟩ := List.mem_filterMap.mp hd
    cases hq : l[i]? with
    | none => rw [hq] at e; cases e
    | some q =>
      rw [hq] at e
      by_cases hc : q.1 ≤ m ∧ m ≤ q.2
      · exact ⟨q, List.mem_of_getElem? hq, hc⟩
      · simp [hc] at e
  · rintro ⟨q, hq, hc⟩
    obtain ⟨i, hi⟩ := List.mem_iff_getElem?.mp hq
    have hl : i < l.length := by
      rcases Nat.lt_or_ge i l.length with h | h
      · exact h
      · rw [List.getElem?_eq_none h] at hi; cases hi
    exact ⟨f q, List.mem_filterMap.mpr ⟨i, List.mem_range.mpr hl, by rw [hi]; simp [hc]⟩⟩
local macro_rules | `(tactic| k_call_by "n" 0) => `(tactic| ((with_reducible refine' nm_ix rfl ?na ?nb ?nc ?nd); (case na => (repeat (first | with_reducible exact ix0 | with_reducible apply ixS))); (case nb => rfl); (case nc => rfl)))
local macro_rules | `(tactic| k_call_by "v" 0) => `(tactic| first
  | with_reducible refine w_cons ?_
  | with_reducible refine w_nil ?_
  | with_reducible refine w_ret ?_
  | with_reducible refine w_if ?_
  | with_reducible refine ea_cons ?_ (by with_unfolding_all rfl)
  | with_reducible refine ea_nil ?_
  | k_call_by "n" 0
  | with_reducible refine ev_int ?_ | with_reducible refine ev_bl ?_ | with_reducible refine ev_non ?_ | with_reducible refine ev_str ?_
  | with_reducible refine ev_add ?_
  | with_reducible refine ev_sub ?_
  | with_reducible refine ev_mul ?_
  | with_reducible refine ev_fdiv ?_
  | with_reducible refine ev_mod ?_
  | with_reducible refine ev_neg ?_
  | with_reducible refine ev_tup ?_
  | with_reducible refine et_lt ?_ | with_reducible refine et_le ?_ | with_reducible refine et_gt ?_ | with_reducible refine et_ge ?_
  | with_reducible refine ev_lt ?_ | with_reducible refine ev_le ?_ | with_reducible refine ev_gt ?_ | with_reducible refine ev_ge ?_
  | with_reducible refine et_ne ?_ | with_reducible refine et_eq ?_ | with_reducible refine ev_ne ?_ | with_reducible refine ev_eq ?_
  | with_reducible refine et_isN ?_ | with_reducible refine et_notN ?_
  | with_reducible refine et_not ?_
  | with_reducible refine et_and ?_ | with_reducible refine et_or ?_
  | with_reducible refine ew_and ?_ | with_reducible refine ew_or ?_
  | with_reducible refine ew_and1 ?_ | with_reducible refine ew_or1 ?_
  | with_reducible refine ev_and ?_ | with_reducible refine ev_or ?_ | with_reducible refine ev_one ?_ | with_reducible refine ev_not ?_
  | with_reducible refine ev_ifExp ?_
  | with_reducible refine et_call ?_
  | with_reducible refine ev_ixT ?_ (by with_unfolding_all exact fun _ _ => rfl)
  | with_reducible refine ⟨_, _, rfl, rfl, ?_⟩)
local macro_rules | `(tactic| k_call_by "w" 0) => `(tactic| repeat (first | k_call_by "v" 0 | refine ⟨Nat.le_of_ble_eq_true rfl, ?_⟩ | (refine ⟨?no, fun _ => ?_⟩; (case no => intro z; contradiction)) | (refine ⟨fun _ => ?_, ?no⟩; (case no => intro z; contradiction)) | refine ⟨_, rfl, ?_⟩ | refine ⟨_, _, _, rfl, rfl, rfl, ?_⟩ | refine ⟨_, _, rfl, ?_⟩ | refine ⟨_, _, _, rfl, ?_⟩ | refine ⟨_, _, _, _, rfl, ?_⟩))
local macro_rules | `(tactic| k_call_by "no" 0) => `(tactic| (intro z; first | (exact absurd z (by decide)) | (exact (nomatch z)) | (simp at z; done)))
local macro_rules | `(tactic| k_call_by "F" 0) => `(tactic| (refine ⟨?no, fun _ => ?_⟩; (case no => k_call_by "no" 0)))
local macro_rules | `(tactic| k_call_by "T" 0) => `(tactic| (refine ⟨fun _ => ?_, ?no⟩; (case no => k_call_by "no" 0)))
local macro_rules | `(tactic| k_call_by "s" 0) => `(tactic| (refine w_cons ?_; k_call_by "w" 0))
local macro_rules | `(tactic| k_call_by "l" 0) => `(tactic| repeat (first | with_reducible refine ea_cons ?_ (by with_unfolding_all rfl) | with_reducible refine ea_nil ?_ | with_reducible refine ev_lst ?_ | with_reducible refine ev_tup ?_ | with_reducible refine ev_int ?_ | with_reducible refine ev_neg ?_ | refine ⟨Nat.le_of_ble_eq_true rfl, ?_⟩ | refine ⟨_, rfl, ?_⟩))
section
variable {P : Program} {w : World} {K : PySem.W.Frag} {mg : Str → Option Value} {base : Heap}
def sp_l_near_right (K : PySem.W.Frag) : SpecD := fun ds R => ∃ (p : Addr) (S : Sd) (a b : Rat) (rws : List DL.D), ds = [.s (.ref p), shT S, .lst [cyc K S.rl S.sl, cyc K S.rc S.sc, cyc K S.rn S.sn], .tup [Fq a, Fq b], .lst rws] ∧ S.Gd ∧ Q.B 300 a ∧ Q.B 300 b ∧ a ≤ b ∧ RowsOk S a b rws ∧ R (.bl true)
theorem kn_l_near_right (T : Te K mg base) : Kn P w K mg base CX0 "_law_near_right" 9 (spG K (Tt K) (stc K) (sp_l_near_right K)) := by
  refine T.d_l_near_right.kn (ps := ["_law_store_here", "_law_shade_here", "_law_cycles", "_law_ends", "_law_rows"]) (fun _ _ _ _ _ _ us hl => match us, hl with | [_, _, _, _, _], _ => rfl) fun f fd F => def_okW F sc_l_near_right (fun ds R h => by obtain ⟨_, _, _, _, _, rfl, _⟩ := h; rfl) fun X hx sc G H ds R h => ?_
  obtain ⟨p, S, a, b, rws, rfl, hS, ba, bb, hab, hr, hR⟩ := h
  have hO := hS.ok
  have hK : X.K = K := hx.K
  refine w_cons ?_
  with_reducible refine w_unpackL3 5 6 7 rfl rfl rfl rfl rfl rfl rfl ?_ (by with_unfolding_all rfl) (by with_unfolding_all rfl)
  k_call_by "n" 0
  refine ⟨_, _, _, rfl, ?_⟩
  with_reducible refine w_cons ?_
  refine w_forN 8 rfl rfl rfl ?_
  refine iv_list ?_
  refine ev_joinSl ?_
  k_call_by "n" 0
  refine ev_int ⟨_, _, rfl, rfl, ?_⟩
  k_call_by "n" 0
  refine ev_neg ?_
  refine ev_int ⟨_, rfl, _, _, rfl, rfl, ?_, _, rfl, ?_⟩
  · have := hr.len; omega
  have hsub : ∀ d ∈ DL.cutD rws none (some 20) ++ DL.cutD rws (some (-20)) none, d ∈ rws := fun d hd => by
    rcases List.mem_append.mp hd with h | h
    · exact cutD_sub h
    · exact cutD_sub h
  generalize DL.cutD rws none (some 20) ++ DL.cutD rws (some (-20)) none = some20 at hsub
  refine ⟨fun k ω δ => ω = [Cell.inv X.K p StOk] ∧ ∃ x y u1 u2 u3 u4, δ = [some (.s (.ref p)), some (shT S), some (.lst [cyc K S.rl S.sl, cyc K S.rc S.sc, cyc K S.rn S.sn]), some (.tup [Fq a, Fq b]), some (.lst rws), some (cyc K S.rl S.sl), some (cyc K S.rc S.sc), some (cyc K S.rn S.sn), x, y, u1, u2, u3, u4], ⟨by rw [hK]; rfl, _, _, _, _, _, _, rfl⟩, fun k d ω δ hd hP => ?_, fun ω δ hP => ?_⟩
  · obtain ⟨rfl, x, y, u1, u2, u3, u4, rfl⟩ := hP
    obtain ⟨n, rfl, hn, hna, hnb⟩ := hr.at_ d (hsub d (List.mem_of_getElem? hd))
    have bm := hO.bm hn
    refine w_cons ?_
    with_reducible refine w_asg 9 rfl rfl rfl ?_ (by with_unfolding_all rfl)
    with_reducible refine ev_lst ?_
    with_reducible refine ea_cons ?_ (by with_unfolding_all rfl)
    with_reducible refine w_callK 0 (kn_is_near T.toTc) rfl rfl ?_ (by with_unfolding_all rfl) (by with_unfolding_all rfl) (by with_unfolding_all rfl) (by with_unfolding_all rfl)
    with_reducible refine ea_cons ?_ (by with_unfolding_all rfl)
    with_reducible refine ev_lst ?_
    k_call_by "w" 0
    refine ⟨rfl, ?_⟩
    k_call_by "w" 0
    refine ⟨_, _, _, _, _, _, rfl, hO.rl, hO.sl.mono (by decide), hO.rn, hO.sn, bm.mono (by decide), hO.w.mono (by decide), hO.w0, hO.w4, ?_⟩
    rw [Sd.dark_gap n]
    with_reducible refine ea_cons ?_ (by with_unfolding_all rfl)
    with_reducible refine w_callK 0 (kn_is_near T.toTc) rfl rfl ?_ (by with_unfolding_all rfl) (by with_unfolding_all rfl) (by with_unfolding_all rfl) (by with_unfolding_all rfl)
    with_reducible refine ea_cons ?_ (by with_unfolding_all rfl)
    with_reducible refine ev_lst ?_
    k_call_by "w" 0
    refine ⟨rfl, ?_⟩
    k_call_by "w" 0
    refine ⟨_, _, _, _, _, _, rfl, hO.rn, hO.sn, hO.rl, hO.sl.mono (by decide), bm.mono (by decide), hO.w.mono (by decide), hO.w0, hO.w4, ?_⟩
    rw [near_back S n]
    with_reducible refine ea_nil ?_
    refine ⟨Nat.le_of_ble_eq_true rfl, ?_⟩
    with_reducible refine w_cons ?_
    with_reducible refine w_if ?_
    with_reducible refine et_not ?_
    with_reducible refine et_call ?_
    with_reducible refine w_call 1 (kn_l_alike T.toTc 1) rfl rfl ?_ (by with_unfolding_all rfl) (by with_unfolding_all rfl)
    with_reducible refine ea_cons ?_ (by with_unfolding_all rfl)
    k_call_by "n" 0
    with_reducible refine ea_cons ?_ (by with_unfolding_all rfl)
    with_reducible refine ev_lst ?_
    k_call_by "w" 0
    refine ⟨pl_bb _ _, ?_⟩
    refine ⟨_, rfl, fun z => by simp at z, fun _ => ?_⟩
    refine w_nil (w_nil ⟨rfl, _, _, _, _, _, _, rfl⟩)
  · obtain ⟨rfl, x, y, u1, u2, u3, u4, rfl⟩ := hP
    have hst : [Cell.inv K p StOk].Sublist [Cell.inv X.K p StOk] := by rw [hK]; exact List.Sublist.refl _
    with_reducible refine w_cons ?_
    with_reducible refine w_asg 10 rfl rfl rfl ?_ (by with_unfolding_all rfl)
    with_reducible refine w_call 2 (kn_l_plus T.toTc) rfl rfl ?_ (by with_unfolding_all rfl) (by with_unfolding_all rfl)
    k_call_by "w" 0
    with_reducible refine w_callW 3 (kn_l_moment T.toTc) rfl rfl ?_ (by with_unfolding_all rfl) (by with_unfolding_all rfl)
    k_call_by "w" 0
    refine ⟨hst, .inl rfl, p, rfl, fun q hq => ?_⟩
    k_call_by "w" 0
    refine ⟨bq ba, bq hq, ?_⟩
    have bsp := ba.add hq
    generalize a + q = sp at bsp
    with_reducible refine w_cons ?_
    with_reducible refine w_asg 11 rfl rfl rfl ?_ (by with_unfolding_all rfl)
    with_reducible refine w_call 4 (kn_l_near T.toTc) rfl rfl ?_ (by with_unfolding_all rfl) (by with_unfolding_all rfl)
    with_reducible refine ea_cons ?_ (by with_unfolding_all rfl)
    with_reducible refine ev_lst ?_
    k_call_by "w" 0
    refine ⟨_, _, _, _, _, _, rfl, hO.rl, hO.sl.mono (by decide), hO.rn, hO.sn, bsp.mono (by decide), hO.w.mono (by decide), ?_⟩
    with_reducible refine w_cons ?_
    with_reducible refine w_if ?_
    with_reducible refine et_not ?_
    with_reducible refine et_call ?_
    with_reducible refine w_call 1 (kn_l_alike T.toTc 0) rfl rfl ?_ (by with_unfolding_all rfl) (by with_unfolding_all rfl)
    with_reducible refine ea_cons ?_ (by with_unfolding_all rfl)
    with_reducible refine w_callK 0 (kn_is_near T.toTc) rfl rfl ?_ (by with_unfolding_all rfl) (by with_unfolding_all rfl) (by with_unfolding_all rfl) (by with_unfolding_all rfl)
    with_reducible refine ea_cons ?_ (by with_unfolding_all rfl)
    with_reducible refine ev_lst ?_
    k_call_by "w" 0
    refine ⟨rfl, ?_⟩
    k_call_by "w" 0
    refine ⟨_, _, _, _, _, _, rfl, hO.rl, hO.sl.mono (by decide), hO.rn, hO.sn, bsp.mono (by decide), hO.w.mono (by decide), hO.w0, hO.w4, ?_⟩
    k_call_by "w" 0
    refine ⟨.bl 0 _, _, rfl, fun z => by simp at z, fun _ => ?_⟩
    with_reducible refine w_nil ?_
    with_reducible refine w_cons ?_
    with_reducible refine w_if ?_
    with_reducible refine et_gt ?_
    with_reducible refine w_callW 5 (kn_l_near_many T) rfl rfl ?_ (by with_unfolding_all rfl) (by with_unfolding_all rfl)
    k_call_by "w" 0
    refine ⟨List.nil_sublist _, .inr rfl, _, _, _, _, _, _, _, rfl, hO.rl, hO.sl.mono (by decide), hO.rn, hO.sn, hO.w, ba.mono (by decide), bb.mono (by decide), hab, fun m hm => ?_⟩
    k_call_by "w" 0
    refine ⟨fun _ => ?_, fun hc => ?_⟩
    · k_call_by "w" 0
      exact ⟨by rw [hK]; exact List.Sublist.refl _, hR⟩
    have hc : m ≤ 60 := by have := of_decide_eq_false hc; omega
    have hm60 : S.rn - S.rl ≠ 0 → mos (S.rn - S.rl) (S.sn - S.sl) a b S.w - lea (S.rn - S.rl) (S.sn - S.sl) a b S.w + 1 ≤ 60 := fun z => by rw [← hm z]; exact hc
    with_reducible refine w_nil ?_
    with_reducible refine w_cons ?_
    with_reducible refine w_asg 12 rfl rfl rfl ?_ (by with_unfolding_all rfl)
    with_reducible refine w_callK 6 (kn_near_spans T.toTc) rfl rfl ?_ (by with_unfolding_all rfl) (by with_unfolding_all rfl) (by with_unfolding_all rfl) (by with_unfolding_all rfl)
    with_reducible refine ea_cons ?_ (by with_unfolding_all rfl)
    with_reducible refine ev_lst ?_
    k_call_by "w" 0
    with_reducible refine w_make 7 (kn_Span_init T.toTc) rfl rfl ?_ (by with_unfolding_all rfl) (by with_unfolding_all rfl)
    k_call_by "w" 0
    refine ⟨hab, bq ba, bq bb, ?_⟩
    with_reducible refine ea_nil ?_
    refine ⟨rfl, ?_⟩
    k_call_by "w" 0
    refine ⟨_, _, _, _, _, _, _, rfl, hO.rl, hO.sl.mono (by decide), hO.rn, hO.sn, ba.mono (by decide), bb.mono (by decide), hO.w, hO.w0, hO.w4, hm60, lspR_le hab hO.w0, ?_⟩
    generalize hL : lspR (S.rn - S.rl) (S.sn - S.sl) a b S.w = L
    have hLm : ∀ n : Int, a ≤ mom S.z S.i n → mom S.z S.i n ≤ b → ((∃ q ∈ L, q.1 ≤ mom S.z S.i n ∧ mom S.z S.i n ≤ q.2) ↔ Q.ab (S.off n) ≤ S.w) := fun n h1 h2 => by
      rw [← hL, lspR_near h1 h2, Sd.dark_gap n]
    have hLb : ∀ q ∈ L, Q.B 2000 q.1 ∧ Q.B 2000 q.2 := fun q hq => lspR_bd (hO.rn.sub hO.rl) ((hO.sn.sub hO.sl).mono (by decide)) (ba.mono (by decide)) (bb.mono (by decide)) hO.w hm60 (by rw [hL]; exact hq)
    have hLl : L.length ≤ 100000 := by
      rw [← hL]
      unfold lspR
      split
      · split <;> simp
      · rename_i hne
        rw [List.length_map, whl_len]
        have := hm60 hne
        omega
    with_reducible refine w_cons ?_
    refine w_forN 8 rfl rfl rfl ?_
    refine iv_list ?_
    k_call_by "n" 0
    refine ⟨_, rfl, fun k ω δ => ω = [Cell.inv X.K p StOk] ∧ ∃ x, δ = [some (.s (.ref p)), some (shT S), some (.lst [cyc K S.rl S.sl, cyc K S.rc S.sc, cyc K S.rn S.sn]), some (.tup [Fq a, Fq b]), some (.lst rws), some (cyc K S.rl S.sl), some (cyc K S.rc S.sc), some (cyc K S.rn S.sn), x, y, some (Fq sp), some (.bl (decide (Q.ab (Q.offs ((S.sn - S.sl) + (S.rn - S.rl) * sp)) ≤ S.w))), some (.lst (L.map fun q => spn K q.1 q.2)), u4], ⟨rfl, _, rfl⟩, fun k d ω δ hd hP => ?_, fun ω δ hP => ?_⟩
    · obtain ⟨rfl, x, rfl⟩ := hP
      obtain ⟨n, rfl, hn, hna, hnb⟩ := hr.at_ d (List.mem_of_getElem? hd)
      have bm := hO.bm hn
      refine w_cons ?_
      with_reducible refine w_if ?_
      with_reducible refine et_ne ?_
      with_reducible refine ev_gt ?_
      refine w_len 8 T.b_len rfl ?_
      refine w_lcIf 13 [8, 13] [] rfl (by rw [sc]; exact .of (by kernel_rfl)) rfl (iv_list ?_)
      k_call_by "n" 0
      refine ⟨_, rfl, fun i => match L[i]? with | some q => if q.1 ≤ mom S.z S.i n ∧ mom S.z S.i n ≤ q.2 then some (spn K q.1 q.2) else none | none => none, by rw [List.length_map]; exact hLl, fun i d c hd => ?_, ?_⟩
      · rw [List.getElem?_map] at hd
        cases hq : L[i]? with
        | none => rw [hq] at hd; cases hd
        | some q =>
          rw [hq] at hd
          cases hd
          obtain ⟨q1, q2⟩ := hLb q (List.mem_of_getElem? hq)
          refine ⟨decide (q.1 ≤ mom S.z S.i n ∧ mom S.z S.i n ≤ q.2), fun Y hY => ?_, fun hb Y hY => ?_, fun hb => ?_⟩
          · refine et_inM (kn_Span_contains T.toTc) rfl ?_ (by rfl)
            k_call_by "w" 0
            exact ⟨bq q1, bq q2, bq bm, _, rfl, rfl⟩
          · k_call_by "n" 0
            dsimp only
            rw [hq]
            exact if_pos (of_decide_eq_true hb)
          · dsimp only
            rw [hq]
            exact if_neg (of_decide_eq_false hb)
      · refine ⟨_, rfl, ?_⟩
        k_call_by "w" 0
        have he : decide ((0 : Int) < (((List.range (L.map fun q => spn K q.1 q.2).length).filterMap fun i => match L[i]? with | some q => if q.1 ≤ mom S.z S.i n ∧ mom S.z S.i n ≤ q.2 then some (spn K q.1 q.2) else none | none => none).length : Int)) = decide (Q.ab (S.off n) ≤ S.w) := by
          refine decide_eq_decide.mpr ?_
          rw [List.length_map]
          have h1 := held_len (l := L) (f := fun q => spn K q.1 q.2) (m := mom S.z S.i n)
          have h2 := hLm n hna hnb
          rw [← h2, ← h1]
          omega
        rw [he]
        refine ⟨rfl, fun z => by simp at z, fun _ => ?_⟩
        exact w_nil (w_nil ⟨rfl, _, rfl⟩)
    · obtain ⟨rfl, x, rfl⟩ := hP
      k_call_by "w" 0
      exact ⟨by rw [hK]; exact List.Sublist.refl _, hR⟩
end
end Wh

set_option Elab.async false
set_option linter.all false
set_option maxRecDepth 100000
set_option maxHeartbeats 4000000
namespace Wh
open PySem L2 PyProof.Rows DL
theorem pl_F (q : Rat) : Pl 1 (Fq q) := .tup (by simp) fun d hd => by
  simp only [List.mem_cons, List.not_mem_nil, or_false] at hd
  rcases hd with rfl | rfl <;> exact .int 0 _
theorem pl_mono {n : Nat} {d : DL.D} (h : Pl n d) : Pl (n + 1) d := by
  induction h with
  | non n => exact .non _
  | bl n b => exact .bl _ b
  | int n i => exact .int _ i
  | str n x => exact .str _ x
  | tup l h ih => exact .tup l ih
  | lst l h ih => exact .lst l ih
theorem pl_row (S : Sd) (n : Int) : Pl 2 (S.row n) := .tup (by simp) fun d hd => by
  simp only [List.mem_cons, List.not_mem_nil, or_false] at hd
  rcases hd with rfl | rfl | rfl | rfl
  · exact .int 1 _
  · exact pl_F _
  · exact pl_F _
  · exact .bl 1 _
theorem pl_3F (a b c : Rat) : Pl 2 (.lst [Fq a, Fq b, Fq c]) := .lst (by simp) fun d hd => by
  simp only [List.mem_cons, List.not_mem_nil, or_false] at hd
  rcases hd with rfl | rfl | rfl <;> exact pl_F _
local macro_rules | `(tactic| k_call_by "n" 0) => `(tactic| ((with_reducible refine' nm_ix rfl ?na ?nb ?nc ?nd); (case na => (repeat (first | with_reducible exact ix0 | with_reducible apply ixS))); (case nb => rfl); (case nc => rfl)))
local macro_rules | `(tactic| k_call_by "v" 0) => `(tactic| first
  | with_reducible refine w_cons ?_
  | with_reducible refine w_nil ?_
  | with_reducible refine w_ret ?_
  | with_reducible refine w_if ?_
  | with_reducible refine ea_cons ?_ (by with_unfolding_all rfl)
  | with_reducible refine ea_nil ?_
  | k_call_by "n" 0
  | with_reducible refine ev_int ?_ | with_reducible refine ev_bl ?_ | with_reducible refine ev_non ?_ | with_reducible refine ev_str ?_
  | with_reducible refine ev_add ?_
  | with_reducible refine ev_sub ?_
  | with_reducible refine ev_mul ?_
  | with_reducible refine ev_fdiv ?_
  | with_reducible refine ev_mod ?_
  | with_reducible refine ev_neg ?_
  | with_reducible refine ev_tup ?_
  | with_reducible refine et_lt ?_ | with_reducible refine et_le ?_ | with_reducible refine et_gt ?_ | with_reducible refine et_ge ?_
  | with_reducible refine ev_lt ?_ | with_reducible refine ev_le ?_ | with_reducible refine ev_gt ?_ | with_reducible refine ev_ge ?_
  | with_reducible refine et_ne ?_ | with_reducible refine et_eq ?_ | with_reducible refine ev_ne ?_ | with_reducible refine ev_eq ?_
  | with_reducible refine et_isN ?_ | with_reducible refine et_notN ?_
  | with_reducible refine et_not ?_
  | with_reducible refine et_and ?_ | with_reducible refine et_or ?_
  | with_reducible refine ew_and ?_ | with_reducible refine ew_or ?_
  | with_reducible refine ew_and1 ?_ | with_reducible refine ew_or1 ?_
  | with_reducible refine ev_and ?_ | with_reducible refine ev_or ?_ | with_reducible refine ev_one ?_ | with_reducible refine ev_not ?_
  | with_reducible refine ev_ifExp ?_
  | with_reducible refine et_call ?_
  | with_reducible refine ev_ixT ?_ (by with_unfolding_all exact fun _ _ => rfl)
  | with_reducible refine ⟨_, _, rfl, rfl, ?_⟩)
local macro_rules | `(tactic| k_call_by "w" 0) => `(tactic| repeat (first | k_call_by "v" 0 | refine ⟨Nat.le_of_ble_eq_true rfl, ?_⟩ | (refine ⟨?no, fun _ => ?_⟩; (case no => intro z; contradiction)) | (refine ⟨fun _ => ?_, ?no⟩; (case no => intro z; contradiction)) | refine ⟨_, rfl, ?_⟩ | refine ⟨_, _, _, rfl, rfl, rfl, ?_⟩ | refine ⟨_, _, rfl, ?_⟩ | refine ⟨_, _, _, rfl, ?_⟩ | refine ⟨_, _, _, _, rfl, ?_⟩))
local macro_rules | `(tactic| k_call_by "no" 0) => `(tactic| (intro z; first | (exact absurd z (by decide)) | (exact (nomatch z)) | (simp at z; done)))
local macro_rules | `(tactic| k_call_by "F" 0) => `(tactic| (refine ⟨?no, fun _ => ?_⟩; (case no => k_call_by "no" 0)))
local macro_rules | `(tactic| k_call_by "T" 0) => `(tactic| (refine ⟨fun _ => ?_, ?no⟩; (case no => k_call_by "no" 0)))
local macro_rules | `(tactic| k_call_by "s" 0) => `(tactic| (refine w_cons ?_; k_call_by "w" 0))
local macro_rules | `(tactic| k_call_by "l" 0) => `(tactic| repeat (first | with_reducible refine ea_cons ?_ (by with_unfolding_all rfl) | with_reducible refine ea_nil ?_ | with_reducible refine ev_lst ?_ | with_reducible refine ev_tup ?_ | with_reducible refine ev_int ?_ | with_reducible refine ev_neg ?_ | refine ⟨Nat.le_of_ble_eq_true rfl, ?_⟩ | refine ⟨_, rfl, ?_⟩))
section
variable {P : Program} {w : World} {K : PySem.W.Frag} {mg : Str → Option Value} {base : Heap}
def sp_l_shade_right (K : PySem.W.Frag) : SpecD := fun ds R => ∃ (S : Sd) (a b : Rat) (rws : List DL.D), ds = [shd K S, shT S, .tup [Fq S.z, Fq S.i], .lst rws] ∧ S.Gd ∧ RowsOk S a b rws ∧ R (.bl true)
theorem kn_l_shade_right (T : Tc K mg) : Kn P w K mg base CX0 "_law_shade_right" 7 (spP K (sp_l_shade_right K)) := by
  refine T.d_l_shade_right.kn (ps := ["_law_thing", "_law_shade_here", "_law_rule_here", "_law_rows"]) (fun _ _ _ _ _ _ us hl => match us, hl with | [_, _, _, _], _ => rfl) fun f fd F => def_ok F sc_l_shade_right (fun ds R h => by obtain ⟨_, _, _, _, rfl, _⟩ := h; rfl) fun X hx sc G H ds R h => ?_
  obtain ⟨S, a, b, rws, rfl, hS, hr, hR⟩ := h
  have hO := hS.ok
  refine w_cons ?_
  with_reducible refine w_asg 4 rfl rfl rfl ?_ (by with_unfolding_all rfl)
  with_reducible refine w_call 0 (kn_l_times T) rfl rfl ?_ (by with_unfolding_all rfl) (by with_unfolding_all rfl)
  k_call_by "w" 0
  with_reducible refine w_call 1 (kn_l_minus T) rfl rfl ?_ (by with_unfolding_all rfl) (by with_unfolding_all rfl)
  k_call_by "w" 0
  refine ⟨bq hO.rn, bq hO.rl, ?_⟩
  k_call_by "w" 0
  refine ⟨bq hO.bi, bq (hO.rn.sub hO.rl), ?_⟩
  have eg : S.i * (S.rn - S.rl) = S.g := rfl
  rw [eg]
  with_reducible refine w_cons ?_
  with_reducible refine w_if ?_
  with_reducible refine et_not ?_
  with_reducible refine et_call ?_
  with_reducible refine w_call 2 (kn_l_alike T 2) rfl rfl ?_ (by with_unfolding_all rfl) (by with_unfolding_all rfl)
  with_reducible refine ea_cons ?_ (by with_unfolding_all rfl)
  with_reducible refine ev_lst ?_
  with_reducible refine ea_cons ?_ (by with_unfolding_all rfl)
  refine w_fH T ?_ (by decide)
  k_call_by "n" 0
  refine ⟨_, _, rfl, rfl, ?_⟩
  with_reducible refine ea_cons ?_ (by with_unfolding_all rfl)
  refine w_fH T ?_ (by decide)
  k_call_by "n" 0
  refine ⟨_, _, rfl, rfl, ?_⟩
  with_reducible refine ea_cons ?_ (by with_unfolding_all rfl)
  refine w_fH T ?_ (by decide)
  k_call_by "n" 0
  refine ⟨_, _, rfl, rfl, ?_⟩
  with_reducible refine ea_nil ?_
  refine ⟨Nat.le_of_ble_eq_true rfl, ?_⟩
  with_reducible refine ea_cons ?_ (by with_unfolding_all rfl)
  with_reducible refine ev_lst ?_
  k_call_by "w" 0
  refine ⟨pl_3F _ _ _, ?_⟩
  refine ⟨_, rfl, fun z => by simp at z, fun _ => ?_⟩
  with_reducible refine w_nil ?_
  with_reducible refine w_cons ?_
  refine w_forN 5 rfl rfl rfl ?_
  refine iv_list ?_
  refine ev_joinSl ?_
  k_call_by "n" 0
  refine ev_int ⟨_, _, rfl, rfl, ?_⟩
  k_call_by "n" 0
  refine ev_neg ?_
  refine ev_int ⟨_, rfl, _, _, rfl, rfl, ?_, _, rfl, ?_⟩
  · have := hr.len; omega
  have hsub : ∀ d ∈ DL.cutD rws none (some 3) ++ DL.cutD rws (some (-3)) none, d ∈ rws := fun d hd => by
    rcases List.mem_append.mp hd with h | h
    · exact cutD_sub h
    · exact cutD_sub h
  generalize DL.cutD rws none (some 3) ++ DL.cutD rws (some (-3)) none = six at hsub
  refine ⟨fun k ω δ => ω = [] ∧ ∃ x y, δ = [some (shd K S), some (shT S), some (.tup [Fq S.z, Fq S.i]), some (.lst rws), some (Fq S.g), x, y], ⟨rfl, _, _, rfl⟩, fun k d ω δ hd hP => ?_, fun ω δ hP => ?_⟩
  · obtain ⟨rfl, x, y, rfl⟩ := hP
    obtain ⟨n, rfl, hn, hna, hnb⟩ := hr.at_ d (hsub d (List.mem_of_getElem? hd))
    refine w_cons ?_
    with_reducible refine w_asg 6 rfl rfl rfl ?_ (by with_unfolding_all rfl)
    with_reducible refine ev_tup ?_
    k_call_by "w" 0
    refine w_meth (kn_Shade_moment_of T) rfl ?_
    k_call_by "n" 0
    refine ⟨_, rfl, rfl, ?_⟩
    k_call_by "w" 0
    refine ⟨hO, hn, ?_⟩
    with_reducible refine ea_cons ?_ (by with_unfolding_all rfl)
    refine w_meth (kn_Shade_offset T) rfl ?_
    k_call_by "n" 0
    refine ⟨_, rfl, rfl, ?_⟩
    k_call_by "w" 0
    refine ⟨hO, ?_⟩
    with_reducible refine ea_cons ?_ (by with_unfolding_all rfl)
    refine w_meth (kn_Shade_is_dark T) rfl ?_
    k_call_by "n" 0
    refine ⟨_, rfl, rfl, ?_⟩
    k_call_by "w" 0
    refine ⟨hO, hn, ?_⟩
    with_reducible refine ea_nil ?_
    refine ⟨Nat.le_of_ble_eq_true rfl, ?_⟩
    with_reducible refine w_cons ?_
    with_reducible refine w_if ?_
    with_reducible refine et_not ?_
    with_reducible refine et_call ?_
    with_reducible refine w_call 2 (kn_l_alike T 2) rfl rfl ?_ (by with_unfolding_all rfl) (by with_unfolding_all rfl)
    k_call_by "w" 0
    refine ⟨pl_row S n, ?_⟩
    refine ⟨_, rfl, fun z => by simp at z, fun _ => ?_⟩
    exact w_nil (w_nil ⟨rfl, _, _, rfl⟩)
  · obtain ⟨rfl, x, y, rfl⟩ := hP
    k_call_by "w" 0
    exact hR
end
end Wh

set_option Elab.async false
set_option linter.all false
set_option maxRecDepth 100000
set_option maxHeartbeats 4000000
namespace Wh
open PySem L2 PyProof.Rows DL
section
variable {X : Cx} {C : CtxI} [hx : XOk X C] {E : Ent} {ω : List Cell} {δ : DE} {R : DL.D → Prop} {a : Expr} {pos q : Pos}
theorem w_minL (j : Nat) (hm : C.mg "min" = none) (hj : C.Gs[j]? = some "min") (h : EV X E ω δ a fun d => ∃ ns : List Int, d = .lst (ns.map DL.D.int) ∧ 0 < ns.length ∧ ∀ m, m ∈ ns → (∀ y, y ∈ ns → m ≤ y) → R (.int m))
    (he : starEach [a] X.env = (false, eval a X.env) :: starEach [] X.env := by rfl) (hpl : (backTo pos (starEach [] X.env)).any (·.1) = false := by rfl) : EV X E ω δ (.Call (.Name "min" q) [a] [] pos) R :=
  ev_callB hx.gl hj (cr_min hx.calm) (by rw [hx.mg]; exact hm) PyProof.Rows.boot_min nn_min (ea_cons (h.imp fun d q => ea_nil fun vs G H Q ok r k => by
    obtain ⟨ns, rfl, h1, h2⟩ := q
    cases r with
    | cons r1 r2 =>
      cases r2
      cases r1 with
      | @lst p ws _ hq rl =>
        have e : ws = ns.map V.int := RepL.of_s (vs := ns.map V.int) (by rw [List.map_map]; exact rl)
        subst e
        exact ⟨p, ns, rfl, ok.gh.seq hq, h1, fun m hm hy => k _ _ G H (h2 m hm hy) ok (Same.refl G) (.s _)⟩) he) he hpl
theorem evo_ans (jg : Nat) {k : Nat} {Rl : List Cell → DL.D → Prop} {Rx : RxT} {R : List Cell → DL.D → Prop} (vis : List Nat) (Gs : List Str) {c P : Addr} {params : Arguments} {body : Expr} {scope : Scope} {p lpos : Pos}
    (T : Td C.K C.mg) (hj : C.Gs[jg]? = some "_law_answer") (L : LamK X E.T c P) (hk : Nat.ble (k + 2) C.k = true) (hL : LamX.LamS X.env.scope scope) (B : ScB vis C.N Gs scope) (hdef : defaultsOf params X.env = ([], []))
    (hbind : ∀ (q : Str) (cl : List (Str × Addr)) (pm cv ctv : Value), bindArgs (PySem.W.kla_fn "<lambda>" q params body scope cl pm cv ctv) ⟨[], []⟩ = pure [])
    (hbody : ∀ (Y : Cx) [XOk Y ⟨C.P, C.w, C.K, C.mg, C.base, C.nv, C.N, Gs, k, some vis⟩] (G H : Hp), Takes Y (WXd H Rx) → EVO Y (ent G H [] []) [] δ body Rl)
    (hl : ∀ ω' d, Rl ω' d → (ω' = [] ∨ ∃ c, ω' = [c]) ∧ R ω' (.tup [.str "told", d]))
    (hRx : ∀ Cc fs, Rx Cc fs → ∃ ans, AnW C.K Cc fs ans ∧ R [] ans) :
    EVO X E ω δ (.Call (.Name "_law_answer" p) [.Lambda params body scope lpos] [] pos) R := by
  obtain ⟨f, fd, hm, F⟩ := T.d_l_answer.ex
  refine evo_lam jg (An := AnW C.K) (CS := He.ga C.K "SkyError") (Ng := NA) F hm hj (F.bindsN (ps := ["_law_call"]) (fun _ _ _ _ _ _ us hl => match us, hl with | [_], _ => rfl)) sc_l_answer.fs rfl (sc_l_answer.nm.vis 0 "_law_call" rfl rfl).1 (fun cdv => ans_gives T hx.K hx.mg f cdv _) L hk hL hdef hbind B hbody hl ?_ rfl rfl rfl
  intro Cc fs hR
  obtain ⟨ans, hA, hRa⟩ := hRx Cc fs hR
  refine ⟨ans, hA, ?_, hRa⟩
  rcases hA with ⟨s, rfl, _⟩ | ⟨n, rfl, _⟩
  · exact T.x_sky _ (by simp)
  · exact T.x_sky _ (by simp)
end
/-- one of the wrong things, or the written data of the first argument -/
def bads (S : Sd) (a b : Rat) (x : DL.D) : Prop := x = .non ∨ x = .int 0 ∨ x = .str "" ∨ x = shT S ∨ x = .tup [Fq a, Fq b] ∨ x = .lst []
theorem bads_ty {K : PySem.W.Frag} {mg : Str → Option Value} {S : Sd} {a b : Rat} {x : DL.D} {A : Str} (c : CA K mg A) (h : bads S a b x) : ∃ t, TyD K x t ∧ PySem.W.kitOne K t (.ref (He.ga K A)) = some false := by
  rcases h with rfl | rfl | rfl | rfl | rfl | rfl
  · exact ⟨_, .non, c.no "NoneType" (by simp)⟩
  · exact ⟨_, .int 0, c.no "int" (by simp)⟩
  · exact ⟨_, .str _, c.no "str" (by simp)⟩
  · exact ⟨_, .tup _, c.no "tuple" (by simp)⟩
  · exact ⟨_, .tup _, c.no "tuple" (by simp)⟩
  · exact ⟨_, .lst _, c.no "list" (by simp)⟩
theorem pl_bad (x y : Str) : Pl 1 (.tup [.str x, .str y]) := .tup (by simp) fun d hd => by
  simp only [List.mem_cons, List.not_mem_nil, or_false] at hd
  rcases hd with rfl | rfl <;> exact .str 0 _
local macro_rules | `(tactic| k_call_by "n" 0) => `(tactic| ((with_reducible refine' nm_ix rfl ?na ?nb ?nc ?nd); (case na => (repeat (first | with_reducible exact ix0 | with_reducible apply ixS))); (case nb => rfl); (case nc => rfl)))
local macro_rules | `(tactic| k_call_by "v" 0) => `(tactic| first
  | with_reducible refine w_cons ?_
  | with_reducible refine w_nil ?_
  | with_reducible refine w_ret ?_
  | with_reducible refine w_if ?_
  | with_reducible refine ea_cons ?_ (by with_unfolding_all rfl)
  | with_reducible refine ea_nil ?_
  | k_call_by "n" 0
  | with_reducible refine ev_int ?_ | with_reducible refine ev_bl ?_ | with_reducible refine ev_non ?_ | with_reducible refine ev_str ?_
  | with_reducible refine ev_add ?_
  | with_reducible refine ev_sub ?_
  | with_reducible refine ev_mul ?_
  | with_reducible refine ev_fdiv ?_
  | with_reducible refine ev_mod ?_
  | with_reducible refine ev_neg ?_
  | with_reducible refine ev_tup ?_
  | with_reducible refine et_lt ?_ | with_reducible refine et_le ?_ | with_reducible refine et_gt ?_ | with_reducible refine et_ge ?_
  | with_reducible refine ev_lt ?_ | with_reducible refine ev_le ?_ | with_reducible refine ev_gt ?_ | with_reducible refine ev_ge ?_
  | with_reducible refine et_ne ?_ | with_reducible refine et_eq ?_ | with_reducible refine ev_ne ?_ | with_reducible refine ev_eq ?_
  | with_reducible refine et_isN ?_ | with_reducible refine et_notN ?_
  | with_reducible refine et_not ?_
  | with_reducible refine et_and ?_ | with_reducible refine et_or ?_
  | with_reducible refine ew_and ?_ | with_reducible refine ew_or ?_
  | with_reducible refine ew_and1 ?_ | with_reducible refine ew_or1 ?_
  | with_reducible refine ev_and ?_ | with_reducible refine ev_or ?_ | with_reducible refine ev_one ?_ | with_reducible refine ev_not ?_
  | with_reducible refine ev_ifExp ?_
  | with_reducible refine et_call ?_
  | with_reducible refine ev_ixT ?_ (by with_unfolding_all exact fun _ _ => rfl)
  | with_reducible refine ⟨_, _, rfl, rfl, ?_⟩)
local macro_rules | `(tactic| k_call_by "w" 0) => `(tactic| repeat (first | k_call_by "v" 0 | refine ⟨Nat.le_of_ble_eq_true rfl, ?_⟩ | (refine ⟨?no, fun _ => ?_⟩; (case no => intro z; contradiction)) | (refine ⟨fun _ => ?_, ?no⟩; (case no => intro z; contradiction)) | refine ⟨_, rfl, ?_⟩ | refine ⟨_, _, _, rfl, rfl, rfl, ?_⟩ | refine ⟨_, _, rfl, ?_⟩ | refine ⟨_, _, _, rfl, ?_⟩ | refine ⟨_, _, _, _, rfl, ?_⟩))
local macro_rules | `(tactic| k_call_by "no" 0) => `(tactic| (intro z; first | (exact absurd z (by decide)) | (exact (nomatch z)) | (simp at z; done)))
local macro_rules | `(tactic| k_call_by "F" 0) => `(tactic| (refine ⟨?no, fun _ => ?_⟩; (case no => k_call_by "no" 0)))
local macro_rules | `(tactic| k_call_by "T" 0) => `(tactic| (refine ⟨fun _ => ?_, ?no⟩; (case no => k_call_by "no" 0)))
local macro_rules | `(tactic| k_call_by "s" 0) => `(tactic| (refine w_cons ?_; k_call_by "w" 0))
local macro_rules | `(tactic| k_call_by "l" 0) => `(tactic| repeat (first | with_reducible refine ea_cons ?_ (by with_unfolding_all rfl) | with_reducible refine ea_nil ?_ | with_reducible refine ev_lst ?_ | with_reducible refine ev_tup ?_ | with_reducible refine ev_int ?_ | with_reducible refine ev_neg ?_ | refine ⟨Nat.le_of_ble_eq_true rfl, ?_⟩ | refine ⟨_, rfl, ?_⟩))
section
variable {P : Program} {w : World} {K : PySem.W.Frag} {mg : Str → Option Value} {base : Heap}
def sp_l_form_right (K : PySem.W.Frag) : SpecD := fun ds R => ∃ (p : Addr) (S : Sd) (a b : Rat), ds = [.s (.ref p), shd K S, spn K a b, .lst [shT S, .tup [Fq a, Fq b]]] ∧ R (.bl true)
theorem kn_l_form_right (T : Te K mg base) : Kn P w K mg base CX0 "_law_form_right" 11 (spG K (Tt K) (stc K) (sp_l_form_right K)) := by
  obtain ⟨f, fd, hm, F⟩ := T.d_l_form_right.ex
  have ef : He.fAd K ("_law_form_right", none) = f := by have := T.g_frm; rw [hm] at this; injection this with e; injection e with e; exact e.symm
  refine ⟨f, fd, ["_law_store_here", "_law_thing", "_law_span", "_law_rows"], hm, F.kp, F.bindsN (fun _ _ _ _ _ _ us hl => match us, hl with | [_, _, _, _], _ => rfl), def_okL (n := "_law_form_right") F sc_l_form_right (fun ds R h => by obtain ⟨_, _, _, _, rfl, _⟩ := h; rfl) ef T.t_frm Tt_mem_frm T.uq_frm fun X hx sc L G H ds R h => ?_⟩
  obtain ⟨p, S, a, b, rfl, hR⟩ := h
  have hK : X.K = K := hx.K
  have hst : ∀ {c : Cell}, [Cell.inv K p StOk].Sublist [c, Cell.inv X.K p StOk] := fun {c} => by rw [hK]; exact List.sublist_cons_self _ _
  have hst1 : [Cell.inv K p StOk].Sublist [Cell.inv X.K p StOk] := by rw [hK]; exact List.Sublist.refl _
  have est : stc K [.s (.ref p), shd K S, spn K a b, .lst [shT S, .tup [Fq a, Fq b]]] = [Cell.inv X.K p StOk] := by rw [hK]; rfl
  rw [est]
  refine w_cons ?_
  refine w_newL 4 rfl rfl rfl ?_
  k_call_by "w" 0
  refine fun r hr => ?_
  with_reducible refine w_cons ?_
  with_reducible refine w_asg 5 rfl rfl rfl ?_ (by with_unfolding_all rfl)
  with_reducible refine ev_lst ?_
  with_reducible refine ea_cons ?_ (by with_unfolding_all rfl)
  with_reducible refine w_take 0 T.toTc rfl rfl hst ?_ (by with_unfolding_all rfl) (by with_unfolding_all rfl) (by with_unfolding_all rfl)
  k_call_by "n" 0
  refine ⟨rfl, ev_int ⟨2, rfl, sm9 (by decide), fun s1 h10 h11 => ?_⟩⟩
  with_reducible refine ea_cons ?_ (by with_unfolding_all rfl)
  with_reducible refine w_take 0 T.toTc rfl rfl hst ?_ (by with_unfolding_all rfl) (by with_unfolding_all rfl) (by with_unfolding_all rfl)
  k_call_by "n" 0
  refine ⟨rfl, ev_int ⟨2, rfl, sm9 (by decide), fun s2 h20 h21 => ?_⟩⟩
  with_reducible refine ea_nil ?_
  refine ⟨Nat.le_of_ble_eq_true rfl, ?_⟩
  have hsp : ∀ v ∈ [s1, s2], v = 0 ∨ v = 1 := fun v hv => by
    simp only [List.mem_cons, List.not_mem_nil, or_false] at hv
    rcases hv with rfl | rfl <;> omega
  generalize hsps : [s1, s2] = sps at hsp
  have el : (.lst [.int s1, .int s2] : DL.D) = .lst (sps.map DL.D.int) := by rw [← hsps]; rfl
  rw [el]
  have hlen : sps.length = 2 := by rw [← hsps]; rfl
  with_reducible refine w_cons ?_
  refine w_forN 6 rfl rfl rfl ?_
  refine iv_list ?_
  k_call_by "n" 0
  refine ⟨_, rfl, fun k ω δ => ∃ x0 x1 u v, ω = [Cell.own X.K r [x0, x1], Cell.inv X.K p StOk] ∧ δ = [some (.s (.ref p)), some (shd K S), some (spn K a b), some (.lst [shT S, .tup [Fq a, Fq b]]), some (.s (.ref r)), some (.lst (sps.map DL.D.int)), u, v] ∧
    ((0 : Int) ∉ sps.take k → x0 = shd K S) ∧ ((0 : Int) ∈ sps.take k → bads S a b x0) ∧ ((1 : Int) ∉ sps.take k → x1 = spn K a b) ∧ ((1 : Int) ∈ sps.take k → bads S a b x1), ⟨_, _, _, _, rfl, rfl, fun _ => rfl, fun z => by simp at z, fun _ => rfl, fun z => by simp at z⟩, fun k d ω δ hd hP => ?_, fun ω δ hP => ?_⟩
  · obtain ⟨x0, x1, u, v, rfl, rfl, q0, q1, q2, q3⟩ := hP
    rw [List.getElem?_map] at hd
    cases hk : sps[k]? with
    | none => rw [hk] at hd; cases hd
    | some s =>
      rw [hk] at hd
      cases hd
      have hs := hsp s (List.mem_of_getElem? hk)
      have htk : sps.take (k + 1) = sps.take k ++ [s] := by rw [List.take_add_one, hk]; rfl
      obtain ⟨y, hy1, hy2⟩ : ∃ y, atI [shT S, .tup [Fq a, Fq b]] s = some y ∧ (y = shT S ∨ y = .tup [Fq a, Fq b]) := by
        rcases hs with rfl | rfl
        · exact ⟨_, rfl, .inl rfl⟩
        · exact ⟨_, rfl, .inr rfl⟩
      refine w_cons ?_
      refine w_setix (ω1 := []) (ω2 := [Cell.inv X.K p StOk]) rfl ?_
      with_reducible refine w_callW 1 (kn_l_pick T.toTc) rfl rfl ?_ (by with_unfolding_all rfl) (by with_unfolding_all rfl)
      with_reducible refine ea_cons ?_ (by with_unfolding_all rfl)
      k_call_by "n" 0
      with_reducible refine ea_cons ?_ (by with_unfolding_all rfl)
      with_reducible refine ev_lst ?_
      with_reducible refine ea_cons ?_ (by with_unfolding_all rfl)
      refine ev_non ?_
      with_reducible refine ea_cons ?_ (by with_unfolding_all rfl)
      refine ev_int ?_
      with_reducible refine ea_cons ?_ (by with_unfolding_all rfl)
      refine ev_str ?_
      with_reducible refine ea_cons ?_ (by with_unfolding_all rfl)
      with_reducible refine ev_ixL ?_ (by with_unfolding_all exact fun _ _ => rfl)
      k_call_by "n" 0
      k_call_by "n" 0
      refine ⟨_, _, _, rfl, rfl, hy1, ?_⟩
      with_reducible refine ea_cons ?_ (by with_unfolding_all rfl)
      with_reducible refine ev_lst ?_
      with_reducible refine ea_nil ?_
      refine ⟨Nat.le_of_ble_eq_true rfl, ?_⟩
      with_reducible refine ea_nil ?_
      refine ⟨Nat.le_of_ble_eq_true rfl, ?_⟩
      with_reducible refine ea_nil ?_
      refine ⟨hst, .inl rfl, p, _, rfl, Nat.le_of_ble_eq_true rfl, Nat.le_of_ble_eq_true rfl, fun x hx' => ?_⟩
      have hb : bads S a b x := by
        simp only [List.mem_cons, List.not_mem_nil, or_false] at hx'
        rcases hx' with rfl | rfl | rfl | rfl | rfl
        · exact .inl rfl
        · exact .inr (.inl rfl)
        · exact .inr (.inr (.inl rfl))
        · rcases hy2 with rfl | rfl
          · exact .inr (.inr (.inr (.inl rfl)))
          · exact .inr (.inr (.inr (.inr (.inl rfl))))
        · exact .inr (.inr (.inr (.inr (.inr rfl))))
      k_call_by "n" 0
      refine ⟨rfl, ?_⟩
      k_call_by "n" 0
      rcases hs with rfl | rfl
      · refine ⟨0, 0, rfl, rfl, w_nil ⟨_, _, _, _, rfl, rfl, fun z => ?_, fun _ => hb, fun z => ?_, fun z => ?_⟩⟩
        · rw [htk] at z; simp at z
        · rw [htk] at z; exact q2 (fun h => z (List.mem_append_left _ h))
        · rw [htk] at z
          rcases List.mem_append.mp z with h | h
          · exact q3 h
          · simp at h
      · refine ⟨1, 1, rfl, rfl, w_nil ⟨_, _, _, _, rfl, rfl, fun z => ?_, fun z => ?_, fun z => ?_, fun _ => hb⟩⟩
        · rw [htk] at z; exact q0 (fun h => z (List.mem_append_left _ h))
        · rw [htk] at z
          rcases List.mem_append.mp z with h | h
          · exact q1 h
          · simp at h
        · rw [htk] at z; simp at z
  · obtain ⟨x0, x1, u, v, rfl, rfl, q0, q1, q2, q3⟩ := hP
    have et : sps.take (sps.map DL.D.int).length = sps := by rw [List.length_map]; exact List.take_length
    rw [et] at q0 q1 q2 q3
    refine bv_freeze (ω1 := []) rfl hr (seen_name (i := 4) rfl) ?_
    with_reducible refine w_cons ?_
    refine w_asgE 7 rfl rfl rfl (evo_ans (k := 7) 2 (Rl := fun _ _ => False) (Rx := fun Cc fs => Cc = He.ga K "BadValue" ∧ fs = [(("what" : Str), V.str (if (0 : Int) ∈ sps then "shade" else "span"))]) [4] ["roll"] T.toTd rfl L rfl (by rw [sc]; exact LamX.lamS_by (by decide +kernel)) (.of (by kernel_rfl)) rfl (fun _ _ _ _ _ => rfl) (fun Y hY G2 H2 tk => ?_) (fun _ _ z => z.elim) (fun Cc fs hz => ?_)) (by rfl)
    · refine evo_callXO 0 (kn_roll T.toTc) rfl rfl tk ent_pu ?_
      with_reducible refine ea_cons ?_ (by with_unfolding_all rfl)
      with_reducible refine ev_ixL ?_ (by with_unfolding_all exact fun _ _ => rfl)
      k_call_by "n" 0
      refine ev_int ⟨_, _, _, rfl, rfl, rfl, ?_⟩
      with_reducible refine ea_cons ?_ (by with_unfolding_all rfl)
      with_reducible refine ev_ixL ?_ (by with_unfolding_all exact fun _ _ => rfl)
      k_call_by "n" 0
      refine ev_int ⟨_, _, _, rfl, rfl, rfl, ?_⟩
      with_reducible refine ea_nil ?_
      have hspn : ∃ t b, TyD K x1 t ∧ PySem.W.kitOne K t (.ref (He.ga K "Span")) = some b := by
        by_cases h1 : (1 : Int) ∈ sps
        · obtain ⟨t, h2, h3⟩ := bads_ty T.c_Span (q3 h1)
          exact ⟨t, _, h2, h3⟩
        · rw [q2 h1]
          exact ⟨_, _, .ins T.c_Span.i, kit_self⟩
      by_cases h0 : (0 : Int) ∈ sps
      · obtain ⟨t, h2, h3⟩ := bads_ty T.c_Shade (q1 h0)
        obtain ⟨t2, b2, h4, h5⟩ := hspn
        exact ⟨x0, x1, t, t2, false, b2, rfl, h2, h4, h3, h5, fun _ => ⟨rfl, by rw [if_pos h0]⟩, (fun z => by cases z), (fun z => by cases z)⟩
      · have h1 : (1 : Int) ∈ sps := by
          cases hh : sps[0]? with
          | none => rw [List.getElem?_eq_none_iff] at hh; omega
          | some s =>
            have hm := List.mem_of_getElem? hh
            rcases hsp s hm with rfl | rfl
            · exact absurd hm h0
            · exact hm
        obtain ⟨t2, h4, h5⟩ := bads_ty T.c_Span (q3 h1)
        rw [q0 h0]
        exact ⟨_, x1, _, t2, true, false, rfl, .ins T.c_Shade.i, h4, kit_self, h5, (fun z => by cases z), (fun _ _ => ⟨rfl, by rw [if_neg h0]⟩), (fun _ z => by cases z)⟩
    · obtain ⟨rfl, rfl⟩ := hz
      refine ⟨_, .inl ⟨_, rfl, rfl, rfl⟩, ?_⟩
      with_reducible refine w_cons ?_
      with_reducible refine w_ret ?_
      with_reducible refine w_call 3 (kn_l_alike T.toTc 1) rfl rfl ?_ (by with_unfolding_all rfl) (by with_unfolding_all rfl)
      with_reducible refine ea_cons ?_ (by with_unfolding_all rfl)
      k_call_by "n" 0
      with_reducible refine ea_cons ?_ (by with_unfolding_all rfl)
      with_reducible refine ev_tup ?_
      with_reducible refine ea_cons ?_ (by with_unfolding_all rfl)
      refine ev_str ?_
      with_reducible refine ea_cons ?_ (by with_unfolding_all rfl)
      with_reducible refine ev_ixL ?_ (by with_unfolding_all exact fun _ _ => rfl)
      with_reducible refine ev_lst ?_
      with_reducible refine ea_cons ?_ (by with_unfolding_all rfl)
      refine ev_str ?_
      with_reducible refine ea_cons ?_ (by with_unfolding_all rfl)
      refine ev_str ?_
      with_reducible refine ea_nil ?_
      refine ⟨Nat.le_of_ble_eq_true rfl, ?_⟩
      refine w_minL 4 T.b_min rfl ?_
      k_call_by "n" 0
      refine ⟨sps, rfl, by omega, fun m hm hmin => ?_⟩
      have hnm : atI ([.str "shade", .str "span"] : List DL.D) m = some (.str (if (0 : Int) ∈ sps then "shade" else "span")) := by
        by_cases h0 : (0 : Int) ∈ sps
        · have : m = 0 := by
            have := hmin 0 h0
            rcases hsp m hm with h | h <;> omega
          subst this
          rw [if_pos h0]; rfl
        · have : m = 1 := by
            rcases hsp m hm with rfl | rfl
            · exact absurd hm h0
            · rfl
          subst this
          rw [if_neg h0]; rfl
      refine ⟨_, _, _, rfl, rfl, hnm, ?_⟩
      with_reducible refine ea_nil ?_
      refine ⟨Nat.le_of_ble_eq_true rfl, ?_⟩
      with_reducible refine ea_nil ?_
      exact ⟨_, rfl, pl_bad _ _, List.Sublist.refl _, hR⟩
end
end Wh

set_option Elab.async false
set_option linter.all false
set_option maxRecDepth 100000
set_option maxHeartbeats 4000000
namespace Wh
open PySem L2 PyProof.Rows DL
def rlT (K : PySem.W.Frag) (S : Sd) (a b : Rat) : List Cell → DL.D → Prop := fun ω' d => S.c a b ≤ 400 ∧ ∃ p, ω' = [Cell.own K p (S.rows a b)] ∧ d = .s (.ref p)
def rxT (K : PySem.W.Frag) (S : Sd) (a b : Rat) : RxT := fun Cc fs => 400 < S.c a b ∧ Cc = He.ga K "TooMany" ∧ fs = [(("limit" : Str), V.int 400)]
theorem cutS {X : Cx} {E : Ent} {ω : List Cell} {δ : DE} {st : Stmt} {rest : List Stmt} {nx : List Cell → DE → Prop} {rt : List Cell → DL.D → Prop} {bk ct : List Cell → DE → Prop} (h : SV X E ω δ st ⟨fun ω' δ' => ω' = ω ∧ δ' = δ, rt, bk, ct⟩) (h2 : BV X E ω δ rest ⟨nx, rt, bk, ct⟩) : BV X E ω δ (st :: rest) ⟨nx, rt, bk, ct⟩ :=
  cutM _ h fun ω' δ' q => by obtain ⟨e1, e2⟩ := q; subst e1 e2; exact h2
/-- the moments of the roll -/
def momsD (S : Sd) (a b : Rat) : List DL.D := (List.range (S.c a b).toNat).map fun (k : Nat) => Fq (mom S.z S.i (S.l a + k))
def momD (S : Sd) (a b : Rat) : DL.D := if S.c a b ≤ 400 then .tup [.str "told", .lst (momsD S a b)] else .tup [.str "TooMany", .int 400]
theorem pl_due (S : Sd) (a b : Rat) : Pl 4 (dueD S a b) := by
  unfold dueD
  split
  · rename_i hc
    refine .tup (by simp) fun d hd => ?_
    simp only [List.mem_cons, List.not_mem_nil, or_false] at hd
    rcases hd with rfl | rfl
    · exact .str 3 _
    · refine .lst ?_ fun x hx => ?_
      · unfold Sd.rows
        rw [List.length_map, List.length_range]
        omega
      · obtain ⟨k, hk, rfl⟩ := List.mem_map.mp hx
        exact pl_row S _
  · refine .tup (by simp) fun d hd => ?_
    simp only [List.mem_cons, List.not_mem_nil, or_false] at hd
    rcases hd with rfl | rfl
    · exact .str 3 _
    · exact .int 3 _
theorem pl_mom (S : Sd) (a b : Rat) : Pl 4 (momD S a b) := by
  unfold momD
  split
  · rename_i hc
    refine .tup (by simp) fun d hd => ?_
    simp only [List.mem_cons, List.not_mem_nil, or_false] at hd
    rcases hd with rfl | rfl
    · exact .str 3 _
    · refine .lst ?_ fun x hx => ?_
      · unfold momsD
        rw [List.length_map, List.length_range]
        omega
      · obtain ⟨k, hk, rfl⟩ := List.mem_map.mp hx
        exact pl_mono (pl_F _)
  · refine .tup (by simp) fun d hd => ?_
    simp only [List.mem_cons, List.not_mem_nil, or_false] at hd
    rcases hd with rfl | rfl
    · exact .str 3 _
    · exact .int 3 _
theorem twin_due {S : Sd} (h : S.Ok) (a b : Rat) : dueD S.twin a b = dueD S a b := by
  unfold dueD
  rw [Sd.twin_c h, Sd.twin_rows h]
local macro_rules | `(tactic| k_call_by "n" 0) => `(tactic| ((with_reducible refine' nm_ix rfl ?na ?nb ?nc ?nd); (case na => (repeat (first | with_reducible exact ix0 | with_reducible apply ixS))); (case nb => rfl); (case nc => rfl)))
local macro_rules | `(tactic| k_call_by "v" 0) => `(tactic| first
  | with_reducible refine w_cons ?_
  | with_reducible refine w_nil ?_
  | with_reducible refine w_ret ?_
  | with_reducible refine w_if ?_
  | with_reducible refine ea_cons ?_ (by with_unfolding_all rfl)
  | with_reducible refine ea_nil ?_
  | k_call_by "n" 0
  | with_reducible refine ev_int ?_ | with_reducible refine ev_bl ?_ | with_reducible refine ev_non ?_ | with_reducible refine ev_str ?_
  | with_reducible refine ev_add ?_
  | with_reducible refine ev_sub ?_
  | with_reducible refine ev_mul ?_
  | with_reducible refine ev_fdiv ?_
  | with_reducible refine ev_mod ?_
  | with_reducible refine ev_neg ?_
  | with_reducible refine ev_tup ?_
  | with_reducible refine et_lt ?_ | with_reducible refine et_le ?_ | with_reducible refine et_gt ?_ | with_reducible refine et_ge ?_
  | with_reducible refine ev_lt ?_ | with_reducible refine ev_le ?_ | with_reducible refine ev_gt ?_ | with_reducible refine ev_ge ?_
  | with_reducible refine et_ne ?_ | with_reducible refine et_eq ?_ | with_reducible refine ev_ne ?_ | with_reducible refine ev_eq ?_
  | with_reducible refine et_isN ?_ | with_reducible refine et_notN ?_
  | with_reducible refine et_not ?_
  | with_reducible refine et_and ?_ | with_reducible refine et_or ?_
  | with_reducible refine ew_and ?_ | with_reducible refine ew_or ?_
  | with_reducible refine ew_and1 ?_ | with_reducible refine ew_or1 ?_
  | with_reducible refine ev_and ?_ | with_reducible refine ev_or ?_ | with_reducible refine ev_one ?_ | with_reducible refine ev_not ?_
  | with_reducible refine ev_ifExp ?_
  | with_reducible refine et_call ?_
  | with_reducible refine ev_ixT ?_ (by with_unfolding_all exact fun _ _ => rfl)
  | with_reducible refine ⟨_, _, rfl, rfl, ?_⟩)
local macro_rules | `(tactic| k_call_by "w" 0) => `(tactic| repeat (first | k_call_by "v" 0 | refine ⟨Nat.le_of_ble_eq_true rfl, ?_⟩ | (refine ⟨?no, fun _ => ?_⟩; (case no => intro z; contradiction)) | (refine ⟨fun _ => ?_, ?no⟩; (case no => intro z; contradiction)) | refine ⟨_, rfl, ?_⟩ | refine ⟨_, _, _, rfl, rfl, rfl, ?_⟩ | refine ⟨_, _, rfl, ?_⟩ | refine ⟨_, _, _, rfl, ?_⟩ | refine ⟨_, _, _, _, rfl, ?_⟩))
local macro_rules | `(tactic| k_call_by "no" 0) => `(tactic| (intro z; first | (exact absurd z (by decide)) | (exact (nomatch z)) | (simp at z; done)))
local macro_rules | `(tactic| k_call_by "F" 0) => `(tactic| (refine ⟨?no, fun _ => ?_⟩; (case no => k_call_by "no" 0)))
local macro_rules | `(tactic| k_call_by "T" 0) => `(tactic| (refine ⟨fun _ => ?_, ?no⟩; (case no => k_call_by "no" 0)))
local macro_rules | `(tactic| k_call_by "s" 0) => `(tactic| (refine w_cons ?_; k_call_by "w" 0))
local macro_rules | `(tactic| k_call_by "l" 0) => `(tactic| repeat (first | with_reducible refine ea_cons ?_ (by with_unfolding_all rfl) | with_reducible refine ea_nil ?_ | with_reducible refine ev_lst ?_ | with_reducible refine ev_tup ?_ | with_reducible refine ev_int ?_ | with_reducible refine ev_neg ?_ | refine ⟨Nat.le_of_ble_eq_true rfl, ?_⟩ | refine ⟨_, rfl, ?_⟩))
section
variable {P : Program} {w : World} {K : PySem.W.Frag} {mg : Str → Option Value} {base : Heap}
def sp_law : SpecD := fun ds R => ∃ ns : List Int, ds = [.lst (ns.map DL.D.int)] ∧ ns.length ≤ 100000 ∧ R (.bl true)
theorem fn_law (T : Te K mg base) {f : Addr} {fd : FuncData} (hm : mg "law" = some (.ref f)) (F : FnP K "law" "law" s_law f fd) : FnOk P w K mg base CX0 12 f fd ["_law_script"] (spG K (Tt K) noC sp_law) := by
  have ef : He.fAd K ("law", none) = f := by have := T.g_law; rw [hm] at this; injection this with e; injection e with e; exact e.symm
  refine def_okL (n := "law") F sc_law (fun ds R h => by obtain ⟨_, rfl, _⟩ := h; rfl) ef T.t_law Tt_mem_law T.uq_law fun X hx sc L G H ds R h => ?_
  obtain ⟨ns, rfl, hl, hR⟩ := h
  have hK : X.K = K := hx.K
  refine w_cons ?_
  refine w_asgO 1 0 (kn_l_store T.toTc) rfl rfl rfl rfl rfl ?_
  k_call_by "w" 0
  refine ⟨hl, fun es hes p hp => ?_⟩
  refine bv_close (ω1 := []) (ω2 := []) rfl hes ?_
  have hst : [Cell.inv K p StOk].Sublist [Cell.inv X.K p StOk] := by rw [hK]; exact List.Sublist.refl _
  with_reducible refine w_cons ?_
  with_reducible refine w_asg 2 rfl rfl rfl ?_ (by with_unfolding_all rfl)
  with_reducible refine w_callW 1 (kn_l_shade T.toTc) rfl rfl ?_ (by with_unfolding_all rfl) (by with_unfolding_all rfl)
  with_reducible refine ea_cons ?_ (by with_unfolding_all rfl)
  k_call_by "n" 0
  with_reducible refine ea_nil ?_
  refine ⟨hst, .inl rfl, p, rfl, fun S hS => ?_⟩
  have hO := hS.ok
  with_reducible refine w_cons ?_
  with_reducible refine w_asg 3 rfl rfl rfl ?_ (by with_unfolding_all rfl)
  with_reducible refine w_call 2 (kn_l_shade_rule T.toTc) rfl rfl ?_ (by with_unfolding_all rfl) (by with_unfolding_all rfl)
  k_call_by "w" 0
  refine ⟨_, _, _, _, _, _, rfl, hO.r0, hO.rl, hO.sl, hO.rc, hO.sc, ?_⟩
  have ez : (.tup [Fq (zmo (S.rc - S.rl) (S.sc - S.sl)), Fq (ivl (S.rc - S.rl))] : DL.D) = .tup [Fq S.z, Fq S.i] := rfl
  rw [ez]
  with_reducible refine w_cons ?_
  with_reducible refine w_asg 4 rfl rfl rfl ?_ (by with_unfolding_all rfl)
  with_reducible refine ev_ixT ?_ (by with_unfolding_all exact fun _ _ => rfl)
  k_call_by "n" 0
  refine ev_int ⟨_, _, _, rfl, rfl, rfl, ?_⟩
  refine cutM (fun ω δ => ω = [Cell.inv X.K p StOk] ∧ ∃ st : Rat, Q.B 200 st ∧ ∃ x0 y5 y6 y7 y8 y9 y10 y11 y12 y13 y14 y15 : Option DL.D, δ = [x0, some (.s (.ref p)), some (shT S), some (.tup [Fq S.z, Fq S.i]), some (Fq st), y5, y6, y7, y8, y9, y10, y11, y12, y13, y14, y15]) ?_ ?_
  · with_reducible refine w_if ?_
    with_reducible refine et_eq ?_
    with_reducible refine w_take 3 T.toTc rfl rfl hst ?_ (by with_unfolding_all rfl) (by with_unfolding_all rfl) (by with_unfolding_all rfl)
    k_call_by "n" 0
    refine ⟨rfl, ev_int ⟨4, rfl, sm9 (by decide), fun r r0 r1 => ?_⟩⟩
    refine ev_int ⟨_, _, rfl, rfl, rfl, fun _ => ?_, fun _ => ?_⟩
    · with_reducible refine w_cons ?_
      with_reducible refine w_asg 4 rfl rfl rfl ?_ (by with_unfolding_all rfl)
      with_reducible refine w_call 4 (kn_l_plus T.toTc) rfl rfl ?_ (by with_unfolding_all rfl) (by with_unfolding_all rfl)
      with_reducible refine ea_cons ?_ (by with_unfolding_all rfl)
      k_call_by "n" 0
      with_reducible refine ea_cons ?_ (by with_unfolding_all rfl)
      with_reducible refine w_call 5 (kn_l_times T.toTc) rfl rfl ?_ (by with_unfolding_all rfl) (by with_unfolding_all rfl)
      with_reducible refine ea_cons ?_ (by with_unfolding_all rfl)
      with_reducible refine ev_ixT ?_ (by with_unfolding_all exact fun _ _ => rfl)
      k_call_by "n" 0
      refine ev_int ⟨_, _, _, rfl, rfl, rfl, ?_⟩
      with_reducible refine ea_cons ?_ (by with_unfolding_all rfl)
      with_reducible refine ev_tup ?_
      with_reducible refine ea_cons ?_ (by with_unfolding_all rfl)
      with_reducible refine w_callW 6 (kn_l_whole T.toTc) rfl rfl ?_ (by with_unfolding_all rfl) (by with_unfolding_all rfl)
      with_reducible refine ea_cons ?_ (by with_unfolding_all rfl)
      k_call_by "n" 0
      with_reducible refine ea_cons ?_ (by with_unfolding_all rfl)
      refine ev_pow ?_
      refine ev_int ?_
      refine ev_int ⟨_, _, rfl, rfl, ⟨by decide, by decide, by decide⟩, ?_⟩
      with_reducible refine ea_nil ?_
      refine ⟨hst, .inl rfl, p, _, rfl, by decide, Nat.lt_of_lt_of_le (by decide : ((10 : Int) ^ (30 : Int).toNat).natAbs < 2 ^ 100) (Nat.pow_le_pow_right (by omega) (by omega)), fun n n0 n1 => ?_⟩
      k_call_by "w" 0
      have bn : Q.B 101 ((n : Int) : Rat) := Q.B.ofInt (a := 100) (by
        have e : ((10 : Int) ^ (30 : Int).toNat) = 1000000000000000000000000000000 := by decide
        rw [e] at n0 n1
        have e2 : (2 : Nat) ^ 100 = 1267650600228229401496703205376 := by decide
        rw [e2]
        omega)
      refine ⟨S.i, (n : Rat), by rw [iF], bq hS.i, bq bn, ?_⟩
      with_reducible refine ea_nil ?_
      refine ⟨_, _, rfl, bq hS.z, bq (hS.i.mul bn), ?_⟩
      exact w_nil ⟨rfl, _, (hS.z.add (hS.i.mul bn)).mono (by decide), _, _, _, _, _, _, _, _, _, _, _, _, rfl⟩
    · exact w_nil ⟨rfl, _, hS.z.mono (by decide), _, _, _, _, _, _, _, _, _, _, _, _, rfl⟩
  rintro ω δ ⟨rfl, st, bst, x0, y5, y6, y7, y8, y9, y10, y11, y12, y13, y14, y15, rfl⟩
  with_reducible refine w_cons ?_
  with_reducible refine w_asg 5 rfl rfl rfl ?_ (by with_unfolding_all rfl)
  with_reducible refine w_callW 7 (kn_l_span_over T.toTc) rfl rfl ?_ (by with_unfolding_all rfl) (by with_unfolding_all rfl)
  with_reducible refine ea_cons ?_ (by with_unfolding_all rfl)
  k_call_by "n" 0
  with_reducible refine ea_cons ?_ (by with_unfolding_all rfl)
  k_call_by "n" 0
  with_reducible refine ea_cons ?_ (by with_unfolding_all rfl)
  with_reducible refine ev_ixT ?_ (by with_unfolding_all exact fun _ _ => rfl)
  k_call_by "n" 0
  refine ev_int ⟨_, _, _, rfl, rfl, rfl, ?_⟩
  with_reducible refine ea_cons ?_ (by with_unfolding_all rfl)
  with_reducible refine w_callW 8 (kn_l_many T.toTc) rfl rfl ?_ (by with_unfolding_all rfl) (by with_unfolding_all rfl)
  with_reducible refine ea_cons ?_ (by with_unfolding_all rfl)
  k_call_by "n" 0
  with_reducible refine ea_cons ?_ (by with_unfolding_all rfl)
  refine ev_int ?_
  with_reducible refine ea_nil ?_
  refine ⟨hst, .inl rfl, p, rfl, fun m m0 m1 => ?_⟩
  with_reducible refine ea_nil ?_
  refine ⟨hst, .inl rfl, p, _, _, m, rfl, hO.ip, bst, hS.i, m0, m1, fun a b ba bb hab => ?_⟩
  have ba4 : Q.B 400 a := ba.mono (by decide)
  have bb4 : Q.B 400 b := bb.mono (by decide)
  refine cutM (fun ω δ => ω = [Cell.inv X.K p StOk] ∧ ∃ S' : Sd, S'.Gd ∧ ∃ x0 x4 y6 y7 y8 y9 y10 y11 y12 y13 y14 y15 : Option DL.D, δ = [x0, some (.s (.ref p)), some (shT S'), some (.tup [Fq S'.z, Fq S'.i]), x4, some (.tup [Fq a, Fq b]), y6, y7, y8, y9, y10, y11, y12, y13, y14, y15]) ?_ ?_
  · with_reducible refine w_if ?_
    with_reducible refine et_gt ?_
    with_reducible refine w_take 3 T.toTc rfl rfl hst ?_ (by with_unfolding_all rfl) (by with_unfolding_all rfl) (by with_unfolding_all rfl)
    k_call_by "n" 0
    refine ⟨rfl, ev_int ⟨4, rfl, sm9 (by decide), fun r r0 r1 => ?_⟩⟩
    refine ev_int ⟨_, _, rfl, rfl, fun _ => ?_, fun _ => ?_⟩
    · with_reducible refine w_cons ?_
      with_reducible refine w_asg 2 rfl rfl rfl ?_ (by with_unfolding_all rfl)
      with_reducible refine w_callW 9 (kn_l_darkened T.toTc) rfl rfl ?_ (by with_unfolding_all rfl) (by with_unfolding_all rfl)
      k_call_by "w" 0
      refine ⟨hst, .inl rfl, p, S, a, b, rfl, hS, ba, bb, fun rn sn hg => ?_⟩
      exact w_nil ⟨rfl, S.node rn sn, hg, _, _, _, _, _, _, _, _, _, _, _, _, rfl⟩
    · exact w_nil ⟨rfl, S, hS, _, _, _, _, _, _, _, _, _, _, _, _, rfl⟩
  rintro ω δ ⟨rfl, S', hS', x0', x4, z6, z7, z8, z9, z10, z11, z12, z13, z14, z15, rfl⟩
  clear hO hS bst ez
  clear S
  obtain ⟨S, hS⟩ : ∃ S : Sd, S = S' := ⟨S', rfl⟩
  subst hS
  have hS := hS'
  have hO := hS.ok
  with_reducible refine w_cons ?_
  with_reducible refine w_asg 6 rfl rfl rfl ?_ (by with_unfolding_all rfl)
  with_reducible refine w_call 10 (kn_l_roll_due T.toTc) rfl rfl ?_ (by with_unfolding_all rfl) (by with_unfolding_all rfl)
  k_call_by "w" 0
  refine ⟨hO, ba4, bb4, ?_⟩
  with_reducible refine w_cons ?_
  refine w_svlcN 7 15 [15] ["Cycle"] rfl rfl (by rw [sc]; rfl) rfl rfl (by rw [sc]; exact .of (by kernel_rfl)) rfl (iv_tup (ev_sliceTT ?_))
  k_call_by "n" 0
  refine ev_int ⟨_, 3, rfl, rfl, by simp, ?_⟩
  refine ⟨_, rfl, [cyc K S.rl S.sl, cyc K S.rc S.sc, cyc K S.rn S.sn], Nat.le_of_ble_eq_true rfl, rfl, fun i d c hd Y hY => ?_, ?_⟩
  · obtain ⟨r, s, rfl, h0, h1, he⟩ : ∃ r s : Rat, d = pr r s ∧ 0 ≤ s ∧ s < 1 ∧ [cyc K S.rl S.sl, cyc K S.rc S.sc, cyc K S.rn S.sn][i]? = some (cyc K r s) := by
      match i, hd with
      | 0, hd => cases hd; exact ⟨_, _, rfl, hS.pl.1.1, hS.pl.1.2, rfl⟩
      | 1, hd => cases hd; exact ⟨_, _, rfl, hS.pl.2.1.1, hS.pl.2.1.2, rfl⟩
      | 2, hd => cases hd; exact ⟨_, _, rfl, hS.pl.2.2.1, hS.pl.2.2.2, rfl⟩
      | k + 3, hd => simp at hd
    refine w_make 0 (kn_Cycle_init T.toTc) rfl rfl ?_
    k_call_by "w" 0
    exact ⟨h0, h1, he⟩
  with_reducible refine w_cons ?_
  with_reducible refine w_asg 8 rfl rfl rfl ?_ (by with_unfolding_all rfl)
  with_reducible refine w_makeK 11 (kn_Shade_init T.toTc) rfl rfl ?_ (by with_unfolding_all rfl) (by with_unfolding_all rfl) (by with_unfolding_all rfl) (by with_unfolding_all rfl)
  with_reducible refine ea_cons ?_ (by with_unfolding_all rfl)
  with_reducible refine ev_ixL ?_ (by with_unfolding_all exact fun _ _ => rfl)
  k_call_by "n" 0
  refine ev_int ⟨_, _, _, rfl, rfl, rfl, ?_⟩
  with_reducible refine ea_cons ?_ (by with_unfolding_all rfl)
  with_reducible refine ev_ixL ?_ (by with_unfolding_all exact fun _ _ => rfl)
  k_call_by "n" 0
  refine ev_int ⟨_, _, _, rfl, rfl, rfl, ?_⟩
  with_reducible refine ea_cons ?_ (by with_unfolding_all rfl)
  with_reducible refine ev_ixL ?_ (by with_unfolding_all exact fun _ _ => rfl)
  k_call_by "n" 0
  refine ev_int ⟨_, _, _, rfl, rfl, rfl, ?_⟩
  with_reducible refine ea_nil ?_
  refine ⟨rfl, ?_⟩
  with_reducible refine ev_ixT ?_ (by with_unfolding_all exact fun _ _ => rfl)
  k_call_by "n" 0
  refine ev_int ⟨_, _, _, rfl, rfl, rfl, ?_⟩
  refine ⟨S, rfl, hO, ?_⟩
  with_reducible refine w_cons ?_
  with_reducible refine w_asg 9 rfl rfl rfl ?_ (by with_unfolding_all rfl)
  with_reducible refine w_make 12 (kn_Span_init T.toTc) rfl rfl ?_ (by with_unfolding_all rfl) (by with_unfolding_all rfl)
  k_call_by "w" 0
  refine ⟨hab, bq ba, bq bb, ?_⟩
  refine cutM (fun ω δ => ∃ t : DL.D, ((S.c a b ≤ 400 ∧ ∃ q, ω = [Cell.own X.K q (S.rows a b), Cell.inv X.K p StOk] ∧ t = .tup [.str "told", .s (.ref q)]) ∨ (400 < S.c a b ∧ ω = [Cell.inv X.K p StOk] ∧ t = dueD S a b)) ∧
    δ = [x0', some (.s (.ref p)), some (shT S), some (.tup [Fq S.z, Fq S.i]), x4, some (.tup [Fq a, Fq b]), some (dueD S a b), some (.lst [cyc K S.rl S.sl, cyc K S.rc S.sc, cyc K S.rn S.sn]), some (shd K S), some (spn K a b), some t, z11, z12, z13, z14, z15]) ?_ ?_
  · refine w_asgE 10 rfl rfl rfl (evo_ans (k := 8) 13 (Rl := rlT K S a b) (Rx := rxT K S a b) [8, 9] ["roll"] T.toTd rfl L rfl (by rw [sc]; exact LamX.lamS_by (by decide +kernel)) (.of (by kernel_rfl)) rfl (fun _ _ _ _ _ => rfl) (fun Y hY G2 H2 tk => ?_) (fun ω' d hd => ?_) (fun Cc fs hz => ?_)) (by rfl)
    · refine evo_callXO 0 (kn_roll T.toTc) rfl rfl tk ent_pu ?_
      with_reducible refine ea_cons ?_ (by with_unfolding_all rfl)
      k_call_by "n" 0
      with_reducible refine ea_cons ?_ (by with_unfolding_all rfl)
      k_call_by "n" 0
      with_reducible refine ea_nil ?_
      exact ⟨shd K S, spn K a b, _, _, true, true, rfl, .ins T.c_Shade.i, .ins T.c_Span.i, kit_self, kit_self, (fun z => by cases z), (fun _ z => by cases z), fun _ _ => ⟨S, a, b, rfl, rfl, hO, ba4, bb4, fun hc q => ⟨hc, q, by rw [hY.K], rfl⟩, fun hc => ⟨hc, rfl, rfl⟩⟩⟩
    · obtain ⟨hc, q, rfl, rfl⟩ := hd
      exact ⟨.inr ⟨_, rfl⟩, _, .inl ⟨hc, q, by rw [hK]; rfl, rfl⟩, rfl⟩
    · obtain ⟨hc, rfl, rfl⟩ := hz
      refine ⟨_, .inr ⟨400, rfl, rfl, rfl⟩, _, .inr ⟨hc, rfl, ?_⟩, rfl⟩
      unfold dueD
      rw [if_neg (by omega)]
  rintro ω δ ⟨t, ht, rfl⟩
  refine cutS ?_ ?_
  · rcases ht with ⟨hc, q, rfl, rfl⟩ | ⟨hc, rfl, rfl⟩
    · have ed : dueD S a b = .tup [.str "told", .lst (S.rows a b)] := if_pos hc
      with_reducible refine w_if ?_
      with_reducible refine et_not ?_
      refine et_peek List.mem_cons_self (seen_pair (i := 10) (x := .str "told") rfl) fun E' => ?_
      with_reducible refine et_call ?_
      with_reducible refine w_call 14 (kn_l_alike T.toTc 4) rfl rfl ?_ (by with_unfolding_all rfl) (by with_unfolding_all rfl)
      with_reducible refine ea_cons ?_ (by with_unfolding_all rfl)
      k_call_by "n" 0
      with_reducible refine ea_cons ?_ (by with_unfolding_all rfl)
      k_call_by "n" 0
      with_reducible refine ea_nil ?_
      exact ⟨dueD S a b, by rw [ed], pl_due S a b, _, rfl, fun z => by simp at z, fun _ => w_nil ⟨rfl, rfl⟩⟩
    · with_reducible refine w_if ?_
      with_reducible refine et_not ?_
      with_reducible refine et_call ?_
      with_reducible refine w_call 14 (kn_l_alike T.toTc 4) rfl rfl ?_ (by with_unfolding_all rfl) (by with_unfolding_all rfl)
      with_reducible refine ea_cons ?_ (by with_unfolding_all rfl)
      k_call_by "n" 0
      with_reducible refine ea_cons ?_ (by with_unfolding_all rfl)
      k_call_by "n" 0
      with_reducible refine ea_nil ?_
      exact ⟨dueD S a b, rfl, pl_due S a b, _, rfl, fun z => by simp at z, fun _ => w_nil ⟨rfl, rfl⟩⟩
  with_reducible refine w_cons ?_
  with_reducible refine w_asg 11 rfl rfl rfl ?_ (by with_unfolding_all rfl)
  with_reducible refine ev_lst ?_
  with_reducible refine ea_nil ?_
  refine ⟨Nat.le_of_ble_eq_true rfl, ?_⟩
  with_reducible refine w_cons ?_
  with_reducible refine w_asg 12 rfl rfl rfl ?_ (by with_unfolding_all rfl)
  k_call_by "n" 0
  refine cutM (fun ω δ => [Cell.inv K p StOk].Sublist ω ∧ ∃ (rws : List DL.D) (t : DL.D), RowsOk S a b rws ∧
    δ = [x0', some (.s (.ref p)), some (shT S), some (.tup [Fq S.z, Fq S.i]), x4, some (.tup [Fq a, Fq b]), some (dueD S a b), some (.lst [cyc K S.rl S.sl, cyc K S.rc S.sc, cyc K S.rn S.sn]), some (shd K S), some (spn K a b), some t, some (.lst rws), some (momD S a b), z13, z14, z15]) ?_ ?_
  · rcases ht with ⟨hc, q, rfl, rfl⟩ | ⟨hc, rfl, rfl⟩
    · have ed : dueD S a b = .tup [.str "told", .lst (S.rows a b)] := if_pos hc
      have hrw := RowsOk.rows hO ba4 hc
      with_reducible refine w_if ?_
      with_reducible refine et_eq ?_
      with_reducible refine ev_ixT ?_ (by with_unfolding_all exact fun _ _ => rfl)
      k_call_by "n" 0
      refine ev_int ⟨_, _, _, ed, rfl, rfl, ?_⟩
      refine ev_str ⟨_, _, rfl, rfl, rfl, fun _ => ?_, fun z => by simp at z⟩
      with_reducible refine w_cons ?_
      with_reducible refine w_asg 11 rfl rfl rfl ?_ (by with_unfolding_all rfl)
      with_reducible refine ev_ixT ?_ (by with_unfolding_all exact fun _ _ => rfl)
      k_call_by "n" 0
      refine ev_int ⟨_, _, _, ed, rfl, rfl, ?_⟩
      with_reducible refine w_cons ?_
      with_reducible refine w_asg 12 rfl rfl rfl ?_ (by with_unfolding_all rfl)
      with_reducible refine ev_tup ?_
      with_reducible refine ea_cons ?_ (by with_unfolding_all rfl)
      refine ev_str ?_
      with_reducible refine ea_cons ?_ (by with_unfolding_all rfl)
      refine w_lcN 15 [15] [] rfl (by rw [sc]; exact .of (by kernel_rfl)) rfl (iv_list ?_)
      k_call_by "n" 0
      refine ⟨_, rfl, momsD S a b, by have := hrw.len; omega, by unfold momsD Sd.rows; simp, fun i d c hd Y hY => ?_, ?_⟩
      · obtain ⟨hi, rfl⟩ : i < (S.c a b).toNat ∧ d = S.row (S.l a + (i : Nat)) := by
          unfold Sd.rows at hd
          rw [List.getElem?_map] at hd
          rcases Nat.lt_or_ge i (S.c a b).toNat with h | h
          · rw [List.getElem?_range h] at hd
            cases hd
            exact ⟨h, rfl⟩
          · rw [List.getElem?_eq_none (by simpa using h)] at hd
            cases hd
        k_call_by "v" 0
        k_call_by "n" 0
        refine ev_int ⟨_, _, _, rfl, rfl, rfl, ?_⟩
        unfold momsD
        rw [List.getElem?_map, List.getElem?_range hi]
        rfl
      with_reducible refine ea_nil ?_
      refine ⟨Nat.le_of_ble_eq_true rfl, ?_⟩
      with_reducible refine w_cons ?_
      refine w_append (ω1 := []) (ω2 := [Cell.inv X.K p StOk]) rfl (by have := hrw.len; omega) ?_
      with_reducible refine ev_ixT ?_ (by with_unfolding_all exact fun _ _ => rfl)
      k_call_by "n" 0
      refine ev_int ⟨_, _, _, rfl, rfl, rfl, rfl, ?_⟩
      refine ev_non ?_
      refine w_nil ⟨by rw [hK]; exact List.sublist_cons_self _ _, S.rows a b, .tup [.str "told", .s (.ref q)], hrw, ?_⟩
      unfold momD
      rw [if_pos hc]
      rfl
    · have ed : dueD S a b = .tup [.str "TooMany", .int 400] := if_neg (by omega)
      with_reducible refine w_if ?_
      with_reducible refine et_eq ?_
      with_reducible refine ev_ixT ?_ (by with_unfolding_all exact fun _ _ => rfl)
      k_call_by "n" 0
      refine ev_int ⟨_, _, _, ed, rfl, rfl, ?_⟩
      refine ev_str ⟨_, _, rfl, rfl, rfl, fun z => absurd z (by decide +kernel), fun _ => ?_⟩
      refine w_nil ⟨by rw [hK]; exact List.Sublist.refl _, [], dueD S a b, .nil, ?_⟩
      have em : momD S a b = dueD S a b := by unfold momD; rw [if_neg (by omega), ed]
      rw [em]
      rfl
  rintro ω δ ⟨hsub, rws, t', hrw, rfl⟩
  clear ht
  with_reducible refine w_cons ?_
  with_reducible refine w_asg 13 rfl rfl rfl ?_ (by with_unfolding_all rfl)
  with_reducible refine ev_lst ?_
  with_reducible refine ea_cons ?_ (by with_unfolding_all rfl)
  with_reducible refine ev_ixL ?_ (by with_unfolding_all exact fun _ _ => rfl)
  k_call_by "n" 0
  refine ev_int ⟨_, _, _, rfl, rfl, rfl, ?_⟩
  with_reducible refine ea_cons ?_ (by with_unfolding_all rfl)
  with_reducible refine ev_ixL ?_ (by with_unfolding_all exact fun _ _ => rfl)
  k_call_by "n" 0
  refine ev_int ⟨_, _, _, rfl, rfl, rfl, ?_⟩
  with_reducible refine ea_nil ?_
  refine ⟨Nat.le_of_ble_eq_true rfl, ?_⟩
  refine cutS ?_ ?_
  · with_reducible refine w_if ?_
    with_reducible refine et_or ?_
    with_reducible refine ew_or ?_
    with_reducible refine et_not ?_
    with_reducible refine et_call ?_
    with_reducible refine w_call 14 (kn_l_alike T.toTc 4) rfl rfl ?_ (by with_unfolding_all rfl) (by with_unfolding_all rfl)
    with_reducible refine ea_cons ?_ (by with_unfolding_all rfl)
    refine evo_ev (evo_ans (k := 8) 13 (Rl := fun ω' d => ω' = [] ∧ S.c a b ≤ 400 ∧ d = .lst (momsD S a b)) (Rx := rxT K S a b) [9, 13] ["meetings"] T.toTd rfl L rfl (by rw [sc]; exact LamX.lamS_by (by decide +kernel)) (.of (by kernel_rfl)) rfl (fun _ _ _ _ _ => rfl) (fun Y hY G2 H2 tk => ?_) (fun ω' d hd => ⟨.inl hd.1, .inl ⟨hd.1, ?_⟩⟩) (fun Cc fs hz => ?_))
    · refine ev_evo (w_callX 0 (kn_meetings T.toTc) rfl rfl tk ent_pu ?_)
      k_call_by "w" 0
      exact ⟨_, _, _, _, _, _, rfl, hO.r0, hO.rl, hO.sl, hO.rc, hO.sc, ba4, bb4, fun hc => ⟨rfl, hc, rfl⟩, fun hc => ⟨hc, rfl, rfl⟩⟩
    · obtain ⟨_, hc, rfl⟩ := hd
      with_reducible refine ea_cons ?_ (by with_unfolding_all rfl)
      k_call_by "n" 0
      with_reducible refine ea_nil ?_
      refine ⟨momD S a b, by rw [show momD S a b = .tup [.str "told", .lst (momsD S a b)] from if_pos hc], pl_mom S a b, _, rfl, fun _ => ?_, fun z => by simp at z⟩
      with_reducible refine ew_or1 ?_
      with_reducible refine et_ne ?_
      refine w_len 15 T.b_len rfl ?_
      k_call_by "n" 0
      refine ⟨_, rfl, ?_⟩
      refine ev_int ⟨_, _, rfl, rfl, rfl, fun z => by simp at z, fun _ => w_nil ⟨rfl, rfl⟩⟩
    · obtain ⟨hc, rfl, rfl⟩ := hz
      refine ⟨_, .inr ⟨400, rfl, rfl, rfl⟩, .inl ⟨rfl, ?_⟩⟩
      with_reducible refine ea_cons ?_ (by with_unfolding_all rfl)
      k_call_by "n" 0
      with_reducible refine ea_nil ?_
      refine ⟨momD S a b, by rw [show momD S a b = .tup [.str "TooMany", .int 400] from if_neg (by omega)], pl_mom S a b, _, rfl, fun _ => ?_, fun z => by simp at z⟩
      with_reducible refine ew_or1 ?_
      with_reducible refine et_ne ?_
      refine w_len 15 T.b_len rfl ?_
      k_call_by "n" 0
      refine ⟨_, rfl, ?_⟩
      refine ev_int ⟨_, _, rfl, rfl, rfl, fun z => by simp at z, fun _ => w_nil ⟨rfl, rfl⟩⟩
  refine cutS ?_ ?_
  · with_reducible refine w_if ?_
    with_reducible refine et_or ?_
    with_reducible refine ew_or ?_
    with_reducible refine et_not ?_
    with_reducible refine et_call ?_
    with_reducible refine w_callW 16 (kn_l_near_right T) rfl rfl ?_ (by with_unfolding_all rfl) (by with_unfolding_all rfl)
    k_call_by "w" 0
    refine ⟨hsub, .inr rfl, p, S, a, b, rws, rfl, hS, ba, bb, hab, hrw, _, rfl, fun _ => ?_, fun z => by simp at z⟩
    with_reducible refine ew_or1 ?_
    with_reducible refine et_not ?_
    with_reducible refine et_call ?_
    with_reducible refine w_call 17 (kn_l_shade_right T.toTc) rfl rfl ?_ (by with_unfolding_all rfl) (by with_unfolding_all rfl)
    k_call_by "w" 0
    exact ⟨S, a, b, rws, rfl, hS, hrw, _, rfl, fun z => by simp at z, fun _ => w_nil ⟨rfl, rfl⟩⟩
  with_reducible refine w_cons ?_
  with_reducible refine w_asg 14 rfl rfl rfl ?_ (by with_unfolding_all rfl)
  with_reducible refine w_makeK 11 (kn_Shade_init T.toTc) rfl rfl ?_ (by with_unfolding_all rfl) (by with_unfolding_all rfl) (by with_unfolding_all rfl) (by with_unfolding_all rfl)
  with_reducible refine ea_cons ?_ (by with_unfolding_all rfl)
  with_reducible refine ev_ixL ?_ (by with_unfolding_all exact fun _ _ => rfl)
  k_call_by "n" 0
  refine ev_int ⟨_, _, _, rfl, rfl, rfl, ?_⟩
  with_reducible refine ea_cons ?_ (by with_unfolding_all rfl)
  with_reducible refine ev_ixL ?_ (by with_unfolding_all exact fun _ _ => rfl)
  k_call_by "n" 0
  refine ev_int ⟨_, _, _, rfl, rfl, rfl, ?_⟩
  with_reducible refine ea_cons ?_ (by with_unfolding_all rfl)
  with_reducible refine ev_ixL ?_ (by with_unfolding_all exact fun _ _ => rfl)
  k_call_by "n" 0
  refine ev_int ⟨_, _, _, rfl, rfl, rfl, ?_⟩
  with_reducible refine ea_nil ?_
  refine ⟨rfl, ?_⟩
  with_reducible refine ev_ixT ?_ (by with_unfolding_all exact fun _ _ => rfl)
  k_call_by "n" 0
  refine ev_int ⟨_, _, _, rfl, rfl, rfl, ?_⟩
  refine ⟨S.twin, rfl, Sd.twin_ok hO, ?_⟩
  refine cutS ?_ ?_
  · with_reducible refine w_if ?_
    with_reducible refine et_not ?_
    with_reducible refine et_call ?_
    with_reducible refine w_call 14 (kn_l_alike T.toTc 4) rfl rfl ?_ (by with_unfolding_all rfl) (by with_unfolding_all rfl)
    with_reducible refine ea_cons ?_ (by with_unfolding_all rfl)
    refine evo_ev (evo_ans (k := 8) 13 (Rl := rlT K S.twin a b) (Rx := rxT K S.twin a b) [9, 14] ["roll"] T.toTd rfl L rfl (by rw [sc]; exact LamX.lamS_by (by decide +kernel)) (.of (by kernel_rfl)) rfl (fun _ _ _ _ _ => rfl) (fun Y hY G2 H2 tk => ?_) (fun ω' d hd => ?_) (fun Cc fs hz => ?_))
    · refine evo_callXO 0 (kn_roll T.toTc) rfl rfl tk ent_pu ?_
      with_reducible refine ea_cons ?_ (by with_unfolding_all rfl)
      k_call_by "n" 0
      with_reducible refine ea_cons ?_ (by with_unfolding_all rfl)
      k_call_by "n" 0
      with_reducible refine ea_nil ?_
      exact ⟨shd K S.twin, spn K a b, _, _, true, true, rfl, .ins T.c_Shade.i, .ins T.c_Span.i, kit_self, kit_self, (fun z => by cases z), (fun _ z => by cases z), fun _ _ => ⟨S.twin, a, b, rfl, rfl, Sd.twin_ok hO, ba4, bb4, fun hc q => ⟨hc, q, by rw [hY.K], rfl⟩, fun hc => ⟨hc, rfl, rfl⟩⟩⟩
    · obtain ⟨hc, q, rfl, rfl⟩ := hd
      refine ⟨.inr ⟨_, rfl⟩, .inr ⟨q, _, by rw [hK], rfl, ?_⟩⟩
      with_reducible refine ea_cons ?_ (by with_unfolding_all rfl)
      k_call_by "n" 0
      with_reducible refine ea_nil ?_
      exact ⟨dueD S a b, by rw [← twin_due hO, show dueD S.twin a b = .tup [.str "told", .lst (S.twin.rows a b)] from if_pos hc], pl_due S a b, _, rfl, fun z => by simp at z, fun _ => w_nil ⟨rfl, rfl⟩⟩
    · obtain ⟨hc, rfl, rfl⟩ := hz
      refine ⟨_, .inr ⟨400, rfl, rfl, rfl⟩, .inl ⟨rfl, ?_⟩⟩
      with_reducible refine ea_cons ?_ (by with_unfolding_all rfl)
      k_call_by "n" 0
      with_reducible refine ea_nil ?_
      exact ⟨dueD S a b, by rw [← twin_due hO, show dueD S.twin a b = .tup [.str "TooMany", .int 400] from if_neg (by omega)], pl_due S a b, _, rfl, fun z => by simp at z, fun _ => w_nil ⟨rfl, rfl⟩⟩
  refine cutS ?_ ?_
  · with_reducible refine w_if ?_
    with_reducible refine et_and ?_
    with_reducible refine ew_and ?_
    with_reducible refine et_lt ?_
    refine w_len 15 T.b_len rfl ?_
    k_call_by "n" 0
    refine ⟨_, rfl, ?_⟩
    refine ev_int ⟨_, _, rfl, rfl, fun _ => ?_, fun _ => ⟨fun z => by simp at z, fun _ => w_nil ⟨rfl, rfl⟩⟩⟩
    with_reducible refine ew_and1 ?_
    with_reducible refine et_not ?_
    with_reducible refine et_call ?_
    with_reducible refine w_call 14 (kn_l_alike T.toTc 4) rfl rfl ?_ (by with_unfolding_all rfl) (by with_unfolding_all rfl)
    with_reducible refine ea_cons ?_ (by with_unfolding_all rfl)
    refine evo_ev (evo_ans (k := 8) 13 (Rl := rlT K S a b) (Rx := rxT K S a b) [8, 9] ["roll"] T.toTd rfl L rfl (by rw [sc]; exact LamX.lamS_by (by decide +kernel)) (.of (by kernel_rfl)) rfl (fun _ _ _ _ _ => rfl) (fun Y hY G2 H2 tk => ?_) (fun ω' d hd => ?_) (fun Cc fs hz => ?_))
    · refine evo_callXO 0 (kn_roll T.toTc) rfl rfl tk ent_pu ?_
      with_reducible refine ea_cons ?_ (by with_unfolding_all rfl)
      k_call_by "n" 0
      with_reducible refine ea_cons ?_ (by with_unfolding_all rfl)
      k_call_by "n" 0
      with_reducible refine ea_nil ?_
      exact ⟨shd K S, spn K a b, _, _, true, true, rfl, .ins T.c_Shade.i, .ins T.c_Span.i, kit_self, kit_self, (fun z => by cases z), (fun _ z => by cases z), fun _ _ => ⟨S, a, b, rfl, rfl, hO, ba4, bb4, fun hc q => ⟨hc, q, by rw [hY.K], rfl⟩, fun hc => ⟨hc, rfl, rfl⟩⟩⟩
    · obtain ⟨hc, q, rfl, rfl⟩ := hd
      refine ⟨.inr ⟨_, rfl⟩, .inr ⟨q, _, by rw [hK], rfl, ?_⟩⟩
      with_reducible refine ea_cons ?_ (by with_unfolding_all rfl)
      k_call_by "n" 0
      with_reducible refine ea_nil ?_
      exact ⟨dueD S a b, by rw [show dueD S a b = .tup [.str "told", .lst (S.rows a b)] from if_pos hc], pl_due S a b, _, rfl, fun z => by simp at z, fun _ => w_nil ⟨rfl, rfl⟩⟩
    · obtain ⟨hc, rfl, rfl⟩ := hz
      refine ⟨_, .inr ⟨400, rfl, rfl, rfl⟩, .inl ⟨rfl, ?_⟩⟩
      with_reducible refine ea_cons ?_ (by with_unfolding_all rfl)
      k_call_by "n" 0
      with_reducible refine ea_nil ?_
      exact ⟨dueD S a b, by rw [show dueD S a b = .tup [.str "TooMany", .int 400] from if_neg (by omega)], pl_due S a b, _, rfl, fun z => by simp at z, fun _ => w_nil ⟨rfl, rfl⟩⟩
  with_reducible refine w_cons ?_
  with_reducible refine w_ret ?_
  with_reducible refine w_callW 18 (kn_l_form_right T) rfl rfl ?_ (by with_unfolding_all rfl) (by with_unfolding_all rfl)
  with_reducible refine ea_cons ?_ (by with_unfolding_all rfl)
  k_call_by "n" 0
  with_reducible refine ea_cons ?_ (by with_unfolding_all rfl)
  k_call_by "n" 0
  with_reducible refine ea_cons ?_ (by with_unfolding_all rfl)
  k_call_by "n" 0
  with_reducible refine ea_cons ?_ (by with_unfolding_all rfl)
  with_reducible refine ev_lst ?_
  with_reducible refine ea_cons ?_ (by with_unfolding_all rfl)
  k_call_by "n" 0
  with_reducible refine ea_cons ?_ (by with_unfolding_all rfl)
  k_call_by "n" 0
  with_reducible refine ea_nil ?_
  refine ⟨Nat.le_of_ble_eq_true rfl, ?_⟩
  with_reducible refine ea_nil ?_
  exact ⟨hsub, .inr rfl, p, S, a, b, rfl, List.nil_sublist _, hR⟩
end
end Wh

set_option Elab.async false
set_option linter.all false
set_option maxRecDepth 100000
set_option maxHeartbeats 4000000
namespace Wh
open PySem L2 PyProof.Rows DL
section
variable {K : PySem.W.Frag} {mg : Str → Option Value} {base h : Heap} {w : World}
theorem ca_of {x : Str} (g : mg x = some (.ref (He.ga K x))) (c : Cls K (He.ga K x)) (m : Mk K (He.ga K x) (He.ma K (He.ga K x) "__init__")) (hn : PySem.W.specialIn K (.builtin "object.__class__") "__get__" = some (some (.builtin "getset_descriptor.__get__"))) (ht : PySem.W.takesIn K (.builtin "object.__class__") = some true) (e : bAll (insL K x) = true) : CA K mg x :=
  ⟨g, ⟨c, He.eqO_ok (bAll_get e 0), hn, ht, sq_ok (bAll_get e 1)⟩, m, fun t ht => sq_ok (bAll_map (f := fun t => sq (PySem.W.kitOne K (.type t) (.ref (He.ga K x))) (some false)) (bAll_get e 2) ht)⟩
theorem ea_of {x f : Str} (g : mg x = some (.ref (He.ga K x))) (n : NoAttr K (He.ga K x) f) (e : bAll (errL K x) = true) : EA1 K mg x f :=
  ⟨g, ⟨oexB_ok (bAll_get e 0), He.eqO_ok (bAll_get e 1), sq_ok (bAll_get e 2), of_decide_eq_true (bAll_get e 3), bAll_get e 4⟩, He.eqO_ok (bAll_get e 5), of_decide_eq_true (bAll_get e 6), n⟩
theorem xc_of {x : Str} (hn : PySem.W.specialIn K (.builtin "object.__class__") "__get__" = some (some (.builtin "getset_descriptor.__get__"))) (ht : PySem.W.takesIn K (.builtin "object.__class__") = some true) (e : bAll (errL K x) = true) : ExcC K (He.ga K x) :=
  ⟨He.eqO_ok (bAll_get e 9), He.eqO_ok (bAll_get e 10), sq_ok (bAll_get e 2), bAll_get e 11, He.eqO_ok (bAll_get e 12), hn, ht, sq_ok (bAll_get e 13)⟩
theorem xf_of {x : Str} (e : bAll (errL K x) = true) : XfC K (He.ga K x) := ⟨He.eqO_ok (bAll_get e 9), He.eqO_ok (bAll_get e 10), sq_ok (bAll_get e 2), bAll_get e 11⟩
theorem two_all {p : Str → Prop} {a b : Str} (h1 : p a) (h2 : p b) : ∀ x ∈ ([a, b] : List Str), p x := by
  intro x hx
  simp only [List.mem_cons, List.not_mem_nil, or_false] at hx
  rcases hx with rfl | rfl
  · exact h1
  · exact h2
theorem te_of (S : He.SaysX fas fns [] tfs exB w h K) (X : K.In base) (G : base.Ns mainGlobals mg) (TB : ∀ p ∈ tfs.map (He.cT K), LamX.TabB base mg p.1 p.2) : Te K mg base := by
  have c : He.SaysD fas fns K := S.t.d
  have e : exB K = true := S.more
  have hn := He.eqO_ok (bAll_get e 5)
  have ht := sq_ok (bAll_get e 6)
  have tx : Tx K mg := {
    b_isinstance := He.free_ok X G (c.fact 98)
    b_int := He.free_ok X G (c.fact 99)
    b_bool := He.free_ok X G (c.fact 100)
    b_abs := He.free_ok X G (c.fact 101)
    b_tuple := He.free_ok X G (c.fact 102)
    b_len := He.free_ok X G (c.fact 103)
    b_list := He.free_ok X G (c.fact 104)
    b_all := He.free_ok X G (c.fact 105)
    b_zip := He.free_ok X G (c.fact 106)
    b_enumerate := He.free_ok X G (c.fact 107)
    b_range := He.free_ok X G (c.fact 108)
    b_min := He.free_ok X G (c.fact 109)
    b_max := He.free_ok X G (c.fact 110)
    b_sorted := He.free_ok X G (c.fact 111)
    b_str := He.free_ok X G (c.fact 112)
    b_ValueError := He.free_ok X G (c.fact 113)
    d_whole_number_aid_exact := ⟨_, _, He.glo_ok X G (c.fact 0), (c.def_ 2).choose_spec⟩
    d_common_divisor := ⟨_, _, He.glo_ok X G (c.fact 1), (c.def_ 3).choose_spec⟩
    d_lowest := ⟨_, _, He.glo_ok X G (c.fact 2), (c.def_ 4).choose_spec⟩
    d_precedes := ⟨_, _, He.glo_ok X G (c.fact 3), (c.def_ 5).choose_spec⟩
    d_weighted_divisor := ⟨_, _, He.glo_ok X G (c.fact 4), (c.def_ 6).choose_spec⟩
    d_joint_measure := ⟨_, _, He.glo_ok X G (c.fact 5), (c.def_ 7).choose_spec⟩
    d_is_fraction := ⟨_, _, He.glo_ok X G (c.fact 7), (c.def_ 9).choose_spec⟩
    d_check_pair := ⟨_, _, He.glo_ok X G (c.fact 8), (c.def_ 10).choose_spec⟩
    d_check_value := ⟨_, _, He.glo_ok X G (c.fact 9), (c.def_ 11).choose_spec⟩
    d_plus := ⟨_, _, He.glo_ok X G (c.fact 10), (c.def_ 12).choose_spec⟩
    d_minus := ⟨_, _, He.glo_ok X G (c.fact 11), (c.def_ 13).choose_spec⟩
    d_times := ⟨_, _, He.glo_ok X G (c.fact 12), (c.def_ 14).choose_spec⟩
    d_over := ⟨_, _, He.glo_ok X G (c.fact 13), (c.def_ 15).choose_spec⟩
    d_compare := ⟨_, _, He.glo_ok X G (c.fact 14), (c.def_ 16).choose_spec⟩
    d_floor_of := ⟨_, _, He.glo_ok X G (c.fact 15), (c.def_ 17).choose_spec⟩
    d_part_of := ⟨_, _, He.glo_ok X G (c.fact 16), (c.def_ 18).choose_spec⟩
    d_offset_of := ⟨_, _, He.glo_ok X G (c.fact 17), (c.def_ 19).choose_spec⟩
    d_check_values := ⟨_, _, He.glo_ok X G (c.fact 18), (c.def_ 20).choose_spec⟩
    d_measure_paper := ⟨_, _, He.glo_ok X G (c.fact 19), (c.def_ 21).choose_spec⟩
    d_need_fraction := ⟨_, _, He.glo_ok X G (c.fact 20), (c.def_ 24).choose_spec⟩
    d_need_place := ⟨_, _, He.glo_ok X G (c.fact 21), (c.def_ 25).choose_spec⟩
    d_need_span := ⟨_, _, He.glo_ok X G (c.fact 22), (c.def_ 26).choose_spec⟩
    d_next_step := ⟨_, _, He.glo_ok X G (c.fact 23), (c.def_ 27).choose_spec⟩
    d_steps_within := ⟨_, _, He.glo_ok X G (c.fact 24), (c.def_ 28).choose_spec⟩
    d_need_cycles := ⟨_, _, He.glo_ok X G (c.fact 25), (c.def_ 32).choose_spec⟩
    d_weighed := ⟨_, _, He.glo_ok X G (c.fact 26), (c.def_ 33).choose_spec⟩
    d_meeting_rule := ⟨_, _, He.glo_ok X G (c.fact 27), (c.def_ 34).choose_spec⟩
    d_meeting_paper := ⟨_, _, He.glo_ok X G (c.fact 28), (c.def_ 35).choose_spec⟩
    d_meetings := ⟨_, _, He.glo_ok X G (c.fact 29), (c.def_ 36).choose_spec⟩
    d_whole_number_darkening := ⟨_, _, He.glo_ok X G (c.fact 30), (c.def_ 37).choose_spec⟩
    d_check_whole := ⟨_, _, He.glo_ok X G (c.fact 31), (c.def_ 38).choose_spec⟩
    d_check_shade := ⟨_, _, He.glo_ok X G (c.fact 32), (c.def_ 39).choose_spec⟩
    d_check_span_darkening := ⟨_, _, He.glo_ok X G (c.fact 33), (c.def_ 40).choose_spec⟩
    d_check_width_darkening := ⟨_, _, He.glo_ok X G (c.fact 34), (c.def_ 41).choose_spec⟩
    d_offset_is_dark := ⟨_, _, He.glo_ok X G (c.fact 35), (c.def_ 42).choose_spec⟩
    d_roll_bounds := ⟨_, _, He.glo_ok X G (c.fact 36), (c.def_ 48).choose_spec⟩
    d_roll := ⟨_, _, He.glo_ok X G (c.fact 37), (c.def_ 49).choose_spec⟩
    d_check_cycles := ⟨_, _, He.glo_ok X G (c.fact 38), (c.def_ 50).choose_spec⟩
    d_check_moment := ⟨_, _, He.glo_ok X G (c.fact 39), (c.def_ 51).choose_spec⟩
    d_check_span_nearness := ⟨_, _, He.glo_ok X G (c.fact 40), (c.def_ 52).choose_spec⟩
    d_check_width_nearness := ⟨_, _, He.glo_ok X G (c.fact 41), (c.def_ 53).choose_spec⟩
    d_lines_of := ⟨_, _, He.glo_ok X G (c.fact 42), (c.def_ 54).choose_spec⟩
    d_turns_on := ⟨_, _, He.glo_ok X G (c.fact 43), (c.def_ 55).choose_spec⟩
    d_is_within := ⟨_, _, He.glo_ok X G (c.fact 44), (c.def_ 56).choose_spec⟩
    d_whole_near := ⟨_, _, He.glo_ok X G (c.fact 45), (c.def_ 57).choose_spec⟩
    d_line_is_near := ⟨_, _, He.glo_ok X G (c.fact 46), (c.def_ 58).choose_spec⟩
    d_lines_are_near := ⟨_, _, He.glo_ok X G (c.fact 47), (c.def_ 59).choose_spec⟩
    d_is_earlier := ⟨_, _, He.glo_ok X G (c.fact 48), (c.def_ 60).choose_spec⟩
    d_turned_bounds := ⟨_, _, He.glo_ok X G (c.fact 49), (c.def_ 61).choose_spec⟩
    d_wholes_met := ⟨_, _, He.glo_ok X G (c.fact 50), (c.def_ 62).choose_spec⟩
    d_line_spans := ⟨_, _, He.glo_ok X G (c.fact 51), (c.def_ 63).choose_spec⟩
    d_all_line_spans := ⟨_, _, He.glo_ok X G (c.fact 52), (c.def_ 64).choose_spec⟩
    d_shared_rows := ⟨_, _, He.glo_ok X G (c.fact 53), (c.def_ 65).choose_spec⟩
    d_is_near := ⟨_, _, He.glo_ok X G (c.fact 54), (c.def_ 66).choose_spec⟩
    d_near_spans := ⟨_, _, He.glo_ok X G (c.fact 55), (c.def_ 67).choose_spec⟩
    d_l_mixed := ⟨_, _, He.glo_ok X G (c.fact 56), (c.def_ 68).choose_spec⟩
    d_l_store := ⟨_, _, He.glo_ok X G (c.fact 57), (c.def_ 69).choose_spec⟩
    d_l_take := ⟨_, _, He.glo_ok X G (c.fact 58), (c.def_ 70).choose_spec⟩
    d_l_pick := ⟨_, _, He.glo_ok X G (c.fact 59), (c.def_ 71).choose_spec⟩
    d_l_gcd := ⟨_, _, He.glo_ok X G (c.fact 60), (c.def_ 72).choose_spec⟩
    d_l_lowest := ⟨_, _, He.glo_ok X G (c.fact 61), (c.def_ 73).choose_spec⟩
    d_l_plus := ⟨_, _, He.glo_ok X G (c.fact 62), (c.def_ 74).choose_spec⟩
    d_l_minus := ⟨_, _, He.glo_ok X G (c.fact 63), (c.def_ 75).choose_spec⟩
    d_l_times := ⟨_, _, He.glo_ok X G (c.fact 64), (c.def_ 76).choose_spec⟩
    d_l_over := ⟨_, _, He.glo_ok X G (c.fact 65), (c.def_ 77).choose_spec⟩
    d_l_sign := ⟨_, _, He.glo_ok X G (c.fact 66), (c.def_ 78).choose_spec⟩
    d_l_floor := ⟨_, _, He.glo_ok X G (c.fact 67), (c.def_ 79).choose_spec⟩
    d_l_part := ⟨_, _, He.glo_ok X G (c.fact 68), (c.def_ 80).choose_spec⟩
    d_l_offset := ⟨_, _, He.glo_ok X G (c.fact 69), (c.def_ 81).choose_spec⟩
    d_l_distance := ⟨_, _, He.glo_ok X G (c.fact 70), (c.def_ 82).choose_spec⟩
    d_l_scale := ⟨_, _, He.glo_ok X G (c.fact 71), (c.def_ 83).choose_spec⟩
    d_l_ordered := ⟨_, _, He.glo_ok X G (c.fact 72), (c.def_ 84).choose_spec⟩
    d_l_whole := ⟨_, _, He.glo_ok X G (c.fact 73), (c.def_ 85).choose_spec⟩
    d_l_frac := ⟨_, _, He.glo_ok X G (c.fact 74), (c.def_ 86).choose_spec⟩
    d_l_positive := ⟨_, _, He.glo_ok X G (c.fact 75), (c.def_ 87).choose_spec⟩
    d_l_no_zero := ⟨_, _, He.glo_ok X G (c.fact 76), (c.def_ 88).choose_spec⟩
    d_l_place := ⟨_, _, He.glo_ok X G (c.fact 77), (c.def_ 89).choose_spec⟩
    d_l_moment := ⟨_, _, He.glo_ok X G (c.fact 78), (c.def_ 90).choose_spec⟩
    d_l_below := ⟨_, _, He.glo_ok X G (c.fact 79), (c.def_ 91).choose_spec⟩
    d_l_many := ⟨_, _, He.glo_ok X G (c.fact 80), (c.def_ 92).choose_spec⟩
    d_l_span_over := ⟨_, _, He.glo_ok X G (c.fact 81), (c.def_ 93).choose_spec⟩
    d_l_cycle := ⟨_, _, He.glo_ok X G (c.fact 82), (c.def_ 94).choose_spec⟩
    d_l_turns := ⟨_, _, He.glo_ok X G (c.fact 83), (c.def_ 95).choose_spec⟩
    d_l_rule := ⟨_, _, He.glo_ok X G (c.fact 84), (c.def_ 96).choose_spec⟩
    d_l_near := ⟨_, _, He.glo_ok X G (c.fact 85), (c.def_ 97).choose_spec⟩
    d_l_near_many := ⟨_, _, He.glo_ok X G (c.fact 86), (c.def_ 98).choose_spec⟩
    d_l_shade := ⟨_, _, He.glo_ok X G (c.fact 87), (c.def_ 99).choose_spec⟩
    d_l_shade_rule := ⟨_, _, He.glo_ok X G (c.fact 88), (c.def_ 100).choose_spec⟩
    d_l_alike := ⟨_, _, He.glo_ok X G (c.fact 89), (c.def_ 101).choose_spec⟩
    d_l_answer := ⟨_, _, He.glo_ok X G (c.fact 90), (c.def_ 102).choose_spec⟩
    d_l_numbers_in := ⟨_, _, He.glo_ok X G (c.fact 91), (c.def_ 103).choose_spec⟩
    d_l_darkened := ⟨_, _, He.glo_ok X G (c.fact 92), (c.def_ 104).choose_spec⟩
    d_l_roll_due := ⟨_, _, He.glo_ok X G (c.fact 93), (c.def_ 105).choose_spec⟩
    d_l_near_right := ⟨_, _, He.glo_ok X G (c.fact 94), (c.def_ 106).choose_spec⟩
    d_l_shade_right := ⟨_, _, He.glo_ok X G (c.fact 95), (c.def_ 107).choose_spec⟩
    d_l_form_right := ⟨_, _, He.glo_ok X G (c.fact 96), (c.def_ 108).choose_spec⟩
    d_law := ⟨_, _, He.glo_ok X G (c.fact 97), (c.def_ 109).choose_spec⟩
    c_MOST_VALUES := He.int_ok X G (c.fact 114)
    c_MOST_MOMENTS := He.int_ok X G (c.fact 115)
    c_LEAST_CYCLES := He.int_ok X G (c.fact 116)
    c_MOST_CYCLES := He.int_ok X G (c.fact 117)
    c_ROLL_LIMIT := He.int_ok X G (c.fact 118)
    c_MOST_NEAR := He.int_ok X G (c.fact 119)
  }
  have tc : Tc K mg := { tx with
    c_Cycle := ca_of (He.glo_ok X G (c.fact 130)) (He.cls_ok (c.fact 135)) (He.mkr_ok (c.fact 136)) hn ht (bAll_get e 0)
    c_Span := ca_of (He.glo_ok X G (c.fact 131)) (He.cls_ok (c.fact 137)) (He.mkr_ok (c.fact 138)) hn ht (bAll_get e 1)
    c_Shade := ca_of (He.glo_ok X G (c.fact 132)) (He.cls_ok (c.fact 139)) (He.mkr_ok (c.fact 140)) hn ht (bAll_get e 2)
    i_Span_init := c.def_ 22
    i_Shade_init := c.def_ 43
    i_Cycle_init := ⟨_, (c.def_ 29).choose, rfl, (c.def_ 29).choose_spec⟩
    m_Span_contains := ⟨He.meth_ok (c.fact 141), c.def_ 23⟩
    m_Cycle_turns := ⟨He.meth_ok (c.fact 142), c.def_ 30⟩
    m_Cycle_place := ⟨He.meth_ok (c.fact 143), c.def_ 31⟩
    m_Shade_moment_of := ⟨He.meth_ok (c.fact 144), c.def_ 44⟩
    m_Shade_offset := ⟨He.meth_ok (c.fact 145), c.def_ 45⟩
    m_Shade_is_dark := ⟨He.meth_ok (c.fact 146), c.def_ 46⟩
    m_Shade_number_from := ⟨He.meth_ok (c.fact 147), c.def_ 47⟩
    na_Span := fun f hf => by
      simp only [List.mem_cons, List.not_mem_nil, or_false] at hf
      rcases hf with rfl | rfl | rfl
      · exact He.noat_ok (c.fact 148)
      · exact He.noat_ok (c.fact 149)
      · exact He.noat_ok (c.fact 150)
    na_Cycle := fun f hf => by
      simp only [List.mem_cons, List.not_mem_nil, or_false] at hf
      rcases hf with rfl | rfl | rfl
      · exact He.noat_ok (c.fact 151)
      · exact He.noat_ok (c.fact 152)
      · exact He.noat_ok (c.fact 153)
    na_Shade := fun f hf => by
      simp only [List.mem_cons, List.not_mem_nil, or_false] at hf
      rcases hf with rfl | rfl | rfl | rfl | rfl | rfl | rfl | rfl
      · exact He.noat_ok (c.fact 154)
      · exact He.noat_ok (c.fact 155)
      · exact He.noat_ok (c.fact 156)
      · exact He.noat_ok (c.fact 157)
      · exact He.noat_ok (c.fact 158)
      · exact He.noat_ok (c.fact 159)
      · exact He.noat_ok (c.fact 160)
      · exact He.noat_ok (c.fact 161)
    d_fraction := ⟨_, _, (c.def_ 8).choose, He.glo_ok X G (c.fact 6), rfl, (c.def_ 8).choose_spec⟩
    e_BadValue := ea_of (He.glo_ok X G (c.fact 133)) (He.noat_ok (c.fact 162)) (bAll_get e 3)
    e_TooMany := ea_of (He.glo_ok X G (c.fact 134)) (He.noat_ok (c.fact 163)) (bAll_get e 4)
    i_BadValue_init := c.def_ 0
    i_TooMany_init := c.def_ 1 }
  have td : Td K mg := { tc with
    g_nine := fun x hx => by
      unfold nine at hx
      simp only [List.mem_cons, List.not_mem_nil, or_false] at hx
      rcases hx with rfl | rfl | rfl | rfl | rfl | rfl | rfl | rfl | rfl
      · exact He.glo_ok X G (c.fact 120)
      · exact He.glo_ok X G (c.fact 121)
      · exact He.glo_ok X G (c.fact 122)
      · exact He.glo_ok X G (c.fact 123)
      · exact He.glo_ok X G (c.fact 124)
      · exact He.glo_ok X G (c.fact 125)
      · exact He.glo_ok X G (c.fact 126)
      · exact He.glo_ok X G (c.fact 127)
      · exact He.glo_ok X G (c.fact 128)
    g_Sky := He.glo_ok X G (c.fact 129)
    x_sky := two_all (He.exm_ok (c.fact 164)) (He.exm_ok (c.fact 165))
    x_is := two_all (fun y hy => sq_ok (bAll_map (f := fun y => sq (PySem.W.kitOne K (.ref (He.ga K "BadValue")) (.ref (He.ga K y))) (some false)) (bAll_get (bAll_get e 3) 7) hy)) (fun y hy => sq_ok (bAll_map (f := fun y => sq (PySem.W.kitOne K (.ref (He.ga K "TooMany")) (.ref (He.ga K y))) (some false)) (bAll_get (bAll_get e 4) 7) hy))
    x_BT := sq_ok (bAll_get e 7)
    x_TB := sq_ok (bAll_get e 8)
    x_VE := two_all (sq_ok (bAll_get (bAll_get e 3) 8)) (sq_ok (bAll_get (bAll_get e 4) 8))
    x_c := two_all (xc_of hn ht (bAll_get e 3)) (xc_of hn ht (bAll_get e 4))
    x_f := two_all (xf_of (bAll_get e 3)) (xf_of (bAll_get e 4)) }
  have ne : ∀ {a b : Addr}, (!decide (a = b)) = true → a ≠ b := fun h z => by subst z; simp at h
  exact { td with
    t_law := TB _ (List.mem_map.mpr ⟨("law", none), by unfold tfs; simp, rfl⟩)
    g_law := He.glo_ok X G (c.fact 97)
    t_ord := TB _ (List.mem_map.mpr ⟨("_law_ordered", none), by unfold tfs; simp, rfl⟩)
    g_ord := He.glo_ok X G (c.fact 72)
    t_frm := TB _ (List.mem_map.mpr ⟨("_law_form_right", none), by unfold tfs; simp, rfl⟩)
    g_frm := He.glo_ok X G (c.fact 96)
    n_lo := ne (bAll_get e 9)
    n_lf := ne (bAll_get e 10)
    n_of := ne (bAll_get e 11) }
theorem law_def (S : He.SaysX fas fns [] tfs exB w h K) : ∃ fd, FnP K "law" "law" s_law (He.ga K "law") fd := S.t.d.def_ 109
theorem law_glo (S : He.SaysX fas fns [] tfs exB w h K) (X : K.In base) (G : base.Ns mainGlobals mg) : mg "law" = some (.ref (He.ga K "law")) := He.glo_ok X G (S.t.d.fact 97)
end
end Wh

set_option Elab.async false
set_option linter.all false
set_option maxRecDepth 100000
set_option maxHeartbeats 0
namespace Wh
open PySem L2 PyProof.Rows DL
theorem law_end {P : Program} {w : World} {K : PySem.W.Frag} {h : Heap} {mg : Str → Option Value} {fa : Addr} (S : He.SaysX fas fns [] tfs exB w h K) (X : K.In h) (G : h.Ns mainGlobals mg) (hm : mg ("law" : Str) = some (.ref fa)) :
    ∃ (fd : FuncData) (cs : List (Addr × Addr)) (sp : Sp), (∀ p ∈ cs, h.get? p.2 = some { cls := .none, data := .fields #[] }) ∧ (∀ p ∈ cs, K.lookup p.2 = none) ∧ (∀ p ∈ cs, PySem.W.CodeHd h p.1 p.2) ∧ (∀ (s : Shared) (u : Value), BindsTo s fd ⟨[u], []⟩ [("_law_script", u)]) ∧
      (∀ (H : Hp) (a : Addr) (ns : List Int), ns.length ≤ 63 → (∀ z ∈ ns, Builtin.Int.intBits z ≤ 1048576) → (∀ p ∈ cs, H p.2 = some (.tbl #[])) → SqL K H a (ns.map V.int) → sp [.ref a] H (fun v _ => v = .bl true) fun _ _ _ => False) ∧
      ∀ base : Heap, K.In base → base.Ns mainGlobals mg → (∀ p ∈ cs, LamX.TabB base mg p.1 p.2) → FnOk P w K mg base CX0 12 fa fd ["_law_script"] sp := by
  obtain ⟨fd, F⟩ := law_def S
  have e := law_glo S X G
  rw [hm] at e
  injection e with e
  injection e with e
  subst e
  have hb := FunD.bindsA (ps := ["_law_script"]) F fun _ _ _ _ _ _ us hl => match us, hl with | [_], _ => rfl
  refine ⟨fd, tfs.map (He.cT K), spG K (Tt K) noC sp_law, fun p hp => ?_, fun p hp => ?_, fun p hp => ?_, fun s u => hb s [u] rfl, fun H a ns hl _ hT hS => ?_, fun base XB GB TB => fn_law (te_of S XB GB TB) (law_glo S XB GB) F⟩
  · obtain ⟨d, hd, rfl⟩ := List.mem_map.mp hp
    exact S.empty d hd
  · obtain ⟨d, hd, rfl⟩ := List.mem_map.mp hp
    exact S.out d hd
  · obtain ⟨d, hd, rfl⟩ := List.mem_map.mp hp
    exact PySem.W.codeHd_of_K X (S.hd d hd)
  · have hg : ∀ p o, (match H p with | some (.tbl _) => none | x => x) = some o → H p = some o := fun p o z => by
      split at z
      · cases z
      · exact z
    have hG : SqL K (fun p => match H p with | some (.tbl _) => none | x => x) a (ns.map V.int) := by
      rcases hS with (z | ⟨o, z⟩) | z
      · exact .inl (.inl (by show (match H a with | some (.tbl _) => none | x => x) = _; rw [z]))
      · exact .inl (.inr ⟨o, by show (match H a with | some (.tbl _) => none | x => x) = _; rw [z]⟩)
      · exact .inr z
    refine ⟨fun p => match H p with | some (.tbl _) => none | x => x, [.lst (ns.map DL.D.int)], fun d => d = .bl true, ⟨fun p o z => hg p o z, fun p ps z => ?_, List.Pairwise.nil, fun c hc => (nomatch hc), fun c hc => (nomatch hc), fun t ht => ?_, fun t ht => .inr ⟨t, ht, rfl⟩, fun p o z => .inl z, fun p o _ _ z => z, fun p z => .inr (.inl z)⟩, .cons (.lst hG (RepL.ints ns)) .nil, ⟨ns, rfl, by omega, rfl⟩, fun v d G' H' hd _ _ r => by subst hd; cases r; rfl⟩
    · have z1 := hg p _ z
      have z2 : (match H p with | some (.tbl _) => none | x => x) = some (.tbl ps) := z
      rw [z1] at z2
      cases z2
    · have ht : t ∈ Tt K := ht
      unfold Tt at ht
      simp only [List.mem_cons, List.not_mem_nil, or_false] at ht
      rcases ht with rfl | rfl | rfl
      · exact LamX.TabS.nil (hT _ (List.mem_map.mpr ⟨("law", none), by unfold tfs; simp, rfl⟩))
      · exact LamX.TabS.nil (hT _ (List.mem_map.mpr ⟨("_law_ordered", none), by unfold tfs; simp, rfl⟩))
      · exact LamX.TabS.nil (hT _ (List.mem_map.mpr ⟨("_law_form_right", none), by unfold tfs; simp, rfl⟩))
end Wh
open PySem PySem.W PySem.Calls PyProof.Rows
theorem PySem.Challenge.cw_wheelsky_k97_dark_meetings_are_near_whol_holds : PySem.Challenge.rw_wheelsky_k97_dark_meetings_are_near_whol.Holds := by
  refine Whd.saidW fun said => ?_
  refine HandSHeadRun.head_any (r := Wh.Rw) (q := Wh.qW) (H := Wh.hkW) (ob := Wh.lookW) (M := 20000) (loose := Wh.looseW) (d := HandSHeadRun.topDef Wh.Rw.prog 139) (kwd := []) Wh.lookW_eq
    (by kernel_rfl) (fun s => by kernel_rfl) Whd.headW (by kernel_rfl) (by kernel_rfl) (by kernel_rfl) (by rfl) said (by decide +kernel) Whd.bareW ?hw ?hc
  case hw => w_witness2
  case hc =>
    refine LamX.walk_ofTsE (l := PySem.Challenge.rw_wheelsky_k97_dark_meetings_are_near_whol) (n := 63) (k := 12) (x := "_law_script") (CX := fun _ => C8.CX0) rfl (by decide) (by kernel_rfl) ⟨rfl, by decide, by decide⟩ ?F (fun _ _ _ _ _ z => z)
    intro w mg fa h Y G hmg0
    obtain ⟨K, KX, S⟩ := Y
    have hmg : mg ("law" : PySem.Str) = some (.ref fa) := by
      have e : (HandSHeadRun.topDef Wh.Rw.prog 139).name = ("law" : PySem.Str) := by kernel_rfl
      rw [← e]
      exact hmg0
    exact ⟨K, KX, Wh.law_end S KX G hmg⟩

