import PyProof.Rows.All
import Wide.All
import OpenK.AllK
import Wide.FinOn
import HandS.ForMost
import HandS.Exc
import HandS.TryOnly
import HandS.ExcOwn
import HandS.WordsExc
import HandS.Walk
import HandS.Conv
import HandS.ListItems
import KE.KDictCopyH
import KE.KDictWalk
import HandS.IsInst
import HandS.SetFor
import HandS.Strs
import HandS.More
import HandS.TupLen
import HandS.Style
import PySem.Challenge.RW_pairhues_k08_rows_looked_at
set_option Elab.async false
set_option linter.all false
section
set_option maxRecDepth 100000
set_option maxHeartbeats 4000000
/-! D4a: data over the hand layer: what a value stands for (D), the frozen part of the heap (G), the cells that may change (M). -/
namespace D4
open PySem L2

abbrev Fg := PySem.W.Frag
/-- data: plain, nested; scr: the script, read only; loc: the very value -/
inductive D where
  | non | bl (b : Bool) | int (i : Int) | str (s : Str)
  | lst (xs : List D) | tup (xs : List D) | scr (ns : List Int) | loc (v : V)

mutual
def Rep (K : Fg) (G : Hp) : D → V → Prop
  | .non, v => v = .non
  | .bl b, v => v = .bl b
  | .int i, v => v = .int i
  | .str s, v => v = .str s
  | .lst xs, v => ∃ a vs, v = .ref a ∧ G a = some (.lst vs) ∧ Reps K G xs vs
  | .tup xs, v => ∃ a vs, v = .ref a ∧ G a = some (.tup vs) ∧ Reps K G xs vs
  | .scr ns, v => ∃ a, v = .ref a ∧ SqL K G a (ns.map V.int)
  | .loc u, v => v = u
def Reps (K : Fg) (G : Hp) : List D → List V → Prop
  | [], vs => vs = []
  | d :: ds, vs => ∃ v r, vs = v :: r ∧ Rep K G d v ∧ Reps K G ds r
end

theorem sameT {K : Fg} {H H' : Hp} {a : Addr} {xs : List V} (e : Same H H') (h : SqT K H a xs) : SqT K H' a xs := by
  rcases h with (h | ⟨o, h⟩) | h
  · exact .inl (.inl (e _ _ h))
  · exact .inl (.inr ⟨o, e _ _ h⟩)
  · exact .inr h

mutual
theorem Rep.mono {K : Fg} {G G' : Hp} (e : Same G G') : ∀ (d : D) (v : V), Rep K G d v → Rep K G' d v
  | .non, v, h => by simpa only [Rep] using h
  | .bl b, v, h => by simpa only [Rep] using h
  | .int i, v, h => by simpa only [Rep] using h
  | .str s, v, h => by simpa only [Rep] using h
  | .lst xs, v, h => by
    simp only [Rep] at h ⊢
    obtain ⟨a, vs, h1, h2, h3⟩ := h
    exact ⟨a, vs, h1, e _ _ h2, Reps.mono e xs vs h3⟩
  | .tup xs, v, h => by
    simp only [Rep] at h ⊢
    obtain ⟨a, vs, h1, h2, h3⟩ := h
    exact ⟨a, vs, h1, e _ _ h2, Reps.mono e xs vs h3⟩
  | .scr ns, v, h => by
    simp only [Rep] at h ⊢
    obtain ⟨a, h1, h2⟩ := h
    exact ⟨a, h1, e.seq h2⟩
  | .loc u, v, h => by simpa only [Rep] using h
theorem Reps.mono {K : Fg} {G G' : Hp} (e : Same G G') : ∀ (ds : List D) (vs : List V), Reps K G ds vs → Reps K G' ds vs
  | [], vs, h => by simpa only [Reps] using h
  | d :: ds, vs, h => by
    simp only [Reps] at h ⊢
    obtain ⟨v, r, h1, h2, h3⟩ := h
    exact ⟨v, r, h1, Rep.mono e d v h2, Reps.mono e ds r h3⟩
end
section
variable {K : Fg} {G G' : Hp}
theorem Rep.int_iff {i : Int} {v : V} : Rep K G (.int i) v ↔ v = .int i := by simp only [Rep]
theorem Rep.bl_iff {i : Bool} {v : V} : Rep K G (.bl i) v ↔ v = .bl i := by simp only [Rep]
theorem Rep.str_iff {i : Str} {v : V} : Rep K G (.str i) v ↔ v = .str i := by simp only [Rep]
theorem Rep.non_iff {v : V} : Rep K G .non v ↔ v = .non := by simp only [Rep]
theorem Rep.loc_iff {u v : V} : Rep K G (.loc u) v ↔ v = u := by simp only [Rep]
theorem Rep.lst_iff {xs : List D} {v : V} : Rep K G (.lst xs) v ↔ ∃ a vs, v = .ref a ∧ G a = some (.lst vs) ∧ Reps K G xs vs := by simp only [Rep]
theorem Rep.tup_iff {xs : List D} {v : V} : Rep K G (.tup xs) v ↔ ∃ a vs, v = .ref a ∧ G a = some (.tup vs) ∧ Reps K G xs vs := by simp only [Rep]
theorem Rep.scr_iff {ns : List Int} {v : V} : Rep K G (.scr ns) v ↔ ∃ a, v = .ref a ∧ SqL K G a (ns.map V.int) := by simp only [Rep]
theorem Reps.nil : Reps K G [] [] := by simp only [Reps]
theorem Reps.cons {d : D} {ds : List D} {v : V} {vs : List V} (h : Rep K G d v) (t : Reps K G ds vs) : Reps K G (d :: ds) (v :: vs) := by simp only [Reps]; exact ⟨v, vs, rfl, h, t⟩
theorem Reps.nil_inv {vs : List V} (h : Reps K G [] vs) : vs = [] := by simpa only [Reps] using h
theorem Reps.cons_inv {d : D} {ds : List D} {vs : List V} (h : Reps K G (d :: ds) vs) : ∃ v r, vs = v :: r ∧ Rep K G d v ∧ Reps K G ds r := by simpa only [Reps] using h
theorem Reps.length : ∀ {ds : List D} {vs : List V}, Reps K G ds vs → ds.length = vs.length
  | [], vs, h => by rw [h.nil_inv]; rfl
  | d :: ds, vs, h => by
    obtain ⟨v, r, e, _, t⟩ := h.cons_inv
    rw [e, List.length_cons, List.length_cons, t.length]
theorem Reps.append : ∀ {ds es : List D} {vs ws : List V}, Reps K G ds vs → Reps K G es ws → Reps K G (ds ++ es) (vs ++ ws)
  | [], es, vs, ws, h, h' => by rw [h.nil_inv]; exact h'
  | d :: ds, es, vs, ws, h, h' => by
    obtain ⟨v, r, e, h1, t⟩ := h.cons_inv
    subst e
    exact .cons h1 (t.append h')
theorem Reps.get : ∀ {ds : List D} {vs : List V} {i : Nat} {d : D}, Reps K G ds vs → ds[i]? = some d → ∃ v, vs[i]? = some v ∧ Rep K G d v
  | [], vs, i, d, h, e => by simp at e
  | d :: ds, vs, 0, d', h, e => by
    obtain ⟨v, r, ev, h1, t⟩ := h.cons_inv
    subst ev
    have : d = d' := by simpa using e
    subst this
    exact ⟨v, rfl, h1⟩
  | d :: ds, vs, i + 1, d', h, e => by
    obtain ⟨v, r, ev, h1, t⟩ := h.cons_inv
    subst ev
    obtain ⟨u, h2, h3⟩ := t.get (i := i) (d := d') (by simpa using e)
    exact ⟨u, by simpa using h2, h3⟩
theorem Reps.get' : ∀ {ds : List D} {vs : List V} {i : Nat} {v : V}, Reps K G ds vs → vs[i]? = some v → ∃ d, ds[i]? = some d ∧ Rep K G d v
  | [], vs, i, v, h, e => by rw [h.nil_inv] at e; simp at e
  | d :: ds, vs, 0, v, h, e => by
    obtain ⟨v', r, ev, h1, t⟩ := h.cons_inv
    subst ev
    have : v' = v := by simpa using e
    subst this
    exact ⟨d, rfl, h1⟩
  | d :: ds, vs, i + 1, v, h, e => by
    obtain ⟨v', r, ev, h1, t⟩ := h.cons_inv
    subst ev
    obtain ⟨u, h2, h3⟩ := t.get' (i := i) (v := v) (by simpa using e)
    exact ⟨u, by simpa using h2, h3⟩
theorem Reps.set : ∀ {ds : List D} {vs : List V} {d : D} {v : V} (i : Nat), Reps K G ds vs → Rep K G d v → Reps K G (ds.set i d) (vs.set i v)
  | [], vs, d, v, i, h, e => by cases h.nil_inv; exact Reps.nil
  | d :: ds, vs, d', v', 0, h, e => by
    obtain ⟨v, r, ev, h1, t⟩ := h.cons_inv
    subst ev
    exact .cons e t
  | d :: ds, vs, d', v', i + 1, h, e => by
    obtain ⟨v, r, ev, h1, t⟩ := h.cons_inv
    subst ev
    exact .cons h1 (t.set i e)
theorem Reps.drop : ∀ {ds : List D} {vs : List V} (i : Nat), Reps K G ds vs → Reps K G (ds.drop i) (vs.drop i)
  | ds, vs, 0, h => h
  | [], vs, i + 1, h => by cases h.nil_inv; exact Reps.nil
  | d :: ds, vs, i + 1, h => by
    obtain ⟨v, r, ev, h1, t⟩ := h.cons_inv
    subst ev
    exact t.drop i
theorem Reps.take : ∀ {ds : List D} {vs : List V} (i : Nat), Reps K G ds vs → Reps K G (ds.take i) (vs.take i)
  | ds, vs, 0, h => Reps.nil
  | [], vs, i + 1, h => by cases h.nil_inv; exact Reps.nil
  | d :: ds, vs, i + 1, h => by
    obtain ⟨v, r, ev, h1, t⟩ := h.cons_inv
    subst ev
    exact .cons h1 (t.take i)
theorem Reps.ints : ∀ {ns : List Int} {vs : List V}, Reps K G (ns.map D.int) vs → vs = ns.map V.int
  | [], vs, h => h.nil_inv
  | n :: ns, vs, h => by
    obtain ⟨v, r, ev, h1, t⟩ := h.cons_inv
    rw [Rep.int_iff] at h1
    rw [ev, h1, t.ints]; rfl
theorem Reps.bls : ∀ {ns : List Bool} {vs : List V}, Reps K G (ns.map D.bl) vs → vs = ns.map V.bl
  | [], vs, h => h.nil_inv
  | n :: ns, vs, h => by
    obtain ⟨v, r, ev, h1, t⟩ := h.cons_inv
    rw [Rep.bl_iff] at h1
    rw [ev, h1, t.bls]; rfl
theorem Reps.strs : ∀ {ns : List Str} {vs : List V}, Reps K G (ns.map D.str) vs → vs = ns.map V.str
  | [], vs, h => h.nil_inv
  | n :: ns, vs, h => by
    obtain ⟨v, r, ev, h1, t⟩ := h.cons_inv
    rw [Rep.str_iff] at h1
    rw [ev, h1, t.strs]; rfl
theorem Reps.of_ints : ∀ (ns : List Int), Reps K G (ns.map D.int) (ns.map V.int)
  | [] => .nil
  | n :: ns => .cons (Rep.int_iff.mpr rfl) (Reps.of_ints ns)
theorem Reps.of_bls : ∀ (ns : List Bool), Reps K G (ns.map D.bl) (ns.map V.bl)
  | [] => .nil
  | n :: ns => .cons (Rep.bl_iff.mpr rfl) (Reps.of_bls ns)
theorem Reps.of_strs : ∀ (ns : List Str), Reps K G (ns.map D.str) (ns.map V.str)
  | [] => .nil
  | n :: ns => .cons (Rep.str_iff.mpr rfl) (Reps.of_strs ns)
end

/-! ### cells -/
inductive C where
  | lst (xs : List D) | dI (kvs : List (Int × D)) | dT (kvs : List (List Int × D)) | ins (C dx : Addr) (fs : List (Str × D)) | dZ (od : Obj) (kvs : List (Int × D)) (ws : List (Key × V))
def keyI (k : Int) : Key := .inl k
def keyT (k : List Int) : List Key := k.map keyI
abbrev RepI (K : Fg) (G : Hp) : List (Int × D) → List (Key × V) → Prop := Paired fun p q => q.1 = keyI p.1 ∧ Rep K G p.2 q.2
abbrev RepT (K : Fg) (G : Hp) : List (List Int × D) → List (List Key × V) → Prop := Paired fun p q => q.1 = keyT p.1 ∧ Rep K G p.2 q.2
abbrev RepF (K : Fg) (G : Hp) : List (Str × D) → List (Str × V) → Prop := Paired fun p q => q.1 = p.1 ∧ Rep K G p.2 q.2
theorem Paired.imp {α β : Type} {F F' : α → β → Prop} (f : ∀ a b, F a b → F' a b) : ∀ {l : List α} {r : List β}, Paired F l r → Paired F' l r
  | _, _, .nil => .nil
  | _, _, .cons h t => .cons (f _ _ h) (Paired.imp f t)
def COk (K : Fg) (G : Hp) : C → HO → Prop
  | .lst xs, o => ∃ vs, o = .lst vs ∧ Reps K G xs vs
  | .dI kvs, o => ∃ ws, o = .dK ws ∧ RepI K G kvs ws
  | .dT kvs, o => ∃ ws, o = .dT ws ∧ RepT K G kvs ws
  | .ins c dx fs, o => ∃ gs, o = .ins c dx gs ∧ RepF K G fs gs
  | .dZ od kvs ws, o => o = .frz od (.dK ws) ∧ RepI K G kvs ws
theorem COk.mono {K : Fg} {G G' : Hp} (e : Same G G') : ∀ {c : C} {o : HO}, COk K G c o → COk K G' c o
  | .lst xs, o, ⟨vs, h1, h2⟩ => ⟨vs, h1, h2.mono e⟩
  | .dI xs, o, ⟨vs, h1, h2⟩ => ⟨vs, h1, Paired.imp (fun _ _ h => ⟨h.1, h.2.mono e⟩) h2⟩
  | .dT xs, o, ⟨vs, h1, h2⟩ => ⟨vs, h1, Paired.imp (fun _ _ h => ⟨h.1, h.2.mono e⟩) h2⟩
  | .ins c dx xs, o, ⟨vs, h1, h2⟩ => ⟨vs, h1, Paired.imp (fun _ _ h => ⟨h.1, h.2.mono e⟩) h2⟩
  | .dZ od xs ws, o, ⟨h1, h2⟩ => ⟨h1, Paired.imp (fun _ _ h => ⟨h.1, h.2.mono e⟩) h2⟩

abbrev Mp := Addr → Option C
def um (M : Mp) (a : Addr) (c : C) : Mp := fun b => if b = a then some c else M b
theorem um_same {M : Mp} {a : Addr} {c : C} : um M a c a = some c := by unfold um; rw [if_pos rfl]
theorem um_ne {M : Mp} {a b : Addr} {c : C} (h : b ≠ a) : um M a c b = M b := by unfold um; rw [if_neg h]
theorem um_um {M : Mp} {a : Addr} {c c' : C} : um (um M a c) a c' = um M a c' := by funext b; unfold um; split <;> rfl
/-- forget a cell -/
def dm (M : Mp) (a : Addr) : Mp := fun b => if b = a then none else M b
theorem dm_um {M : Mp} {a : Addr} {c : C} (h : M a = none) : dm (um M a c) a = M := by
  funext b; unfold dm um; by_cases e : b = a
  · rw [if_pos e, e, h]
  · rw [if_neg e, if_neg e]
theorem dm_ne {M : Mp} {a b : Addr} (h : b ≠ a) : dm M a b = M b := by unfold dm; rw [if_neg h]
theorem um_old {M : Mp} {a b : Addr} {c c' : C} (h : M b = some c') (h0 : M a = none) : um M a c b = some c' := by
  rw [um_ne]; exact h
  intro e; rw [e, h0] at h; cases h
theorem ne_m {M : Mp} {a b : Addr} {c : C} (h : M b = some c) (h0 : M a = none) : b ≠ a := by
  intro e; rw [e, h0] at h; cases h

/-- the ground: what was frozen at the entry, the heap at the entry, what may be changed of it -/
structure Bs where
  G0 : Hp
  H0 : Hp
  own : Addr → Prop

/-- new since the entry; may be written -/
def Nw (b : Bs) (p : Addr) : Prop := b.H0 p = none
def Wr (b : Bs) (p : Addr) : Prop := b.H0 p = none ∨ b.own p
theorem Nw.wr {b : Bs} {p : Addr} (h : Nw b p) : Wr b p := .inl h

structure SO (K : Fg) (b : Bs) (M : Mp) (G H : Hp) : Prop where
  g0 : Same b.G0 G
  gh : Same G H
  dis : ∀ a, b.G0 a = none → b.H0 a ≠ none → G a = none
  cel : ∀ a c, M a = some c → G a = none ∧ ∃ o, H a = some o ∧ COk K G c o
  fr : ∀ a o, b.H0 a = some o → ¬ b.own a → H a = some o
  dom : ∀ a, b.H0 a ≠ none → H a ≠ none
def SS (K : Fg) (b : Bs) (M : Mp) (R : Hp → Prop) (H : Hp) : Prop := ∃ G, SO K b M G H ∧ R G
def Mono (R : Hp → Prop) : Prop := ∀ G G', Same G G' → R G → R G'
theorem Mono.and {R R' : Hp → Prop} (a : Mono R) (b : Mono R') : Mono (fun G => R G ∧ R' G) := fun G G' e h => ⟨a G G' e h.1, b G G' e h.2⟩
theorem Mono.rep {K : Fg} {d : D} {v : V} : Mono (fun G => Rep K G d v) := fun G G' e h => h.mono e
theorem Mono.reps {K : Fg} {d : List D} {v : List V} : Mono (fun G => Reps K G d v) := fun G G' e h => h.mono e
theorem Mono.tt : Mono (fun _ => True) := fun _ _ _ h => h
def Env (K : Fg) (G : Hp) (σ : St) (δ : List (Option D)) : Prop := σ.length = δ.length ∧ ∀ (i : Nat) (d : D), δ[i]? = some (some d) → ∃ v, σ[i]? = some (some v) ∧ Rep K G d v
theorem Mono.env {K : Fg} {σ : St} {δ : List (Option D)} : Mono (fun G => Env K G σ δ) := fun G G' e h => ⟨h.1, fun i d q => let ⟨v, h1, h2⟩ := h.2 i d q; ⟨v, h1, h2.mono e⟩⟩
theorem Env.set {K : Fg} {G : Hp} {σ : St} {δ : List (Option D)} {d : D} {v : V} (i : Nat) (h : Env K G σ δ) (r : Rep K G d v) : Env K G (σ.set i (some v)) (δ.set i (some d)) := by
  refine ⟨by simpa using h.1, fun j d' e => ?_⟩
  by_cases hj : i = j
  · subst hj
    by_cases hi : i < δ.length
    · rw [List.getElem?_set_self hi] at e
      have : d = d' := by simpa using e
      subst this
      exact ⟨v, by rw [List.getElem?_set_self (by rw [h.1]; exact hi)], r⟩
    · rw [List.getElem?_eq_none (by simpa using hi)] at e; cases e
  · rw [List.getElem?_set_ne hj] at e ⊢
    exact h.2 j d' e
theorem Env.forget {K : Fg} {G : Hp} {σ : St} {δ : List (Option D)} {o : Option V} (i : Nat) (h : Env K G σ δ) : Env K G (σ.set i o) (δ.set i none) := by
  refine ⟨by simpa using h.1, fun j d' e => ?_⟩
  by_cases hj : i = j
  · subst hj
    by_cases hi : i < δ.length
    · rw [List.getElem?_set_self hi] at e; cases e
    · rw [List.getElem?_eq_none (by simpa using hi)] at e; cases e
  · rw [List.getElem?_set_ne hj] at e ⊢
    exact h.2 j d' e
theorem Env.weak {K : Fg} {G : Hp} {σ : St} {δ δ' : List (Option D)} (h : Env K G σ δ) (hl : δ'.length = δ.length) (hw : ∀ (i : Nat) (d : D), δ'[i]? = some (some d) → δ[i]? = some (some d)) : Env K G σ δ' :=
  ⟨h.1.trans hl.symm, fun i d e => h.2 i d (hw i d e)⟩

section
variable {K : Fg} {b : Bs} {M : Mp} {G H : Hp} {p : Addr}
/-- a new object is frozen -/
theorem SO.frz (S : SO K b M G H) (hp : H p = none) (o : HO) : SO K b M (upd G p o) (upd H p o) ∧ Same G (upd G p o) := by
  have gp : G p = none := S.gh.free hp
  have sg : Same G (upd G p o) := fun a u e => by rw [upd_ne (ne_of_none e gp)]; exact e
  refine ⟨⟨S.g0.trans sg, fun a u e => ?_, fun a h1 h2 => ?_, fun a c e => ?_, fun a u e1 e2 => ?_, fun a e => ?_⟩, sg⟩
  · by_cases h : a = p
    · subst h; rw [upd_same] at e ⊢; exact e
    · rw [upd_ne h] at e ⊢; exact S.gh a u e
  · have ne : a ≠ p := fun e => S.dom a h2 (by rw [e]; exact hp)
    rw [upd_ne ne]; exact S.dis a h1 h2
  · obtain ⟨h1, o', h2, h3⟩ := S.cel a c e
    have ne : a ≠ p := ne_of_none h2 hp
    exact ⟨by rw [upd_ne ne]; exact h1, o', by rw [upd_ne ne]; exact h2, h3.mono sg⟩
  · rw [upd_ne (ne_of_none (S.fr a u e1 e2) hp)]; exact S.fr a u e1 e2
  · have := S.dom a e
    by_cases h : a = p
    · subst h; rw [upd_same]; simp
    · rw [upd_ne h]; exact this
/-- a new cell -/
theorem SO.cell (S : SO K b M G H) (hp : H p = none) {c : C} {o : HO} (hc : COk K G c o) : SO K b (um M p c) G (upd H p o) := by
  have gp : G p = none := S.gh.free hp
  refine ⟨S.g0, fun a u e => ?_, S.dis, fun a c' e => ?_, fun a u e1 e2 => ?_, fun a e => ?_⟩
  · rw [upd_ne (ne_of_none e gp)]; exact S.gh a u e
  · by_cases h : a = p
    · subst h; rw [um_same] at e; cases e
      exact ⟨gp, o, upd_same, hc⟩
    · rw [um_ne h] at e
      obtain ⟨h1, o', h2, h3⟩ := S.cel a c' e
      exact ⟨h1, o', by rw [upd_ne h]; exact h2, h3⟩
  · rw [upd_ne (ne_of_none (S.fr a u e1 e2) hp)]; exact S.fr a u e1 e2
  · have := S.dom a e
    by_cases h : a = p
    · subst h; rw [upd_same]; simp
    · rw [upd_ne h]; exact this
theorem SO.new (S : SO K b M G H) (hp : H p = none) : M p = none ∧ Nw b p ∧ G p = none := by
  refine ⟨?_, ?_, S.gh.free hp⟩
  · cases e : M p with
    | none => rfl
    | some c =>
      obtain ⟨_, o, h, _⟩ := S.cel p c e
      rw [hp] at h; cases h
  · show b.H0 p = none
    cases e : b.H0 p with
    | none => rfl
    | some o => exact absurd hp (S.dom p (by rw [e]; simp))
/-- a cell is changed -/
theorem SO.set (S : SO K b M G H) {c c' : C} {o' : HO} (hm : M p = some c) (hw : Wr b p) (hc : COk K G c' o') : SO K b (um M p c') G (upd H p o') := by
  obtain ⟨gp, o, hp, _⟩ := S.cel p c hm
  refine ⟨S.g0, fun a u e => ?_, S.dis, fun a c' e => ?_, fun a u e1 e2 => ?_, fun a e => ?_⟩
  · rw [upd_ne (ne_of_none e gp)]; exact S.gh a u e
  · by_cases h : a = p
    · subst h; rw [um_same] at e; cases e
      exact ⟨gp, o', upd_same, hc⟩
    · rw [um_ne h] at e
      obtain ⟨h1, o', h2, h3⟩ := S.cel a c' e
      exact ⟨h1, o', by rw [upd_ne h]; exact h2, h3⟩
  · have ne : a ≠ p := by
      intro h; subst h
      rcases hw with hw | hw
      · rw [hw] at e1; cases e1
      · exact e2 hw
    rw [upd_ne ne]; exact S.fr a u e1 e2
  · have := S.dom a e
    by_cases h : a = p
    · subst h; rw [upd_same]; simp
    · rw [upd_ne h]; exact this
/-- a cell that is a list is frozen -/
theorem SO.freeze (S : SO K b M G H) {xs : List D} (hm : M p = some (.lst xs)) (hw : Nw b p) :
    ∃ G', SO K b (dm M p) G' H ∧ Same G G' ∧ Rep K G' (.lst xs) (.ref p) := by
  obtain ⟨gp, o, hp, vs, ho, hr⟩ := S.cel p _ hm
  subst ho
  have sg : Same G (upd G p (.lst vs)) := fun a u e => by rw [upd_ne (ne_of_none e gp)]; exact e
  refine ⟨upd G p (.lst vs), ⟨S.g0.trans sg, fun a u e => ?_, fun a h1 h2 => ?_, fun a c e => ?_, S.fr, S.dom⟩, sg, ?_⟩
  · by_cases h : a = p
    · subst h; rw [upd_same] at e; cases e; exact hp
    · rw [upd_ne h] at e; exact S.gh a u e
  · have ne : a ≠ p := fun e => h2 (by rw [e]; exact hw)
    rw [upd_ne ne]; exact S.dis a h1 h2
  · by_cases h : a = p
    · subst h; unfold dm at e; rw [if_pos rfl] at e; cases e
    · rw [dm_ne h] at e
      obtain ⟨h1, o', h2, h3⟩ := S.cel a c e
      exact ⟨by rw [upd_ne h]; exact h1, o', h2, h3.mono sg⟩
  · rw [Rep.lst_iff]
    exact ⟨p, vs, rfl, upd_same, hr.mono sg⟩
/-- fewer cells -/
theorem SO.less (S : SO K b M G H) {M' : Mp} (h : ∀ a c, M' a = some c → M a = some c) : SO K b M' G H :=
  ⟨S.g0, S.gh, S.dis, fun a c e => S.cel a c (h a c e), S.fr, S.dom⟩
/-- the ground of a callee -/
theorem SO.sub (S : SO K b M G H) (own : Addr → Prop) : SO K ⟨G, H, own⟩ M G H :=
  ⟨Same.refl G, S.gh, fun a h1 h2 => h1, S.cel, fun a o e _ => e, fun a e => e⟩
/-- back from a callee -/
theorem SO.back (S : SO K b M G H) {own : Addr → Prop} {M' : Mp} {G' H' : Hp} (S' : SO K ⟨G, H, own⟩ M' G' H') (ho : ∀ a, own a → Wr b a) : SO K b M' G' H' := by
  refine ⟨S.g0.trans S'.g0, S'.gh, fun a h1 h2 => S'.dis a (S.dis a h1 h2) (S.dom a h2), S'.cel, fun a o e1 e2 => ?_, fun a e => S'.dom a (S.dom a e)⟩
  refine S'.fr a o (S.fr a o e1 e2) fun q => ?_
  rcases ho a q with z | z
  · rw [z] at e1; cases e1
  · exact e2 z
/-- a dict is locked: a ground of its own -/
def lk (b : Bs) (G H : Hp) (a : Addr) (od : Obj) (u : HO) : Bs := ⟨G, upd H a (.frz od u), fun x => Wr b x⟩
theorem SO.wr_lk (S : SO K b M G H) {a : Addr} {od : Obj} {u : HO} (h : H a = some u) (x : Addr) : Wr (lk b G H a od u) x ↔ Wr b x := by
  constructor
  · rintro (h1 | h1)
    · have h1 : upd H a (.frz od u) x = none := h1
      have ne : x ≠ a := by intro e; rw [e, upd_same] at h1; cases h1
      rw [upd_ne ne] at h1
      exact .inl (S.new h1).2.1
    · exact h1
  · exact fun h1 => .inr h1
theorem SO.lock (S : SO K b M G H) {a : Addr} {kvs : List (Int × D)} (hm : M a = some (.dI kvs)) :
    ∃ ws, H a = some (.dK ws) ∧ ∀ od, SO K (lk b G H a od (.dK ws)) (um M a (.dZ od kvs ws)) G (upd H a (.frz od (.dK ws))) := by
  obtain ⟨gp, o, hp, ws, ho, hr⟩ := S.cel a _ hm
  subst ho
  refine ⟨ws, hp, fun od => ⟨Same.refl G, fun x u e => ?_, fun x h1 h2 => h1, fun x c e => ?_, fun x o e _ => e, fun x e => e⟩⟩
  · rw [upd_ne (ne_of_none e gp)]; exact S.gh x u e
  · by_cases h : x = a
    · subst h; rw [um_same] at e; cases e
      exact ⟨gp, _, upd_same, rfl, hr⟩
    · rw [um_ne h] at e
      obtain ⟨h1, o', h2, h3⟩ := S.cel x c e
      exact ⟨h1, o', by rw [upd_ne h]; exact h2, h3⟩
theorem SO.unlock (S : SO K b M G H) {a : Addr} {kvs : List (Int × D)} {ws : List (Key × V)} (hp : H a = some (.dK ws)) {od : Obj} {M' : Mp} {G' H' : Hp} (S' : SO K (lk b G H a od (.dK ws)) M' G' H') (hm : M' a = some (.dZ od kvs ws)) :
    H' a = some (.frz od (.dK ws)) ∧ SO K b (um M' a (.dI kvs)) G' (upd H' a (.dK ws)) := by
  obtain ⟨gp, o, ho, e, hr⟩ := S'.cel a _ hm
  subst e
  refine ⟨ho, S.g0.trans S'.g0, fun x u e => ?_, fun x h1 h2 => S'.dis x (S.dis x h1 h2) (fun q => ?_), fun x c e => ?_, fun x o e1 e2 => ?_, fun x e => ?_⟩
  · rw [upd_ne (ne_of_none e gp)]; exact S'.gh x u e
  · have q : upd H a (.frz od (.dK ws)) x = none := q
    by_cases h : x = a
    · rw [h, upd_same] at q; cases q
    · rw [upd_ne h] at q; exact S.dom x h2 q
  · by_cases h : x = a
    · subst h; rw [um_same] at e; cases e
      exact ⟨gp, _, upd_same, ws, rfl, hr⟩
    · rw [um_ne h] at e
      obtain ⟨h1, o', h2, h3⟩ := S'.cel x c e
      exact ⟨h1, o', by rw [upd_ne h]; exact h2, h3⟩
  · have hx := S.fr x o e1 e2
    by_cases h : x = a
    · subst h; rw [hp] at hx; rw [upd_same]; exact hx
    · rw [upd_ne h]
      refine S'.fr x o (by show upd H a (.frz od (.dK ws)) x = some o; rw [upd_ne h]; exact hx) ?_
      rintro (z | z)
      · rw [z] at e1; cases e1
      · exact e2 z
  · by_cases h : x = a
    · subst h; rw [upd_same]; simp
    · rw [upd_ne h]
      refine S'.dom x ?_
      show upd H a (.frz od (.dK ws)) x ≠ none
      rw [upd_ne h]; exact S.dom x e
theorem SS.imp {R R' : Hp → Prop} (h : SS K b M R H) (f : ∀ G, R G → R' G) : SS K b M R' H := let ⟨G, s, r⟩ := h; ⟨G, s, f G r⟩
end
end D4
end

section
set_option maxRecDepth 100000
set_option maxHeartbeats 4000000
/-! D4b: expressions, arguments, tests, statements by what they stand for. -/
namespace D4
open PySem L2

abbrev Od := List (Option D)
/-! ### the judgements' readings by meaning alone -/
def WE (X : Cx) (e : Expr) : TE := fun σ H Q => ∀ (pins : List (Addr × Obj)) (s : Shared), Inv X pins σ H s → wpAny (model X.prog X.w) X.A (eval e X.env) (EP X pins σ Q) X.xe s
theorem pe_we {X : Cx} {e : Expr} : PE X e (WE X e) := ⟨fun pins s σ H Q I h => h pins s I⟩
theorem we_of {X : Cx} {e : Expr} {t : TE} {σ : L2.St} {H : Hp} {Q : VK} (h : PE X e t) (q : t σ H Q) : WE X e σ H Q := fun pins s I => h.run pins s σ H Q I q
def WT (X : Cx) (e : Expr) : TT := fun σ H Q => ∀ (pins : List (Addr × Obj)) (s : Shared), Inv X pins σ H s → wpAny (model X.prog X.w) X.A (isTrue e X.env (eval e X.env)) (TP X pins σ Q) X.xe s
theorem pt_wt {X : Cx} {e : Expr} : PT X e (WT X e) := ⟨fun pins s σ H Q I h => h pins s I⟩
theorem wt_of {X : Cx} {e : Expr} {t : TT} {σ : L2.St} {H : Hp} {Q : Bool → Hp → Prop} (h : PT X e t) (q : t σ H Q) : WT X e σ H Q := fun pins s I => h.run pins s σ H Q I q
def WW (X : Cx) (e : Expr) : TT := fun σ H Q => ∀ (whole : Sem Value) (pins : List (Addr × Obj)) (s : Shared), Inv X pins σ H s → wpAny (model X.prog X.w) X.A (isTrue e X.env whole) (TP X pins σ Q) X.xe s
theorem pw_ww {X : Cx} {e : Expr} : PW X e (WW X e) := ⟨fun wh pins s σ H Q I h => h wh pins s I⟩
theorem ww_of {X : Cx} {e : Expr} {t : TT} {σ : L2.St} {H : Hp} {Q : Bool → Hp → Prop} (h : PW X e t) (q : t σ H Q) : WW X e σ H Q := fun wh pins s I => h.run wh pins s σ H Q I q
def WA (X : Cx) (es : List Expr) : TA := fun σ H Q => ∀ (pos : Pos) (pins : List (Addr × Obj)) (s : Shared), Inv X pins σ H s → wpAny (model X.prog X.w) X.A (spliced (backTo pos (starEach es X.env))) (AP X pins σ Q) X.xe s
theorem pa_wa {X : Cx} {es : List Expr} : PA X es (WA X es) := ⟨fun pos pins s σ H Q I h => h pos pins s I⟩
theorem wa_of {X : Cx} {es : List Expr} {t : TA} {σ : L2.St} {H : Hp} {Q : List V → Hp → Prop} (h : PA X es t) (q : t σ H Q) : WA X es σ H Q := fun pos pins s I => h.run pos pins s σ H Q I q
def WS (X : Cx) (st : Stmt) : TS := fun D σ H => ∀ (pins : List (Addr × Obj)) (s : Shared), Inv X pins σ H s → wpAny (model X.prog X.w) X.A (exec st X.env) (SP X pins D) X.xe s
theorem ps_ws {X : Cx} {st : Stmt} : PS X st (WS X st) := ⟨fun pins s σ H D I h => h pins s I⟩
theorem ws_of {X : Cx} {st : Stmt} {t : TS} {σ : L2.St} {H : Hp} {D : Ends} (h : PS X st t) (q : t D σ H) : WS X st D σ H := fun pins s I => h.run pins s σ H D I q
def WSs (X : Cx) (st : List Stmt) : TS := fun D σ H => ∀ (pins : List (Addr × Obj)) (s : Shared), Inv X pins σ H s → wpAny (model X.prog X.w) X.A (execs st X.env) (SP X pins D) X.xe s
theorem pss_wss {X : Cx} {st : List Stmt} : PSs X st (WSs X st) := ⟨fun pins s σ H D I h => h pins s I⟩
theorem wss_of {X : Cx} {st : List Stmt} {t : TS} {σ : L2.St} {H : Hp} {D : Ends} (h : PSs X st t) (q : t D σ H) : WSs X st D σ H := fun pins s I => h.run pins s σ H D I q
/-- a two-place operation, a call of a known value, by meaning -/
def WO (X : Cx) (f : Value → Value → Sem Value) : R2 := fun x y H Q => ∀ (pins : List (Addr × Obj)) (s : Shared) (σ : L2.St) (v u : Value), Inv X pins σ H s → RelV x v → RelV y u → wpAny (model X.prog X.w) X.A (f v u) (EP X pins σ Q) X.xe s
theorem wo_op {X : Cx} {f : Value → Value → Sem Value} : OpR X f (WO X f) := fun pins s σ H x y v u Q I rx ry h => h pins s σ v u I rx ry
theorem wo_of {X : Cx} {f : Value → Value → Sem Value} {r : R2} {x y : V} {H : Hp} {Q : VK} (h : OpR X f r) (q : r x y H Q) : WO X f x y H Q := fun pins s σ v u I rx ry => h pins s σ H x y v u Q I rx ry q
def WC (X : Cx) (f : Value) : List V → Hp → VK → Prop := fun xs H Q => ∀ (pins : List (Addr × Obj)) (s : Shared) (σ : L2.St) (us : List Value), Inv X pins σ H s → Vals xs us → wpAny (model X.prog X.w) X.A (call f us) (EP X pins σ Q) X.xe s
theorem wc_op {X : Cx} {f : Value} : CallR X f (WC X f) := fun pins s σ H xs us Q I rx h => h pins s σ us I rx
theorem wc_of {X : Cx} {f : Value} {r : List V → Hp → VK → Prop} {xs : List V} {H : Hp} {Q : VK} (h : CallR X f r) (q : r xs H Q) : WC X f xs H Q := fun pins s σ us I rx => h pins s σ H xs us Q I rx q
def WX' (X : Cx) : R2 := fun x y H Q => ∀ (value slice : Expr) (pins : List (Addr × Obj)) (s : Shared) (σ : L2.St) (v u : Value), Inv X pins σ H s → RelV x v → RelV y u → subscripted slice false v u = operate [v, u] (getItem v u) → wpAny (model X.prog X.w) X.A (PyProof.Rows.subscriptTail value slice v u) (EP X pins σ Q) X.xe s
theorem wx_op {X : Cx} : IxR X (WX' X) := fun value slice pins s σ H x y v u Q I rx ry h hs => h value slice pins s σ v u I rx ry hs
theorem wx_of {X : Cx} {r : R2} {x y : V} {H : Hp} {Q : VK} (h : IxR X r) (q : r x y H Q) : WX' X x y H Q := fun value slice pins s σ v u I rx ry hs => h value slice pins s σ H x y v u Q I rx ry q hs
def WM (X : Cx) (id : String) : V → List V → Hp → VK → Prop := fun x xs H Q => ∀ (pins : List (Addr × Obj)) (s : Shared) (σ : L2.St) (v : Value) (us : List Value), Inv X pins σ H s → RelV x v → Vals xs us → wpAny (model X.prog X.w) X.A (call (.builtin id) (v :: us)) (EP X pins σ Q) X.xe s
theorem wm_op {X : Cx} {id : String} : MtR X id (WM X id) := fun pins s σ H x xs v us Q I rx rs h => h pins s σ v us I rx rs
theorem wm_of {X : Cx} {id : String} {r : V → List V → Hp → VK → Prop} {x : V} {xs : List V} {H : Hp} {Q : VK} (h : MtR X id r) (q : r x xs H Q) : WM X id x xs H Q := fun pins s σ v us I rx rs => h pins s σ H x xs v us Q I rx rs q

/-- an exception of that class in the air, the slots and the heap so: what the context takes -/
def WXc (X : Cx) : WX := fun cls d σ H => ∀ (u : Value) (s' : Shared), XE X (fun c d' σ' H' => c = cls ∧ d' = d ∧ σ' = σ ∧ H' = H) u s' → X.xe u s'
theorem takes_wxc {X : Cx} : Takes X (WXc X) := fun u s' ⟨a, B, sI, pins, σ, H, cls, d, e, I, nb, up, sky, na, os, ag, w⟩ => w u s' ⟨a, B, sI, pins, σ, H, cls, d, e, I, nb, up, sky, na, os, ag, rfl, rfl, rfl, rfl⟩
theorem wxc_of {X : Cx} {W : WX} (tk : Takes X W) {cls : Value} {d : Option Addr} {σ : L2.St} {H : Hp} (w : W cls d σ H) : WXc X cls d σ H := fun u s' ⟨a, B, sI, pins, σ', H', cls', d', e, I, nb, up, sky, na, os, ag, q1, q2, q3, q4⟩ => by
  subst q1; subst q2; subst q3; subst q4
  exact tk u s' ⟨a, B, sI, pins, _, _, _, _, e, I, nb, up, sky, na, os, ag, w⟩
/-! ### the judgements over data -/
abbrev RE (K : Fg) (σ : L2.St) (δ : Od) (R : Hp → Prop) : Hp → Prop := fun G => Env K G σ δ ∧ R G
abbrev RV (K : Fg) (σ : L2.St) (δ : Od) (R : Hp → Prop) (d : D) (v : V) : Hp → Prop := fun G => Env K G σ δ ∧ R G ∧ Rep K G d v
abbrev RVs (K : Fg) (σ : L2.St) (δ : Od) (R : Hp → Prop) (d : List D) (v : List V) : Hp → Prop := fun G => Env K G σ δ ∧ R G ∧ Reps K G d v
abbrev Xs := Value → Mp → Prop
abbrev NX : Xs := fun _ _ => False
def KX (X : Cx) (b : Bs) (δ : Od) (R : Hp → Prop) (σ : L2.St) (Ψ : Xs) : Prop := ∀ cls M' H', Ψ cls M' → SS X.K b M' (RE X.K σ δ R) H' → WXc X cls none σ H'
def EW (X : Cx) (b : Bs) (δ : Od) (M : Mp) (e : Expr) (Φ : Mp → D → Prop) (Ψ : Xs) : Prop :=
  ∀ (R : Hp → Prop), Mono R → ∀ (σ : L2.St) (H : Hp) (Q : VK), SS X.K b M (RE X.K σ δ R) H → (∀ M' d v H', Φ M' d → SS X.K b M' (RV X.K σ δ R d v) H' → Q v H') → KX X b δ R σ Ψ → WE X e σ H Q
def EWs (X : Cx) (b : Bs) (δ : Od) (M : Mp) (es : List Expr) (Φ : Mp → List D → Prop) (Ψ : Xs) : Prop :=
  ∀ (R : Hp → Prop), Mono R → ∀ (σ : L2.St) (H : Hp) (Q : List V → Hp → Prop), SS X.K b M (RE X.K σ δ R) H → (∀ M' d v H', Φ M' d → SS X.K b M' (RVs X.K σ δ R d v) H' → Q v H') → KX X b δ R σ Ψ → WA X es σ H Q
def TW (X : Cx) (b : Bs) (δ : Od) (M : Mp) (e : Expr) (Φ : Mp → Bool → Prop) (Ψ : Xs) : Prop :=
  ∀ (R : Hp → Prop), Mono R → ∀ (σ : L2.St) (H : Hp) (Q : Bool → Hp → Prop), SS X.K b M (RE X.K σ δ R) H → (∀ M' c H', Φ M' c → SS X.K b M' (RE X.K σ δ R) H' → Q c H') → KX X b δ R σ Ψ → WT X e σ H Q
def TWW (X : Cx) (b : Bs) (δ : Od) (M : Mp) (e : Expr) (Φ : Mp → Bool → Prop) (Ψ : Xs) : Prop :=
  ∀ (R : Hp → Prop), Mono R → ∀ (σ : L2.St) (H : Hp) (Q : Bool → Hp → Prop), SS X.K b M (RE X.K σ δ R) H → (∀ M' c H', Φ M' c → SS X.K b M' (RE X.K σ δ R) H' → Q c H') → KX X b δ R σ Ψ → WW X e σ H Q
/-- an operation on data -/
def OW (X : Cx) (b : Bs) (f : Value → Value → Sem Value) (M : Mp) (d1 d2 : D) (Φ : Mp → D → Prop) : Prop :=
  ∀ (R : Hp → Prop), Mono R → ∀ (x y : V) (H : Hp) (Q : VK), SS X.K b M (fun G => R G ∧ Rep X.K G d1 x ∧ Rep X.K G d2 y) H → (∀ M' d v H', Φ M' d → SS X.K b M' (fun G => R G ∧ Rep X.K G d v) H' → Q v H') → WO X f x y H Q
def CW (X : Cx) (b : Bs) (f : Value) (M : Mp) (ds : List D) (Φ : Mp → D → Prop) : Prop :=
  ∀ (R : Hp → Prop), Mono R → ∀ (xs : List V) (H : Hp) (Q : VK), SS X.K b M (fun G => R G ∧ Reps X.K G ds xs) H → (∀ M' d v H', Φ M' d → SS X.K b M' (fun G => R G ∧ Rep X.K G d v) H' → Q v H') → WC X f xs H Q
def XW (X : Cx) (b : Bs) (M : Mp) (d1 d2 : D) (Φ : Mp → D → Prop) : Prop :=
  ∀ (R : Hp → Prop), Mono R → ∀ (x y : V) (H : Hp) (Q : VK), SS X.K b M (fun G => R G ∧ Rep X.K G d1 x ∧ Rep X.K G d2 y) H → (∀ M' d v H', Φ M' d → SS X.K b M' (fun G => R G ∧ Rep X.K G d v) H' → Q v H') → WX' X x y H Q
def MW (X : Cx) (b : Bs) (T id : String) (M : Mp) (d1 : D) (ds : List D) (Φ : Mp → D → Prop) : Prop :=
  ∀ (R : Hp → Prop), Mono R → ∀ (x : V) (xs : List V) (H : Hp) (Q : VK), SS X.K b M (fun G => R G ∧ Rep X.K G d1 x ∧ Reps X.K G ds xs) H → (∀ M' d v H', Φ M' d → SS X.K b M' (fun G => R G ∧ Rep X.K G d v) H' → Q v H') → WM X id x xs H Q
/-- pure: one value, no cell changed -/
abbrev One (M : Mp) (d : D) : Mp → D → Prop := fun M' d' => M = M' ∧ d = d'
abbrev EV (X : Cx) (b : Bs) (δ : Od) (M : Mp) (e : Expr) (d : D) : Prop := EW X b δ M e (One M d) NX
abbrev EVs (X : Cx) (b : Bs) (δ : Od) (M : Mp) (es : List Expr) (ds : List D) : Prop := EWs X b δ M es (fun M' d' => M = M' ∧ ds = d') NX
abbrev TV (X : Cx) (b : Bs) (δ : Od) (M : Mp) (e : Expr) (c : Bool) : Prop := TW X b δ M e (fun M' c' => M = M' ∧ c = c') NX
abbrev TVW (X : Cx) (b : Bs) (δ : Od) (M : Mp) (e : Expr) (c : Bool) : Prop := TWW X b δ M e (fun M' c' => M = M' ∧ c = c') NX
section
variable {X : Cx} {b : Bs} {δ : Od} {M : Mp} {e e1 e2 : Expr} {es : List Expr} {Φ Φ' : Mp → D → Prop} {Ψ : Xs} {d d1 d2 : D} {pos : Pos}
theorem KX.nx {R : Hp → Prop} {σ : L2.St} : KX X b δ R σ NX := fun _ _ _ h => h.elim
theorem KX.up {R R' : Hp → Prop} {σ : L2.St} (k : KX X b δ R σ Ψ) (f : ∀ G, R' G → R G) : KX X b δ R' σ Ψ := fun cls M' H' p S => k cls M' H' p (S.imp fun G z => ⟨z.1, f G z.2⟩)
theorem KX.and {R R' : Hp → Prop} {σ : L2.St} (k : KX X b δ R σ Ψ) : KX X b δ (fun G => R G ∧ R' G) σ Ψ := k.up fun G z => z.1
theorem EW.imp (h : EW X b δ M e Φ Ψ) (f : ∀ M d, Φ M d → Φ' M d) : EW X b δ M e Φ' Ψ := fun R mR σ H Q S k kx => h R mR σ H Q S (fun M' d v H' p => k M' d v H' (f _ _ p)) kx
theorem EWs.imp {Φ Φ' : Mp → List D → Prop} (h : EWs X b δ M es Φ Ψ) (f : ∀ M d, Φ M d → Φ' M d) : EWs X b δ M es Φ' Ψ := fun R mR σ H Q S k kx => h R mR σ H Q S (fun M' d v H' p => k M' d v H' (f _ _ p)) kx
theorem TW.imp {Φ Φ' : Mp → Bool → Prop} (h : TW X b δ M e Φ Ψ) (f : ∀ M d, Φ M d → Φ' M d) : TW X b δ M e Φ' Ψ := fun R mR σ H Q S k kx => h R mR σ H Q S (fun M' d H' p => k M' d H' (f _ _ p)) kx
theorem TWW.imp {Φ Φ' : Mp → Bool → Prop} (h : TWW X b δ M e Φ Ψ) (f : ∀ M d, Φ M d → Φ' M d) : TWW X b δ M e Φ' Ψ := fun R mR σ H Q S k kx => h R mR σ H Q S (fun M' d H' p => k M' d H' (f _ _ p)) kx
theorem EW.to (h : EV X b δ M e d) (q : Φ M d) : EW X b δ M e Φ Ψ := fun R mR σ H Q S k kx => h R mR σ H Q S (fun M' d' v H' p => by obtain ⟨rfl, rfl⟩ := p; exact k _ _ v H' q) .nx
theorem EWs.to {Φ : Mp → List D → Prop} {ds : List D} (h : EVs X b δ M es ds) (q : Φ M ds) : EWs X b δ M es Φ Ψ := fun R mR σ H Q S k kx => h R mR σ H Q S (fun M' d' v H' p => by obtain ⟨rfl, rfl⟩ := p; exact k _ _ v H' q) .nx
theorem TW.to {Φ : Mp → Bool → Prop} {c : Bool} (h : TV X b δ M e c) (q : Φ M c) : TW X b δ M e Φ Ψ := fun R mR σ H Q S k kx => h R mR σ H Q S (fun M' d' H' p => by obtain ⟨rfl, rfl⟩ := p; exact k _ _ H' q) .nx
theorem TWW.to {Φ : Mp → Bool → Prop} {c : Bool} (h : TVW X b δ M e c) (q : Φ M c) : TWW X b δ M e Φ Ψ := fun R mR σ H Q S k kx => h R mR σ H Q S (fun M' d' H' p => by obtain ⟨rfl, rfl⟩ := p; exact k _ _ H' q) .nx
theorem OW.imp {f : Value → Value → Sem Value} (h : OW X b f M d1 d2 Φ) (g : ∀ M d, Φ M d → Φ' M d) : OW X b f M d1 d2 Φ' := fun R mR x y H Q S k => h R mR x y H Q S fun M' d v H' p => k M' d v H' (g _ _ p)
theorem CW.imp {f : Value} {ds : List D} (h : CW X b f M ds Φ) (g : ∀ M d, Φ M d → Φ' M d) : CW X b f M ds Φ' := fun R mR x H Q S k => h R mR x H Q S fun M' d v H' p => k M' d v H' (g _ _ p)
theorem XW.imp (h : XW X b M d1 d2 Φ) (g : ∀ M d, Φ M d → Φ' M d) : XW X b M d1 d2 Φ' := fun R mR x y H Q S k => h R mR x y H Q S fun M' d v H' p => k M' d v H' (g _ _ p)
theorem EV.cast {d' : D} (h : EV X b δ M e d) (q : d = d') : EV X b δ M e d' := q ▸ h
theorem TV.cast {c c' : Bool} (h : TV X b δ M e c) (q : c = c') : TV X b δ M e c' := q ▸ h

/-! ### names and constants -/
theorem ev_flat {v : V} (h : PE X e (tC v)) (r : ∀ G, Rep X.K G d v) : EV X b δ M e d := fun R mR σ H Q S k kx => we_of h (k M d v H ⟨rfl, rfl⟩ (S.imp fun G z => ⟨z.1, z.2, r G⟩))
theorem ev_int {i : Int} {j : Nat} : EV X b δ M (.Constant (.int i) j pos) (.int i) := ev_flat pe_int fun _ => Rep.int_iff.mpr rfl
theorem ev_bl {i : Bool} {j : Nat} : EV X b δ M (.Constant (.bool i) j pos) (.bl i) := ev_flat pe_bl fun _ => Rep.bl_iff.mpr rfl
theorem ev_non {j : Nat} : EV X b δ M (.Constant .none j pos) .non := ev_flat pe_non fun _ => Rep.non_iff.mpr rfl
theorem ev_str {i : Str} {j : Nat} : EV X b δ M (.Constant (.str i) j pos) (.str i) := ev_flat pe_str fun _ => Rep.str_iff.mpr rfl
theorem ev_var (i : Nat) {x : Str} (hd : δ[i]? = some (some d)) (hN : X.N[i]? = some x := by rfl) (hv : Vis X.env.scope x := by first | exact Or.inl rfl | exact Or.inr (Or.inl rfl) | exact Or.inr (Or.inr rfl))
    (hd1 : (x == ("__debug__" : Str)) = false := by decide) (hcd : (x == ("__classdict__" : Str)) = false := by decide) : EV X b δ M (.Name x pos) d := fun R mR σ H Q S k kx => by
  refine we_of (pe_var (i := i) hN hv hd1 hcd) ?_
  obtain ⟨G, S, E, r⟩ := S
  obtain ⟨v, h1, h2⟩ := E.2 i d hd
  exact ⟨v, h1, k M d v H ⟨rfl, rfl⟩ ⟨G, S, E, r, h2⟩⟩
/-- a module's constant -/
theorem ev_glob {x : Str} {v : V} {u : Value} (hg : Gl X x) (hm : X.mg x = some u) (r : RelV v u) (hr : ∀ G, Rep X.K G d v) (hd : (x == ("__debug__" : Str)) = false := by decide) : EV X b δ M (.Name x pos) d := ev_flat (pe_glob hg hm r hd) hr
theorem ev_bltn {x : Str} {v : V} {u : Value} (hg : Gl X x) (hm : X.mg x = none) (hv : bootBuiltins x = some u) (r : RelV v u) (hn : x ≠ "__name__" := by decide) (hd : (x == ("__debug__" : Str)) = false := by decide) : EV X b δ M (.Name x pos) (.loc v) :=
  ev_flat (pe_bltn hg hm hv r hn hd) fun _ => Rep.loc_iff.mpr rfl

/-! ### operations -/
theorem ew_bin {op : Operator} (h : EW X b δ M e1 (fun M1 d1 => EW X b δ M1 e2 (fun M2 d2 => OW X b (binaryOp op) M2 d1 d2 Φ) Ψ) Ψ) : EW X b δ M (.BinOp e1 op e2 pos) Φ Ψ := fun R mR σ H Q S k kx => by
  refine we_of (pe_op (wo_op (f := binaryOp op)) pe_we pe_we) ?_
  refine h R mR σ H _ S (fun M1 d1 x H1 h1 S1 => ?_) kx
  refine h1 (fun G => R G ∧ Rep X.K G d1 x) (mR.and .rep) σ H1 _ S1 (fun M2 d2 y H2 h2 S2 => ?_) kx.and
  exact h2 (RE X.K σ δ R) (Mono.env.and mR) x y H2 Q (S2.imp fun G z => ⟨⟨z.1, z.2.1.1⟩, z.2.1.2, z.2.2⟩) fun M3 d v H3 p S3 => k M3 d v H3 p (S3.imp fun G z => ⟨z.1.1, z.1.2, z.2⟩)
theorem ev_bin {op : Operator} (h1 : EV X b δ M e1 d1) (h2 : EV X b δ M e2 d2) (ho : OW X b (binaryOp op) M d1 d2 (One M d)) : EV X b δ M (.BinOp e1 op e2 pos) d := ew_bin (h1.to (h2.to ho))
theorem ew_cmp {op : CmpOp} (h : EW X b δ M e1 (fun M1 d1 => EW X b δ M1 e2 (fun M2 d2 => OW X b (compareOp op) M2 d1 d2 Φ) Ψ) Ψ) (hm : behindInMarks op e2 = false := by first | exact nomark _ | rfl) : EW X b δ M (.Compare e1 [op] [e2] pos) Φ Ψ := fun R mR σ H Q S k kx => by
  refine we_of (pe_cmpR (wo_op (f := compareOp op)) pe_we pe_we hm) ?_
  refine h R mR σ H _ S (fun M1 d1 x H1 h1 S1 => ?_) kx
  refine h1 (fun G => R G ∧ Rep X.K G d1 x) (mR.and .rep) σ H1 _ S1 (fun M2 d2 y H2 h2 S2 => ?_) kx.and
  exact h2 (RE X.K σ δ R) (Mono.env.and mR) x y H2 Q (S2.imp fun G z => ⟨⟨z.1, z.2.1.1⟩, z.2.1.2, z.2.2⟩) fun M3 d v H3 p S3 => k M3 d v H3 p (S3.imp fun G z => ⟨z.1.1, z.1.2, z.2⟩)
theorem ev_cmp {op : CmpOp} (h1 : EV X b δ M e1 d1) (h2 : EV X b δ M e2 d2) (ho : OW X b (compareOp op) M d1 d2 (One M d)) (hm : behindInMarks op e2 = false := by first | exact nomark _ | rfl) : EV X b δ M (.Compare e1 [op] [e2] pos) d := ew_cmp (h1.to (h2.to ho)) hm
theorem tw_cmp {op : CmpOp} {Φ : Mp → Bool → Prop} (h : EW X b δ M e1 (fun M1 d1 => EW X b δ M1 e2 (fun M2 d2 => OW X b (compareOp op) M2 d1 d2 fun M3 d => ∃ c, d = .bl c ∧ Φ M3 c) Ψ) Ψ) (hm : behindInMarks op e2 = false := by first | exact nomark _ | rfl) : TW X b δ M (.Compare e1 [op] [e2] pos) Φ Ψ := fun R mR σ H Q S k kx => by
  refine wt_of (pt_cmpR (wo_op (f := compareOp op)) pe_we pe_we hm) ?_
  refine h R mR σ H _ S (fun M1 d1 x H1 h1 S1 => ?_) kx
  refine h1 (fun G => R G ∧ Rep X.K G d1 x) (mR.and .rep) σ H1 _ S1 (fun M2 d2 y H2 h2 S2 => ?_) kx.and
  refine h2 (RE X.K σ δ R) (Mono.env.and mR) x y H2 _ (S2.imp fun G z => ⟨⟨z.1, z.2.1.1⟩, z.2.1.2, z.2.2⟩) fun M3 d v H3 p S3 => ?_
  obtain ⟨c, rfl, p⟩ := p
  obtain ⟨G, S3, z1, z2⟩ := S3
  exact ⟨c, Rep.bl_iff.mp z2, k M3 c H3 p ⟨G, S3, z1⟩⟩
theorem tv_cmp {op : CmpOp} {c : Bool} (h1 : EV X b δ M e1 d1) (h2 : EV X b δ M e2 d2) (ho : OW X b (compareOp op) M d1 d2 (One M (.bl c))) (hm : behindInMarks op e2 = false := by first | exact nomark _ | rfl) : TV X b δ M (.Compare e1 [op] [e2] pos) c :=
  tw_cmp (h1.to (h2.to (ho.imp fun M d ⟨q1, q2⟩ => ⟨c, q2.symm, q1, rfl⟩))) hm
/-- a chain of two comparisons of ints -/
theorem ev_chain {op op' : CmpOp} {e3 : Expr} {i j k : Int} {g g' : Int → Int → V} {p p' : Int → Int → Bool} (h1 : EV X b δ M e1 (.int i)) (h2 : EV X b δ M e2 (.int j)) (h3 : EV X b δ M e3 (.int k))
    (ho : OpR X (compareOp op) (rI0 g)) (ho' : OpR X (compareOp op') (rI0 g')) (hg : ∀ i j, g i j = .bl (p i j)) (hg' : ∀ i j, g' i j = .bl (p' i j)) (hm : behindInMarks op e2 = false := by first | exact nomark _ | rfl) (hm' : lastMarks [op, op'] [e2, e3] = false := by rfl) :
    EV X b δ M (.Compare e1 [op, op'] [e2, e3] pos) (.bl (p i j && p' j k)) := fun R mR σ H Q S kk kx => by
  refine we_of (pe_chain ho ho' pe_we pe_we pe_we hm') ?_
  refine h1 R mR σ H _ S (fun M1 d1 x H1 q1 S1 => ?_) .nx
  obtain ⟨rfl, rfl⟩ := q1
  refine h2 (fun G => R G ∧ Rep X.K G (.int i) x) (mR.and .rep) σ H1 _ S1 (fun M2 d2 y H2 q2 S2 => ?_) .nx
  obtain ⟨rfl, rfl⟩ := q2
  obtain ⟨G, S3, z1, z2, z3⟩ := id S2
  refine ⟨i, j, Rep.int_iff.mp z2.2, Rep.int_iff.mp z3, p i j, hg i j, ?_⟩
  cases hp : p i j with
  | false =>
    exact iteF (kk _ _ _ H2 ⟨rfl, by rw [hp] <;> rfl⟩ ⟨G, S3, z1, z2.1, Rep.bl_iff.mpr rfl⟩)
  | true =>
    refine iteT (h3 (fun G => R G ∧ Rep X.K G (.int j) y) (mR.and .rep) σ H2 _ (S2.imp fun G z => ⟨z.1, z.2.1.1, z.2.2⟩) (fun M4 d4 w H4 q4 S4 => ?_) .nx)
    obtain ⟨rfl, rfl⟩ := q4
    obtain ⟨G4, S5, w1, w2, w3⟩ := S4
    refine ⟨j, k, Rep.int_iff.mp w2.2, Rep.int_iff.mp w3, ?_⟩
    rw [hg']
    exact kk _ _ _ H4 ⟨rfl, by rw [hp] <;> rfl⟩ ⟨G4, S5, w1, w2.1, Rep.bl_iff.mpr rfl⟩
theorem ow_of {f : Value → Value → Sem Value} {r : R2} (hr : OpR X f r)
    (h : ∀ (R : Hp → Prop), Mono R → ∀ (x y : V) (H G : Hp) (Q : VK), SO X.K b M G H → R G → Rep X.K G d1 x → Rep X.K G d2 y → (∀ M' d v H', Φ M' d → SS X.K b M' (fun G => R G ∧ Rep X.K G d v) H' → Q v H') → r x y H Q) : OW X b f M d1 d2 Φ := fun R mR x y H Q S k => by
  obtain ⟨G, S, z1, z2, z3⟩ := S
  exact wo_of hr (h R mR x y H G Q S z1 z2 z3 k)
theorem ow_ii {f : Value → Value → Sem Value} {g : Int → Int → V} {i j : Int} (hr : OpR X f (rI0 g)) (hd : ∀ G, Rep X.K G d (g i j)) : OW X b f M (.int i) (.int j) (One M d) :=
  ow_of hr fun R mR x y H G Q S z r1 r2 k => ⟨i, j, Rep.int_iff.mp r1, Rep.int_iff.mp r2, k M d _ H ⟨rfl, rfl⟩ ⟨G, S, z, hd G⟩⟩
theorem ow_iiC {f : Value → Value → Sem Value} {Cn : Int → Int → Prop} {g : Int → Int → V} {i j : Int} (hr : OpR X f (rI Cn g)) (hc : Cn i j) (hd : ∀ G, Rep X.K G d (g i j)) : OW X b f M (.int i) (.int j) (One M d) :=
  ow_of hr fun R mR x y H G Q S z r1 r2 k => ⟨i, j, Rep.int_iff.mp r1, Rep.int_iff.mp r2, hc, k M d _ H ⟨rfl, rfl⟩ ⟨G, S, z, hd G⟩⟩
theorem o_add {i j : Int} : OW X b (binaryOp .Add) M (.int i) (.int j) (One M (.int (i + j))) := ow_ii op_add fun _ => Rep.int_iff.mpr rfl
theorem o_sub {i j : Int} : OW X b (binaryOp .Sub) M (.int i) (.int j) (One M (.int (i - j))) := ow_ii op_sub fun _ => Rep.int_iff.mpr rfl
theorem o_mul {i j : Int} (h : CMul i j) : OW X b (binaryOp .Mult) M (.int i) (.int j) (One M (.int (i * j))) := ow_iiC op_mul h fun _ => Rep.int_iff.mpr rfl
theorem o_div {i j : Int} (h : CDiv i j) : OW X b (binaryOp .FloorDiv) M (.int i) (.int j) (One M (.int (i / j))) := ow_iiC op_fdiv h fun _ => Rep.int_iff.mpr rfl
theorem o_mod {i j : Int} (h : 0 < j) : OW X b (binaryOp .Mod) M (.int i) (.int j) (One M (.int (i % j))) := ow_iiC op_mod h fun _ => Rep.int_iff.mpr rfl
theorem o_pow {i j : Int} (h : CPow i j) : OW X b (binaryOp .Pow) M (.int i) (.int j) (One M (.int (i ^ j.toNat))) := ow_iiC op_pow h fun _ => Rep.int_iff.mpr rfl
theorem o_lt {i j : Int} : OW X b (compareOp .Lt) M (.int i) (.int j) (One M (.bl (decide (i < j)))) := ow_ii op_lt fun _ => Rep.bl_iff.mpr rfl
theorem o_le {i j : Int} : OW X b (compareOp .LtE) M (.int i) (.int j) (One M (.bl (decide (i ≤ j)))) := ow_ii op_le fun _ => Rep.bl_iff.mpr rfl
theorem o_gt {i j : Int} : OW X b (compareOp .Gt) M (.int i) (.int j) (One M (.bl (decide (j < i)))) := ow_ii op_gt fun _ => Rep.bl_iff.mpr rfl
theorem o_ge {i j : Int} : OW X b (compareOp .GtE) M (.int i) (.int j) (One M (.bl (decide (j ≤ i)))) := ow_ii op_ge fun _ => Rep.bl_iff.mpr rfl
theorem ow_scal {x y v : V} {f : Value → Value → Sem Value} {r : R2} (hr : OpR X f r) (h1 : ∀ G v, Rep X.K G d1 v → v = x) (h2 : ∀ G v, Rep X.K G d2 v → v = y) (hq : ∀ (H : Hp) (Q : VK), Q v H → r x y H Q) (hd : ∀ G, Rep X.K G d v) : OW X b f M d1 d2 (One M d) :=
  ow_of hr fun R mR x' y' H G Q S z r1 r2 k => by
    rw [h1 G _ r1, h2 G _ r2]
    exact hq H Q (k M d v H ⟨rfl, rfl⟩ ⟨G, S, z, hd G⟩)
theorem decV_int {i j : Int} : decide (V.int i = V.int j) = decide (i = j) := by rw [dec_int]; exact Bool.beq_eq_decide_eq i j
theorem decV_str {i j : Str} : decide (V.str i = V.str j) = decide (i = j) := by
  by_cases h : i = j
  · subst h; simp
  · rw [decide_eq_false h, decide_eq_false]; intro e; exact h (V.str.inj e)
theorem decV_bl {i j : Bool} : decide (V.bl i = V.bl j) = decide (i = j) := by rw [dec_bl]; exact Bool.beq_eq_decide_eq i j
theorem o_eqI {i j : Int} : OW X b (compareOp .Eq) M (.int i) (.int j) (One M (.bl (decide (i = j)))) :=
  ow_scal op_eq (fun _ _ h => Rep.int_iff.mp h) (fun _ _ h => Rep.int_iff.mp h) (fun H Q q => ⟨rfl, by rw [decV_int]; exact q⟩) fun _ => Rep.bl_iff.mpr rfl
theorem o_neI {i j : Int} : OW X b (compareOp .NotEq) M (.int i) (.int j) (One M (.bl (!decide (i = j)))) :=
  ow_scal op_ne (fun _ _ h => Rep.int_iff.mp h) (fun _ _ h => Rep.int_iff.mp h) (fun H Q q => ⟨rfl, by rw [decV_int]; exact q⟩) fun _ => Rep.bl_iff.mpr rfl
theorem o_eqB {i j : Bool} : OW X b (compareOp .Eq) M (.bl i) (.bl j) (One M (.bl (decide (i = j)))) :=
  ow_scal op_eq (fun _ _ h => Rep.bl_iff.mp h) (fun _ _ h => Rep.bl_iff.mp h) (fun H Q q => ⟨rfl, by rw [decV_bl]; exact q⟩) fun _ => Rep.bl_iff.mpr rfl
theorem o_neB {i j : Bool} : OW X b (compareOp .NotEq) M (.bl i) (.bl j) (One M (.bl (!decide (i = j)))) :=
  ow_scal op_ne (fun _ _ h => Rep.bl_iff.mp h) (fun _ _ h => Rep.bl_iff.mp h) (fun H Q q => ⟨rfl, by rw [decV_bl]; exact q⟩) fun _ => Rep.bl_iff.mpr rfl
theorem o_eqS {i j : Str} : OW X b (compareOp .Eq) M (.str i) (.str j) (One M (.bl (decide (i = j)))) :=
  ow_scal op_eq (fun _ _ h => Rep.str_iff.mp h) (fun _ _ h => Rep.str_iff.mp h) (fun H Q q => ⟨rfl, by rw [decV_str]; exact q⟩) fun _ => Rep.bl_iff.mpr rfl
theorem o_neS {i j : Str} : OW X b (compareOp .NotEq) M (.str i) (.str j) (One M (.bl (!decide (i = j)))) :=
  ow_scal op_ne (fun _ _ h => Rep.str_iff.mp h) (fun _ _ h => Rep.str_iff.mp h) (fun H Q q => ⟨rfl, by rw [decV_str]; exact q⟩) fun _ => Rep.bl_iff.mpr rfl
/-- is None -/
def isNon : D → Bool
  | .non => true
  | .loc .non => true
  | _ => false
theorem rep_isNon {K : Fg} {G : Hp} {d : D} {v : V} (h : Rep K G d v) : decide (v = .non) = isNon d := by
  cases d with
  | non => rw [Rep.non_iff] at h; subst h; rfl
  | bl c => rw [Rep.bl_iff] at h; subst h; rfl
  | int c => rw [Rep.int_iff] at h; subst h; rfl
  | str c => rw [Rep.str_iff] at h; subst h; rfl
  | lst c => rw [Rep.lst_iff] at h; obtain ⟨a, vs, h, _⟩ := h; subst h; rfl
  | tup c => rw [Rep.tup_iff] at h; obtain ⟨a, vs, h, _⟩ := h; subst h; rfl
  | scr c => rw [Rep.scr_iff] at h; obtain ⟨a, h, _⟩ := h; subst h; rfl
  | loc c => rw [Rep.loc_iff] at h; subst h; cases v <;> rfl
theorem o_isN : OW X b (compareOp .Is) M d .non (One M (.bl (isNon d))) :=
  ow_of op_isN fun R mR x y H G Q S z r1 r2 k => ⟨Rep.non_iff.mp r2, by rw [rep_isNon r1]; exact k M _ _ H ⟨rfl, rfl⟩ ⟨G, S, z, Rep.bl_iff.mpr rfl⟩⟩
theorem o_notN : OW X b (compareOp .IsNot) M d .non (One M (.bl (!isNon d))) :=
  ow_of op_notN fun R mR x y H G Q S z r1 r2 k => ⟨Rep.non_iff.mp r2, by rw [rep_isNon r1]; exact k M _ _ H ⟨rfl, rfl⟩ ⟨G, S, z, Rep.bl_iff.mpr rfl⟩⟩

/-! ### displays, arguments -/
theorem ews_nil {Φ : Mp → List D → Prop} (q : Φ M []) : EWs X b δ M [] Φ Ψ := fun R mR σ H Q S k kx => wa_of pa_nil (k M [] [] H q (S.imp fun G z => ⟨z.1, z.2, .nil⟩))
theorem ews_cons {Φ : Mp → List D → Prop} (h : EW X b δ M e (fun M1 d => EWs X b δ M1 es (fun M2 ds => Φ M2 (d :: ds)) Ψ) Ψ) (hs : starEach (e :: es) X.env = (false, eval e X.env) :: starEach es X.env := by rfl) : EWs X b δ M (e :: es) Φ Ψ := fun R mR σ H Q S k kx => by
  refine wa_of (pa_cons pe_we pa_wa hs) ?_
  refine h R mR σ H _ S (fun M1 d x H1 h1 S1 => ?_) kx
  exact h1 (fun G => R G ∧ Rep X.K G d x) (mR.and .rep) σ H1 _ S1 (fun M2 ds xs H2 p S2 => k M2 _ _ H2 p (S2.imp fun G z => ⟨z.1, z.2.1.1, .cons z.2.1.2 z.2.2⟩)) kx.and
theorem evs_nil : EVs X b δ M [] [] := ews_nil ⟨rfl, rfl⟩
theorem evs_cons {ds : List D} (h : EV X b δ M e d) (t : EVs X b δ M es ds) (hs : starEach (e :: es) X.env = (false, eval e X.env) :: starEach es X.env := by rfl) : EVs X b δ M (e :: es) (d :: ds) :=
  ews_cons (h.to (t.imp fun M' d' ⟨q1, q2⟩ => ⟨q1, by rw [q2]⟩)) hs
theorem ew_tup {x1 : Nat} (h : EWs X b δ M es (fun M1 ds => ds.length ≤ 1000 ∧ Φ M1 (.tup ds)) Ψ) : EW X b δ M (.Tuple es x1 pos) Φ Ψ := fun R mR σ H Q S k kx => by
  refine we_of (pe_tup pa_wa) ?_
  refine h R mR σ H _ S (fun M1 ds xs H1 p S1 => ?_) kx
  obtain ⟨G, S1, z1, z2, z3⟩ := S1
  refine ⟨by rw [← z3.length]; exact Nat.le_trans p.1 (by decide), fun a ha => ?_⟩
  obtain ⟨S2, sg⟩ := S1.frz ha (.tup xs)
  exact k M1 _ _ _ p.2 ⟨_, S2, Mono.env _ _ sg z1, mR _ _ sg z2, Rep.tup_iff.mpr ⟨a, xs, rfl, upd_same, z3.mono sg⟩⟩
theorem ev_tup {x1 : Nat} {ds : List D} (h : EVs X b δ M es ds) (hl : ds.length ≤ 1000 := by exact Nat.le_of_ble_eq_true rfl) : EV X b δ M (.Tuple es x1 pos) (.tup ds) := ew_tup (h.to ⟨hl, rfl, rfl⟩)
/-- a new list, frozen -/
theorem ew_lst (h : EWs X b δ M es (fun M1 ds => ds.length ≤ 1000 ∧ Φ M1 (.lst ds)) Ψ) : EW X b δ M (.List es pos) Φ Ψ := fun R mR σ H Q S k kx => by
  refine we_of (pe_lst pa_wa) ?_
  refine h R mR σ H _ S (fun M1 ds xs H1 p S1 => ?_) kx
  obtain ⟨G, S1, z1, z2, z3⟩ := S1
  refine ⟨by rw [← z3.length]; exact Nat.le_trans p.1 (by decide), fun a ha => ?_⟩
  obtain ⟨S2, sg⟩ := S1.frz ha (.lst xs)
  exact k M1 _ _ _ p.2 ⟨_, S2, Mono.env _ _ sg z1, mR _ _ sg z2, Rep.lst_iff.mpr ⟨a, xs, rfl, upd_same, z3.mono sg⟩⟩
theorem ev_lst {ds : List D} (h : EVs X b δ M es ds) (hl : ds.length ≤ 1000 := by exact Nat.le_of_ble_eq_true rfl) : EV X b δ M (.List es pos) (.lst ds) := ew_lst (h.to ⟨hl, rfl, rfl⟩)
/-- a new list that may change -/
theorem ew_lstN (h : EWs X b δ M es (fun M1 ds => ds.length ≤ 1000 ∧ ∀ p, M1 p = none → Nw b p → Φ (um M1 p (.lst ds)) (.loc (.ref p))) Ψ) : EW X b δ M (.List es pos) Φ Ψ := fun R mR σ H Q S k kx => by
  refine we_of (pe_lst pa_wa) ?_
  refine h R mR σ H _ S (fun M1 ds xs H1 p S1 => ?_) kx
  obtain ⟨G, S1, z1, z2, z3⟩ := S1
  refine ⟨by rw [← z3.length]; exact Nat.le_trans p.1 (by decide), fun a ha => ?_⟩
  obtain ⟨n1, n2, n3⟩ := S1.new ha
  exact k _ _ _ _ (p.2 a n1 n2) ⟨G, S1.cell (c := .lst ds) ha ⟨xs, rfl, z3⟩, z1, z2, Rep.loc_iff.mpr rfl⟩
theorem ew_dictI (h : ∀ p, M p = none → Nw b p → Φ (um M p (.dI [])) (.loc (.ref p))) : EW X b δ M (.Dict [] [] pos) Φ Ψ := fun R mR σ H Q S k kx => by
  refine we_of pe_dnewK fun a ha => ?_
  obtain ⟨G, S1, z1, z2⟩ := S
  obtain ⟨n1, n2, n3⟩ := S1.new ha
  exact k _ _ _ _ (h a n1 n2) ⟨G, S1.cell (c := .dI []) ha ⟨[], rfl, .nil⟩, z1, z2, Rep.loc_iff.mpr rfl⟩
theorem ew_dictT (h : ∀ p, M p = none → Nw b p → Φ (um M p (.dT [])) (.loc (.ref p))) : EW X b δ M (.Dict [] [] pos) Φ Ψ := fun R mR σ H Q S k kx => by
  refine we_of pe_dnewT fun a ha => ?_
  obtain ⟨G, S1, z1, z2⟩ := S
  obtain ⟨n1, n2, n3⟩ := S1.new ha
  exact k _ _ _ _ (h a n1 n2) ⟨G, S1.cell (c := .dT []) ha ⟨[], rfl, .nil⟩, z1, z2, Rep.loc_iff.mpr rfl⟩

/-! ### subscripts -/
theorem ew_ix (h : EW X b δ M e1 (fun M1 d1 => EW X b δ M1 e2 (fun M2 d2 => XW X b M2 d1 d2 Φ) Ψ) Ψ) (hs : PlainIx e2 := by exact fun _ _ => rfl) : EW X b δ M (.Subscript e1 e2 pos) Φ Ψ := fun R mR σ H Q S k kx => by
  refine we_of (pe_ix (wx_op (X := X)) pe_we pe_we hs) ?_
  refine h R mR σ H _ S (fun M1 d1 x H1 h1 S1 => ?_) kx
  refine h1 (fun G => R G ∧ Rep X.K G d1 x) (mR.and .rep) σ H1 _ S1 (fun M2 d2 y H2 h2 S2 => ?_) kx.and
  exact h2 (RE X.K σ δ R) (Mono.env.and mR) x y H2 Q (S2.imp fun G z => ⟨⟨z.1, z.2.1.1⟩, z.2.1.2, z.2.2⟩) fun M3 d v H3 p S3 => k M3 d v H3 p (S3.imp fun G z => ⟨z.1.1, z.1.2, z.2⟩)
theorem ev_ix (h1 : EV X b δ M e1 d1) (h2 : EV X b δ M e2 d2) (ho : XW X b M d1 d2 (One M d)) (hs : PlainIx e2 := by exact fun _ _ => rfl) : EV X b δ M (.Subscript e1 e2 pos) d := ew_ix (h1.to (h2.to ho)) hs
theorem xw_of {r : R2} (hr : IxR X r)
    (h : ∀ (R : Hp → Prop), Mono R → ∀ (x y : V) (H G : Hp) (Q : VK), SO X.K b M G H → R G → Rep X.K G d1 x → Rep X.K G d2 y → (∀ M' d v H', Φ M' d → SS X.K b M' (fun G => R G ∧ Rep X.K G d v) H' → Q v H') → r x y H Q) : XW X b M d1 d2 Φ := fun R mR x y H Q S k => by
  obtain ⟨G, S, z1, z2, z3⟩ := S
  exact wx_of hr (h R mR x y H G Q S z1 z2 z3 k)
theorem ixN_reps {K : Fg} {G : Hp} {xs : List D} {vs : List V} {i : Int} (r : Reps K G xs vs) (h : atI xs i = some d) : ∃ v, atI vs i = some v ∧ Rep K G d v := by
  unfold atI at h ⊢
  rw [r.length] at h
  cases e : ixN vs.length i with
  | none => rw [e] at h; cases h
  | some j =>
    rw [e] at h
    exact r.get (i := j) h
theorem x_lst {xs : List D} {i : Int} (h : atI xs i = some d) : XW X b M (.lst xs) (.int i) (One M d) :=
  xw_of ix_list fun R mR x y H G Q S z r1 r2 k => by
    obtain ⟨a, vs, e, ha, rs⟩ := Rep.lst_iff.mp r1
    obtain ⟨v, hv, rv⟩ := ixN_reps rs h
    exact ⟨a, vs, i, v, e, Rep.int_iff.mp r2, SqL.of (S.gh _ _ ha), hv, k M d v H ⟨rfl, rfl⟩ ⟨G, S, z, rv⟩⟩
theorem x_tup {xs : List D} {i : Int} (h : atI xs i = some d) : XW X b M (.tup xs) (.int i) (One M d) :=
  xw_of ix_tup fun R mR x y H G Q S z r1 r2 k => by
    obtain ⟨a, vs, e, ha, rs⟩ := Rep.tup_iff.mp r1
    obtain ⟨v, hv, rv⟩ := ixN_reps rs h
    exact ⟨a, vs, i, v, e, Rep.int_iff.mp r2, SqT.of (S.gh _ _ ha), hv, k M d v H ⟨rfl, rfl⟩ ⟨G, S, z, rv⟩⟩
theorem x_scr {ns : List Int} {i n : Int} (h : atI ns i = some n) : XW X b M (.scr ns) (.int i) (One M (.int n)) :=
  xw_of ix_list fun R mR x y H G Q S z r1 r2 k => by
    obtain ⟨a, e, ha⟩ := Rep.scr_iff.mp r1
    refine ⟨a, _, i, .int n, e, Rep.int_iff.mp r2, S.gh.seq ha, ?_, k M _ _ H ⟨rfl, rfl⟩ ⟨G, S, z, Rep.int_iff.mpr rfl⟩⟩
    unfold atI at h ⊢
    rw [List.length_map]
    cases e : ixN ns.length i with
    | none => rw [e] at h; cases h
    | some j =>
      rw [e] at h
      show (ns.map V.int)[j]? = some (.int n)
      rw [List.getElem?_map, show ns[j]? = some n from h]; rfl
/-- a list that is a cell -/
theorem x_cell {a : Addr} {xs : List D} {i : Int} (hm : M a = some (.lst xs)) (h : atI xs i = some d) : XW X b M (.loc (.ref a)) (.int i) (One M d) :=
  xw_of ix_list fun R mR x y H G Q S z r1 r2 k => by
    obtain ⟨_, o, ho, vs, e, rs⟩ := S.cel a _ hm
    subst e
    obtain ⟨v, hv, rv⟩ := ixN_reps rs h
    exact ⟨a, vs, i, v, Rep.loc_iff.mp r1, Rep.int_iff.mp r2, SqL.of ho, hv, k M d v H ⟨rfl, rfl⟩ ⟨G, S, z, rv⟩⟩

/-! ### tests -/
theorem tw_val {Φ : Mp → Bool → Prop} (h : EW X b δ M e (fun M1 d => ∃ c, d = .bl c ∧ Φ M1 c) Ψ) (he : ∀ whole, isTrue e X.env whole = (do let v ← whole; standAt e.pos; holding [v] (truthy v)) := by exact fun _ => rfl) : TW X b δ M e Φ Ψ := fun R mR σ H Q S k kx => by
  refine wt_of (pt_val pe_we he) ?_
  refine h R mR σ H _ S (fun M1 d v H1 p S1 => ?_) kx
  obtain ⟨c, rfl, p⟩ := p
  obtain ⟨G, S1, z1, z2, z3⟩ := S1
  exact ⟨c, Rep.bl_iff.mp z3, k M1 c H1 p ⟨G, S1, z1, z2⟩⟩
theorem tv_val {c : Bool} (h : EV X b δ M e (.bl c)) (he : ∀ whole, isTrue e X.env whole = (do let v ← whole; standAt e.pos; holding [v] (truthy v)) := by exact fun _ => rfl) : TV X b δ M e c := tw_val (h.to ⟨c, rfl, rfl, rfl⟩) he
theorem tw_not {Φ : Mp → Bool → Prop} (h : TW X b δ M e (fun M1 c => Φ M1 (!c)) Ψ) : TW X b δ M (.UnaryOp .Not e pos) Φ Ψ := fun R mR σ H Q S k kx => by
  refine wt_of (pt_not pt_wt) ?_
  exact h R mR σ H _ S (fun M1 c H1 p S1 => k M1 _ H1 p S1) kx
theorem tv_not {c : Bool} (h : TV X b δ M e c) : TV X b δ M (.UnaryOp .Not e pos) (!c) := tw_not (h.to ⟨rfl, rfl⟩)
theorem tw_pw {Φ : Mp → Bool → Prop} (h : TWW X b δ M e Φ Ψ) : TW X b δ M e Φ Ψ := fun R mR σ H Q S k kx => by
  refine wt_of (pw_ww).pt ?_
  exact h R mR σ H _ S k kx
theorem tww_and1 {Φ : Mp → Bool → Prop} (h : TW X b δ M e Φ Ψ) : TWW X b δ M (.BoolOp .And [e] pos) Φ Ψ := fun R mR σ H Q S k kx => ww_of (pw_and1 pt_wt) (h R mR σ H _ S k kx)
theorem tww_or1 {Φ : Mp → Bool → Prop} (h : TW X b δ M e Φ Ψ) : TWW X b δ M (.BoolOp .Or [e] pos) Φ Ψ := fun R mR σ H Q S k kx => ww_of (pw_or1 pt_wt) (h R mR σ H _ S k kx)
theorem tww_and {Φ : Mp → Bool → Prop} (h : TW X b δ M e1 (fun M1 c => (c = true → TWW X b δ M1 (.BoolOp .And (e2 :: es) pos) Φ Ψ) ∧ (c = false → Φ M1 false)) Ψ) : TWW X b δ M (.BoolOp .And (e1 :: e2 :: es) pos) Φ Ψ := fun R mR σ H Q S k kx => by
  refine ww_of (pw_and pt_wt pw_ww) ?_
  refine h R mR σ H _ S (fun M1 c H1 p S1 => ?_) kx
  cases c with
  | true => exact iteT (p.1 rfl R mR σ H1 _ S1 k kx)
  | false => exact iteF (k M1 false H1 (p.2 rfl) S1)
theorem tww_or {Φ : Mp → Bool → Prop} (h : TW X b δ M e1 (fun M1 c => (c = false → TWW X b δ M1 (.BoolOp .Or (e2 :: es) pos) Φ Ψ) ∧ (c = true → Φ M1 true)) Ψ) : TWW X b δ M (.BoolOp .Or (e1 :: e2 :: es) pos) Φ Ψ := fun R mR σ H Q S k kx => by
  refine ww_of (pw_or pt_wt pw_ww) ?_
  refine h R mR σ H _ S (fun M1 c H1 p S1 => ?_) kx
  cases c with
  | true => exact iteT (k M1 true H1 (p.2 rfl) S1)
  | false => exact iteF (p.1 rfl R mR σ H1 _ S1 k kx)
theorem tvw_and1 {c : Bool} (h : TV X b δ M e c) : TVW X b δ M (.BoolOp .And [e] pos) c := tww_and1 h
theorem tvw_or1 {c : Bool} (h : TV X b δ M e c) : TVW X b δ M (.BoolOp .Or [e] pos) c := tww_or1 h
theorem tvw_and {c1 c2 : Bool} (h : TV X b δ M e1 c1) (h2 : c1 = true → TVW X b δ M (.BoolOp .And (e2 :: es) pos) c2) : TVW X b δ M (.BoolOp .And (e1 :: e2 :: es) pos) (c1 && c2) :=
  tww_and (h.to ⟨fun e => by subst e; exact h2 rfl, fun e => by subst e; exact ⟨rfl, rfl⟩⟩)
theorem tvw_or {c1 c2 : Bool} (h : TV X b δ M e1 c1) (h2 : c1 = false → TVW X b δ M (.BoolOp .Or (e2 :: es) pos) c2) : TVW X b δ M (.BoolOp .Or (e1 :: e2 :: es) pos) (c1 || c2) :=
  tww_or (h.to ⟨fun e => by subst e; exact h2 rfl, fun e => by subst e; exact ⟨rfl, rfl⟩⟩)
theorem tv_pw {c : Bool} (h : TVW X b δ M e c) : TV X b δ M e c := tw_pw h
/-- as values -/
theorem ew_one {op : BoolOp} (h : EW X b δ M e Φ Ψ) : EW X b δ M (.BoolOp op [e] pos) Φ Ψ := fun R mR σ H Q S k kx => we_of (pe_one pe_we) (h R mR σ H _ S k kx)
theorem ew_and (h : EW X b δ M e1 (fun M1 d => ∃ c, d = .bl c ∧ (c = true → EW X b δ M1 (.BoolOp .And (e2 :: es) pos) Φ Ψ) ∧ (c = false → Φ M1 (.bl false))) Ψ) : EW X b δ M (.BoolOp .And (e1 :: e2 :: es) pos) Φ Ψ := fun R mR σ H Q S k kx => by
  refine we_of (pe_and pe_we pe_we) ?_
  refine h R mR σ H _ S (fun M1 d v H1 p S1 => ?_) kx
  obtain ⟨c, rfl, p1, p2⟩ := p
  obtain ⟨G, S1, z1, z2, z3⟩ := S1
  refine ⟨c, Rep.bl_iff.mp z3, ?_⟩
  cases c with
  | true => exact iteT (p1 rfl R mR σ H1 _ ⟨G, S1, z1, z2⟩ k kx)
  | false => exact iteF (k M1 _ _ H1 (p2 rfl) ⟨G, S1, z1, z2, Rep.bl_iff.mpr rfl⟩)
theorem ew_or (h : EW X b δ M e1 (fun M1 d => ∃ c, d = .bl c ∧ (c = false → EW X b δ M1 (.BoolOp .Or (e2 :: es) pos) Φ Ψ) ∧ (c = true → Φ M1 (.bl true))) Ψ) : EW X b δ M (.BoolOp .Or (e1 :: e2 :: es) pos) Φ Ψ := fun R mR σ H Q S k kx => by
  refine we_of (pe_or pe_we pe_we) ?_
  refine h R mR σ H _ S (fun M1 d v H1 p S1 => ?_) kx
  obtain ⟨c, rfl, p1, p2⟩ := p
  obtain ⟨G, S1, z1, z2, z3⟩ := S1
  refine ⟨c, Rep.bl_iff.mp z3, ?_⟩
  cases c with
  | true => exact iteT (k M1 _ _ H1 (p2 rfl) ⟨G, S1, z1, z2, Rep.bl_iff.mpr rfl⟩)
  | false => exact iteF (p1 rfl R mR σ H1 _ ⟨G, S1, z1, z2⟩ k kx)
theorem ev_and {c1 : Bool} {c2 : Bool} (h : EV X b δ M e1 (.bl c1)) (h2 : c1 = true → EV X b δ M (.BoolOp .And (e2 :: es) pos) (.bl c2)) : EV X b δ M (.BoolOp .And (e1 :: e2 :: es) pos) (.bl (c1 && c2)) :=
  ew_and (h.to ⟨c1, rfl, fun e => by subst e; exact h2 rfl, fun e => by subst e; exact ⟨rfl, rfl⟩⟩)
theorem ev_or {c1 : Bool} {c2 : Bool} (h : EV X b δ M e1 (.bl c1)) (h2 : c1 = false → EV X b δ M (.BoolOp .Or (e2 :: es) pos) (.bl c2)) : EV X b δ M (.BoolOp .Or (e1 :: e2 :: es) pos) (.bl (c1 || c2)) :=
  ew_or (h.to ⟨c1, rfl, fun e => by subst e; exact h2 rfl, fun e => by subst e; exact ⟨rfl, rfl⟩⟩)
theorem ev_one {op : BoolOp} (h : EV X b δ M e d) : EV X b δ M (.BoolOp op [e] pos) d := ew_one h
theorem ew_not (h : EW X b δ M e (fun M1 d => ∃ c, d = .bl c ∧ Φ M1 (.bl (!c))) Ψ) : EW X b δ M (.UnaryOp .Not e pos) Φ Ψ := fun R mR σ H Q S k kx => by
  refine we_of (pe_not pe_we) ?_
  refine h R mR σ H _ S (fun M1 d v H1 p S1 => ?_) kx
  obtain ⟨c, rfl, p⟩ := p
  obtain ⟨G, S1, z1, z2, z3⟩ := S1
  exact ⟨c, Rep.bl_iff.mp z3, k M1 _ _ H1 p ⟨G, S1, z1, z2, Rep.bl_iff.mpr rfl⟩⟩
theorem ev_not {c : Bool} (h : EV X b δ M e (.bl c)) : EV X b δ M (.UnaryOp .Not e pos) (.bl (!c)) := ew_not (h.to ⟨c, rfl, rfl, rfl⟩)
theorem ew_if {c : Expr} (h : TW X b δ M c (fun M1 k => (k = true → EW X b δ M1 e1 Φ Ψ) ∧ (k = false → EW X b δ M1 e2 Φ Ψ)) Ψ) : EW X b δ M (.IfExp c e1 e2 pos) Φ Ψ := fun R mR σ H Q S k kx => by
  refine we_of (pe_ifExp pt_wt pe_we pe_we) ?_
  refine h R mR σ H _ S (fun M1 c H1 p S1 => ?_) kx
  cases c with
  | true => exact iteT (p.1 rfl R mR σ H1 _ S1 k kx)
  | false => exact iteF (p.2 rfl R mR σ H1 _ S1 k kx)
theorem ev_if {c : Expr} {k : Bool} (h : TV X b δ M c k) (h1 : k = true → EV X b δ M e1 d) (h2 : k = false → EV X b δ M e2 d) : EV X b δ M (.IfExp c e1 e2 pos) d := ew_if (h.to ⟨h1, h2⟩)
end
end D4
end

section
set_option maxRecDepth 100000
set_option maxHeartbeats 4000000
/-! D4c: targets, statements, what is walked, loops. -/
namespace D4
open PySem L2

def WG (X : Cx) (tg : Expr) : TG := fun v σ H Q => ∀ (pins : List (Addr × Obj)) (s : Shared) (u : Value), Inv X pins σ H s → RelV v u → wpAny (model X.prog X.w) X.A (assign tg X.env u) (fun _ s' => ∃ σ' H', Inv X pins σ' H' s' ∧ Q σ' H') X.xe s
theorem pg_wg {X : Cx} {tg : Expr} : PG X tg (WG X tg) := ⟨fun pins s σ H v u Q I r h => h pins s u I r⟩
theorem wg_of {X : Cx} {tg : Expr} {t : TG} {v : V} {σ : L2.St} {H : Hp} {Q : L2.St → Hp → Prop} (h : PG X tg t) (q : t v σ H Q) : WG X tg v σ H Q := fun pins s u I r => h.run pins s σ H v u Q I r q
def WGs (X : Cx) (ts : List Expr) : TGs := fun vs σ H Q => ∀ (pins : List (Addr × Obj)) (s : Shared) (us : List Value), Inv X pins σ H s → Vals vs us → wpAny (model X.prog X.w) X.A (assignInOrder ((assignEach ts X.env).map (·.2)) us) (fun _ s' => ∃ σ' H', Inv X pins σ' H' s' ∧ Q σ' H') X.xe s
theorem pgs_wgs {X : Cx} {ts : List Expr} : PGs X ts (WGs X ts) := ⟨fun pins s σ H v u Q I r h => h pins s u I r⟩
theorem wgs_of {X : Cx} {ts : List Expr} {t : TGs} {v : List V} {σ : L2.St} {H : Hp} {Q : L2.St → Hp → Prop} (h : PGs X ts t) (q : t v σ H Q) : WGs X ts v σ H Q := fun pins s u I r => h.run pins s σ H v u Q I r q
def GW (X : Cx) (b : Bs) (δ : Od) (M : Mp) (tg : Expr) (d : D) (Φ : Mp → Od → Prop) : Prop :=
  ∀ (R : Hp → Prop), Mono R → ∀ (σ : L2.St) (H : Hp) (v : V) (Q : L2.St → Hp → Prop), SS X.K b M (RV X.K σ δ R d v) H → (∀ M' δ' σ' H', Φ M' δ' → SS X.K b M' (RE X.K σ' δ' R) H' → Q σ' H') → WG X tg v σ H Q
def GWs (X : Cx) (b : Bs) (δ : Od) (M : Mp) (ts : List Expr) (ds : List D) (Φ : Mp → Od → Prop) : Prop :=
  ∀ (R : Hp → Prop), Mono R → ∀ (σ : L2.St) (H : Hp) (vs : List V) (Q : L2.St → Hp → Prop), SS X.K b M (RVs X.K σ δ R ds vs) H → (∀ M' δ' σ' H', Φ M' δ' → SS X.K b M' (RE X.K σ' δ' R) H' → Q σ' H') → WGs X ts vs σ H Q

/-- what is wanted behind a statement -/
structure DE where
  nx : Mp → Od → Prop
  rt : Mp → D → Prop
  bk : Mp → Od → Prop := fun _ _ => False
  ct : Mp → Od → Prop := fun _ _ => False
  xc : Value → Mp → Od → Prop := fun _ _ _ => False
def concN (K : Fg) (b : Bs) (R : Hp → Prop) (Φ : Mp → Od → Prop) : L2.St → Hp → Prop := fun σ H => ∃ M δ, Φ M δ ∧ SS K b M (RE K σ δ R) H
def concR (K : Fg) (b : Bs) (Φ : Mp → D → Prop) : VK := fun v H => ∃ M d, Φ M d ∧ SS K b M (fun G => Rep K G d v) H
def conc (K : Fg) (b : Bs) (R : Hp → Prop) (E : DE) : Ends := ⟨concN K b R E.nx, concR K b E.rt, concN K b R E.bk, concN K b R E.ct⟩
def XcK (X : Cx) (b : Bs) (R : Hp → Prop) (xc : Value → Mp → Od → Prop) : Prop := ∀ cls M' δ' σ' H', xc cls M' δ' → SS X.K b M' (RE X.K σ' δ' R) H' → WXc X cls none σ' H'
def SW (X : Cx) (b : Bs) (δ : Od) (M : Mp) (st : Stmt) (E : DE) : Prop := ∀ (R : Hp → Prop), Mono R → ∀ (σ : L2.St) (H : Hp), SS X.K b M (RE X.K σ δ R) H → XcK X b R E.xc → WS X st (conc X.K b R E) σ H
def SWs (X : Cx) (b : Bs) (δ : Od) (M : Mp) (sts : List Stmt) (E : DE) : Prop := ∀ (R : Hp → Prop), Mono R → ∀ (σ : L2.St) (H : Hp), SS X.K b M (RE X.K σ δ R) H → XcK X b R E.xc → WSs X sts (conc X.K b R E) σ H

section
variable {X : Cx} {b : Bs} {δ : Od} {M : Mp} {e e1 e2 tg : Expr} {es ts : List Expr} {st : Stmt} {sts body orelse : List Stmt} {E E' : DE} {d : D} {pos : Pos} {R : Hp → Prop}
theorem SP.mono {pins : List (Addr × Obj)} {D D' : Ends} {f : Flow} {s : Shared} (h : SP X pins D f s) (h1 : ∀ σ H, D.nx σ H → D'.nx σ H) (h2 : ∀ v H, D.rt v H → D'.rt v H) (h3 : ∀ σ H, D.bk σ H → D'.bk σ H) (h4 : ∀ σ H, D.ct σ H → D'.ct σ H) : SP X pins D' f s := by
  cases f with
  | next => obtain ⟨σ, H, I, q⟩ := h; exact ⟨σ, H, I, h1 σ H q⟩
  | brk => obtain ⟨σ, H, I, q⟩ := h; exact ⟨σ, H, I, h3 σ H q⟩
  | cont => obtain ⟨σ, H, I, q⟩ := h; exact ⟨σ, H, I, h4 σ H q⟩
  | ret u => obtain ⟨v, σ, H, I, r, q⟩ := h; exact ⟨v, σ, H, I, r, h2 v H q⟩
theorem WS.mono {D D' : Ends} {σ : L2.St} {H : Hp} (h : WS X st D σ H) (h1 : ∀ σ H, D.nx σ H → D'.nx σ H) (h2 : ∀ v H, D.rt v H → D'.rt v H) (h3 : ∀ σ H, D.bk σ H → D'.bk σ H) (h4 : ∀ σ H, D.ct σ H → D'.ct σ H) : WS X st D' σ H :=
  fun pins s I => thn (h pins s I) fun f s' q => SP.mono q h1 h2 h3 h4
theorem WSs.mono {D D' : Ends} {σ : L2.St} {H : Hp} (h : WSs X sts D σ H) (h1 : ∀ σ H, D.nx σ H → D'.nx σ H) (h2 : ∀ v H, D.rt v H → D'.rt v H) (h3 : ∀ σ H, D.bk σ H → D'.bk σ H) (h4 : ∀ σ H, D.ct σ H → D'.ct σ H) : WSs X sts D' σ H :=
  fun pins s I => thn (h pins s I) fun f s' q => SP.mono q h1 h2 h3 h4
theorem concN.imp {K : Fg} {Φ Φ' : Mp → Od → Prop} (f : ∀ M δ, Φ M δ → Φ' M δ) {σ : L2.St} {H : Hp} (h : concN K b R Φ σ H) : concN K b R Φ' σ H := let ⟨M, δ, p, S⟩ := h; ⟨M, δ, f _ _ p, S⟩
theorem concN.weak {K : Fg} {R' : Hp → Prop} {Φ : Mp → Od → Prop} (f : ∀ G, R G → R' G) {σ : L2.St} {H : Hp} (h : concN K b R Φ σ H) : concN K b R' Φ σ H := let ⟨M, δ, p, S⟩ := h; ⟨M, δ, p, S.imp fun G z => ⟨z.1, f G z.2⟩⟩
theorem XcK.up {R' : Hp → Prop} {xc : Value → Mp → Od → Prop} (k : XcK X b R xc) (f : ∀ G, R' G → R G) : XcK X b R' xc := fun cls M' δ' σ' H' p S => k cls M' δ' σ' H' p (S.imp fun G z => ⟨z.1, f G z.2⟩)
theorem XcK.kx {xc : Value → Mp → Od → Prop} {σ : L2.St} (k : XcK X b R xc) : KX X b δ R σ (fun cls M' => xc cls M' δ) := fun cls M' H' p S => k cls M' δ σ H' p S
theorem SWs.imp (h : SWs X b δ M sts E) (h1 : ∀ M δ, E.nx M δ → E'.nx M δ) (h2 : ∀ M d, E.rt M d → E'.rt M d) (h3 : ∀ M δ, E.bk M δ → E'.bk M δ) (h4 : ∀ M δ, E.ct M δ → E'.ct M δ) (h5 : ∀ c M δ, E.xc c M δ → E'.xc c M δ) : SWs X b δ M sts E' := fun R mR σ H S kx =>
  (h R mR σ H S fun cls M' δ' σ' H' p => kx cls M' δ' σ' H' (h5 _ _ _ p)).mono (fun _ _ => concN.imp h1) (fun v H ⟨M, d, p, S⟩ => ⟨M, d, h2 _ _ p, S⟩) (fun _ _ => concN.imp h3) (fun _ _ => concN.imp h4)

/-! ### targets -/
theorem gw_name {Φ : Mp → Od → Prop} (i : Nat) {x : Str} (h : Φ M (δ.set i (some d))) (hN : X.N.Nodup) (hi : X.N[i]? = some x := by rfl) (hx : Loc X.env.scope x := by first | exact Or.inl rfl | exact Or.inr rfl)
    (hf : X.fn x = true ∨ X.env.scope.names.lookup x = some .local := by first | exact Or.inl rfl | exact Or.inr rfl) : GW X b δ M (.Name x pos) d Φ := fun R mR σ H v Q S k => by
  refine wg_of (pg_name (i := i) hN hi hx hf) ?_
  exact k M _ _ H h (S.imp fun G z => ⟨z.1.set i z.2.2, z.2.1⟩)
theorem gws_nil {Φ : Mp → Od → Prop} (h : Φ M δ) : GWs X b δ M [] [] Φ := fun R mR σ H vs Q S k => by
  refine wgs_of pgs_nil ?_
  obtain ⟨G, S, z1, z2, z3⟩ := S
  exact ⟨z3.nil_inv, k M δ σ H h ⟨G, S, z1, z2⟩⟩
theorem gws_cons {Φ : Mp → Od → Prop} {ds : List D} (h : GW X b δ M e d fun M1 δ1 => GWs X b δ1 M1 es ds Φ) (hs : (assignEach (e :: es) X.env).map (·.2) = assign e X.env :: (assignEach es X.env).map (·.2) := by rfl) : GWs X b δ M (e :: es) (d :: ds) Φ := fun R mR σ H vs Q S k => by
  refine wgs_of (pgs_cons pg_wg pgs_wgs hs) ?_
  obtain ⟨G, S, z1, z2, z3⟩ := S
  obtain ⟨v, r, e1, r1, r2⟩ := z3.cons_inv
  refine ⟨v, r, e1, ?_⟩
  refine h (fun G => R G ∧ Reps X.K G ds r) (mR.and .reps) σ H v _ ⟨G, S, z1, ⟨z2, r2⟩, r1⟩ fun M1 δ1 σ1 H1 p S1 => ?_
  exact p R mR σ1 H1 r Q (S1.imp fun G z => ⟨z.1, z.2.1, z.2.2⟩) k
theorem gw_tup {Φ : Mp → Od → Prop} {ds : List D} {k : Nat} (hc : X.calm = true) (h : GWs X b δ M ts ds Φ) (hn : (assignEach ts X.env).length = ds.length := by rfl) (hst : (assignEach ts X.env).findIdx? (·.1) = none := by rfl) : GW X b δ M (.Tuple ts k pos) (.tup ds) Φ := fun R mR σ H v Q S kk => by
  refine wg_of (pg_tup (n := ds.length) hc pgs_wgs hn hst) ?_
  obtain ⟨G, S, z1, z2, z3⟩ := S
  obtain ⟨a, vs, e, ha, rs⟩ := Rep.tup_iff.mp z3
  exact ⟨a, vs, e, SqT.of (S.gh _ _ ha), rs.length.symm, h R mR σ H vs Q ⟨G, S, z1, z2, rs⟩ kk⟩
theorem gw_lstT {Φ : Mp → Od → Prop} {ds : List D} {k : Nat} (hc : X.calm = true) (h : GWs X b δ M ts ds Φ) (hn : (assignEach ts X.env).length = ds.length := by rfl) (hst : (assignEach ts X.env).findIdx? (·.1) = none := by rfl) : GW X b δ M (.Tuple ts k pos) (.lst ds) Φ := fun R mR σ H v Q S kk => by
  refine wg_of (pg_lst (n := ds.length) hc pgs_wgs hn hst) ?_
  obtain ⟨G, S, z1, z2, z3⟩ := S
  obtain ⟨a, vs, e, ha, rs⟩ := Rep.lst_iff.mp z3
  exact ⟨a, vs, e, SqL.of (S.gh _ _ ha), rs.length.symm, h R mR σ H vs Q ⟨G, S, z1, z2, rs⟩ kk⟩

/-! ### statements -/
theorem sws_nil (h : E.nx M δ) : SWs X b δ M [] E := fun R mR σ H S kx => wss_of pss_nil ⟨M, δ, h, S⟩
theorem sws_cons (h : SW X b δ M st { E with nx := fun M' δ' => SWs X b δ' M' sts E }) : SWs X b δ M (st :: sts) E := fun R mR σ H S kx => by
  refine wss_of (pss_cons ps_ws pss_wss) ?_
  show WS X st { conc X.K b R E with nx := WSs X sts (conc X.K b R E) } σ H
  exact (h R mR σ H S kx).mono (fun σ' H' ⟨M', δ', p, S'⟩ => p R mR σ' H' S' kx) (fun _ _ q => q) (fun _ _ q => q) (fun _ _ q => q)
theorem sw_expr (h : EW X b δ M e (fun M' _ => E.nx M' δ) (fun c M' => E.xc c M' δ)) (hs : swapsWith e none pos.line X.env = pure false := by rfl) : SW X b δ M (.Expr e pos) E := fun R mR σ H S kx => by
  refine ws_of (ps_expr pe_we hs) ?_
  exact h R mR σ H _ S (fun M' d v H' p S' => ⟨M', δ, p, S'.imp fun G z => ⟨z.1, z.2.1⟩⟩) kx.kx
theorem sw_ret (h : EW X b δ M e E.rt (fun c M' => E.xc c M' δ)) : SW X b δ M (.Return (some e) pos) E := fun R mR σ H S kx => by
  refine ws_of (ps_ret pe_we) ?_
  exact h R mR σ H _ S (fun M' d v H' p S' => ⟨M', d, p, S'.imp fun G z => z.2.2⟩) kx.kx
/-- a new list that may change is handed back for good -/
theorem sw_retL {a : Addr} {xs : List D} (h : EV X b δ M e (.loc (.ref a))) (hm : M a = some (.lst xs)) (hw : Nw b a) (hE : E.rt (dm M a) (.lst xs)) : SW X b δ M (.Return (some e) pos) E := fun R mR σ H S kx => by
  refine ws_of (ps_ret pe_we) ?_
  refine h R mR σ H _ S (fun M' d v H' p S' => ?_) .nx
  obtain ⟨rfl, rfl⟩ := p
  obtain ⟨G, S', z1, z2, z3⟩ := S'
  obtain ⟨G', S2, sg, r⟩ := S'.freeze hm hw
  rw [Rep.loc_iff] at z3
  subst z3
  exact ⟨_, _, hE, G', S2, r⟩
theorem sw_retN (h : E.rt M .non) : SW X b δ M (.Return none pos) E := fun R mR σ H S kx => ws_of ps_retN ⟨M, .non, h, S.imp fun G z => Rep.non_iff.mpr rfl⟩
theorem sw_set (i : Nat) {x : Str} {pos' : Pos} (h : EW X b δ M e (fun M' d => E.nx M' (δ.set i (some d))) (fun c M' => E.xc c M' δ)) (hN : X.N.Nodup) (hi : X.N[i]? = some x := by rfl) (hx : Loc X.env.scope x := by first | exact Or.inl rfl | exact Or.inr rfl)
    (hs : swapsWith e (some (.Name x pos')) pos.line X.env = pure false := by rfl) (hf : X.fn x = true ∨ X.env.scope.names.lookup x = some .local := by first | exact Or.inl rfl | exact Or.inr rfl) : SW X b δ M (.Assign [.Name x pos'] e pos) E := fun R mR σ H S kx => by
  refine ws_of (ps_set (i := i) hN hi hx pe_we hs hf) ?_
  exact h R mR σ H _ S (fun M' d v H' p S' => ⟨M', _, p, S'.imp fun G z => ⟨z.1.set i z.2.2, z.2.1⟩⟩) kx.kx
theorem sw_asg (h : EW X b δ M e (fun M' d => GW X b δ M' tg d E.nx) (fun c M' => E.xc c M' δ)) (hs : swapsWithSole [tg] e pos.line X.env = pure false := by rfl) (hw : swappedStores [tg] e X.env = pure none := by rfl)
    (h1 : (assignEach [tg] X.env).map (·.2) = [assign tg X.env] := by rfl) : SW X b δ M (.Assign [tg] e pos) E := fun R mR σ H S kx => by
  refine ws_of (ps_asg pe_we pg_wg hs hw h1) ?_
  exact h R mR σ H _ S (fun M' d v H' p S' => p R mR σ H' v _ S' fun M'' δ'' σ'' H'' q S'' => ⟨M'', δ'', q, S''⟩) kx.kx
theorem sw_if {c : Expr} (h : TW X b δ M c (fun M' k => (k = true → SWs X b δ M' body E) ∧ (k = false → SWs X b δ M' orelse E)) (fun c M' => E.xc c M' δ)) : SW X b δ M (.If c body orelse pos) E := fun R mR σ H S kx => by
  refine ws_of (ps_if pt_wt pss_wss pss_wss) ?_
  refine h R mR σ H _ S (fun M' k H' p S' => ?_) kx.kx
  cases k with
  | true => exact iteT (p.1 rfl R mR σ H' S' kx)
  | false => exact iteF (p.2 rfl R mR σ H' S' kx)
theorem sw_pass (h : E.nx M δ) : SW X b δ M (.Pass pos) E := fun R mR σ H S kx => ws_of ps_pass ⟨M, δ, h, S⟩
theorem sw_break (h : E.bk M δ) : SW X b δ M (.Break pos) E := fun R mR σ H S kx => ws_of ps_break ⟨M, δ, h, S⟩
theorem sw_cont (h : E.ct M δ) : SW X b δ M (.Continue pos) E := fun R mR σ H S kx => ws_of ps_continue ⟨M, δ, h, S⟩
/-- a locked dict -/
theorem sw_lock {a : Addr} {kvs : List (Int × D)} (hm : M a = some (.dI kvs)) (h : ∀ (b' : Bs) (od : Obj) (ws : List (Key × V)), (∀ p, Wr b' p ↔ Wr b p) → SW X b' δ (um M a (.dZ od kvs ws)) st
      ⟨fun M' δ' => M' a = some (.dZ od kvs ws) ∧ E.nx (um M' a (.dI kvs)) δ', fun M' d => M' a = some (.dZ od kvs ws) ∧ E.rt (um M' a (.dI kvs)) d, fun M' δ' => M' a = some (.dZ od kvs ws) ∧ E.bk (um M' a (.dI kvs)) δ', fun M' δ' => M' a = some (.dZ od kvs ws) ∧ E.ct (um M' a (.dI kvs)) δ', fun _ _ _ => False⟩) : SW X b δ M st E := fun R mR σ H S kx => by
  refine ws_of (ps_lock ps_ws) ?_
  obtain ⟨G, S, z⟩ := S
  obtain ⟨ws, hp, hl⟩ := S.lock hm
  refine ⟨a, .dK ws, hp, trivial, fun od => ?_⟩
  refine (h (lk b G H a od (.dK ws)) od ws (S.wr_lk hp) R mR σ _ ⟨G, hl od, z⟩ (fun _ _ _ _ _ q => q.elim)).mono (fun σ' H' ⟨M', δ', p, G', S', z'⟩ => ?_) (fun v H' ⟨M', d', p, G', S', z'⟩ => ?_) (fun σ' H' ⟨M', δ', p, G', S', z'⟩ => ?_) (fun σ' H' ⟨M', δ', p, G', S', z'⟩ => ?_)
  all_goals (obtain ⟨q1, q2⟩ := S.unlock hp S' p.1; exact ⟨q1, _, _, p.2, G', q2, z'⟩)
theorem sw_while {c : Expr} (hp : PassesOwn (model X.prog X.w) X.A X.env X.xe) (I : Nat → Mp → Od → Prop) (m0 : Nat) (h0 : I m0 M δ)
    (hs : ∀ m M' δ', I m M' δ' → TW X b δ' M' c (fun M1 k => (k = true → SWs X b δ' M1 body { E with nx := fun M2 δ2 => ∃ m', m' < m ∧ I m' M2 δ2, ct := fun M2 δ2 => ∃ m', m' < m ∧ I m' M2 δ2, bk := E.nx }) ∧ (k = false → E.nx M1 δ')) (fun c M' => E.xc c M' δ')) : SW X b δ M (.While c body [] pos) E := fun R mR σ H S kx => by
  refine ws_of (ps_while hp pt_wt pss_wss) ?_
  refine ⟨fun m => concN X.K b R (I m), ⟨m0, M, δ, h0, S⟩, fun m σ' H' ⟨M', δ', p, S'⟩ => ?_⟩
  refine hs m M' δ' p R mR σ' H' _ S' (fun M1 k H1 q S1 => ?_) kx.kx
  cases k with
  | true =>
    refine iteT ⟨concN X.K b R fun M2 δ2 => ∃ m', m' < m ∧ I m' M2 δ2, fun σ2 H2 ⟨M2, δ2, ⟨m', hm, p2⟩, S2⟩ => ⟨m', hm, M2, δ2, p2, S2⟩, ?_⟩
    exact q.1 rfl R mR σ' H1 S1 kx
  | false => exact iteF ⟨M1, δ', q.2 rfl, S1⟩

/-! ### what is walked -/
def WI (X : Cx) (tg iter : Expr) : TI := fun σ H R => ∀ (pins : List (Addr × Obj)) (s : Shared), Inv X pins σ H s → wpAny (model X.prog X.w) X.A (eval iter X.env) (fun v s1 => wpAny (model X.prog X.w) X.A (pyIter v) (PIE X pins σ tg R) X.xe s1) X.xe s
theorem pi_wi {X : Cx} {tg iter : Expr} : PI X tg iter (WI X tg iter) := ⟨fun pins s σ H R I h => h pins s I⟩
theorem wi_of {X : Cx} {tg iter : Expr} {t : TI} {σ : L2.St} {H : Hp} {Q : It → Hp → Prop} (h : PI X tg iter t) (q : t σ H Q) : WI X tg iter σ H Q := fun pins s I => h.run pins s σ H Q I q
/-- an iterator of the data ds, while the cells are as CM says and R stands -/
def Walks (K : Fg) (b : Bs) (J : It) (CM : Mp → Prop) (R : Hp → Prop) (ds : List D) : Prop :=
  ∃ (Gd : Hp → Prop) (Y : Nat → Hp → V → Hp → Prop), Walk J ds.length Gd Y ∧ (∀ M' H', CM M' → SS K b M' R H' → Gd H') ∧
    ∀ (i : Nat) (d : D) (x : V) (M' : Mp) (R' : Hp → Prop) (H' H'' : Hp), Mono R' → ds[i]? = some d → CM M' → SS K b M' (fun G => R' G ∧ R G) H' → Y i H' x H'' → SS K b M' (fun G => R' G ∧ R G ∧ Rep K G d x) H''
def IW (X : Cx) (b : Bs) (δ : Od) (M : Mp) (tg iter : Expr) (Φ : Mp → (Mp → Prop) → List D → Prop) (Ψ : Xs) : Prop :=
  ∀ (R : Hp → Prop), Mono R → ∀ (σ : L2.St) (H : Hp) (Q : It → Hp → Prop), SS X.K b M (RE X.K σ δ R) H →
    (∀ M1 CM ds H1 J R1, Φ M1 CM ds → Mono R1 → (∀ G, R1 G → R G) → SS X.K b M1 (RE X.K σ δ R1) H1 → Walks X.K b J CM R1 ds → Q J H1) → KX X b δ R σ Ψ → WI X tg iter σ H Q
theorem sw_for {iter : Expr} (hp : PassesOwn (model X.prog X.w) X.A X.env X.xe) (hc : X.calm = true)
    (h : IW X b δ M tg iter (fun M1 CM ds => ∃ I : Nat → Mp → Od → Prop, I 0 M1 δ ∧ (∀ i M' δ', I i M' δ' → CM M') ∧ (∀ i d M' δ', ds[i]? = some d → I i M' δ' → GW X b δ' M' tg d fun M2 δ2 => SWs X b δ2 M2 body { E with nx := I (i + 1), ct := I (i + 1), bk := E.nx }) ∧
      ∀ M' δ', I ds.length M' δ' → E.nx M' δ') (fun c M' => E.xc c M' δ)) (hs : ∀ x, foldedSetIterable iter X.env x = pure x := by exact fun _ => rfl) : SW X b δ M (.For tg iter body [] pos) E := fun R mR σ H S kx => by
  refine ws_of (ps_for hp hc pi_wi pg_wg pss_wss hs) ?_
  refine h R mR σ H _ S (fun M1 CM ds H1 J R1 p mR1 hR S1 w => ?_) kx.kx
  obtain ⟨I, h0, hcm, hst, hd⟩ := p
  obtain ⟨Gd, Y, hw, hG, hY⟩ := w
  refine for_it (D := conc X.K b R E) hw (fun i => concN X.K b R1 (I i)) ⟨M1, δ, h0, S1⟩ (fun i σ' H' _ ⟨M', δ', p, S'⟩ => hG M' H' (hcm i M' δ' p) (S'.imp fun G z => z.2)) (fun i x σ' H' H'' hi ⟨M', δ', p, S'⟩ y => ?_) (fun σ' H' ⟨M', δ', p, S'⟩ => ⟨M', δ', hd M' δ' p, S'.imp fun G z => ⟨z.1, hR G z.2⟩⟩)
  have hi' : ds[i]? = some ds[i] := by simp [hi]
  have S2 := hY i ds[i] x M' (fun G => Env X.K G σ' δ') H' H'' Mono.env hi' (hcm i M' δ' p) S' y
  refine hst i ds[i] M' δ' hi' p R1 mR1 σ' H'' x _ S2 fun M2 δ2 σ2 H2 q S3 => ?_
  refine (q R1 mR1 σ2 H2 S3 (kx.up hR)).mono (fun _ _ z => z) (fun _ _ z => z) (fun _ _ z => ?_) (fun _ _ z => z)
  exact z.weak hR
theorem iw_lst {iter : Expr} {Φ : Mp → (Mp → Prop) → List D → Prop} {Ψ : Xs} (h : EW X b δ M iter (fun M1 d => ∃ ds, d = .lst ds ∧ Φ M1 (fun _ => True) ds) Ψ) : IW X b δ M tg iter Φ Ψ := fun R mR σ H Q S k kx => by
  refine wi_of (pi_list pe_we) ?_
  refine h R mR σ H _ S (fun M1 d v H1 p S1 => ?_) kx
  obtain ⟨ds, rfl, p⟩ := p
  obtain ⟨G, S1, z1, z2, z3⟩ := S1
  obtain ⟨a, vs, e, ha, rs⟩ := Rep.lst_iff.mp z3
  refine ⟨a, e, ⟨vs, SqL.of (S1.gh _ _ ha)⟩, ?_⟩
  refine k M1 _ ds H1 _ (fun G => R G ∧ G a = some (.lst vs) ∧ Reps X.K G ds vs) p (mR.and (Mono.and (fun G G' e h => e _ _ h) .reps)) (fun G z => z.1) ⟨G, S1, z1, z2, ha, rs⟩ ?_
  refine ⟨_, _, by rw [rs.length]; exact walk_list (K := X.K) (a := a) (xs := vs), fun M' H' _ ⟨G, S', z⟩ => SqL.of (S'.gh _ _ z.2.1), fun i d x M' R' H' H'' mR' hi _ ⟨G, S', r', z⟩ y => ?_⟩
  obtain ⟨rfl, hx⟩ := y
  obtain ⟨v, hv, rv⟩ := z.2.2.get hi
  rw [hx] at hv; cases hv
  exact ⟨G, S', r', z, rv⟩
theorem iw_tup {iter : Expr} {Φ : Mp → (Mp → Prop) → List D → Prop} {Ψ : Xs} (h : EW X b δ M iter (fun M1 d => ∃ ds, d = .tup ds ∧ Φ M1 (fun _ => True) ds) Ψ) : IW X b δ M tg iter Φ Ψ := fun R mR σ H Q S k kx => by
  refine wi_of (pi_tup pe_we) ?_
  refine h R mR σ H _ S (fun M1 d v H1 p S1 => ?_) kx
  obtain ⟨ds, rfl, p⟩ := p
  obtain ⟨G, S1, z1, z2, z3⟩ := S1
  obtain ⟨a, vs, e, ha, rs⟩ := Rep.tup_iff.mp z3
  refine ⟨a, e, ⟨vs, SqT.of (S1.gh _ _ ha)⟩, ?_⟩
  refine k M1 _ ds H1 _ (fun G => R G ∧ G a = some (.tup vs) ∧ Reps X.K G ds vs) p (mR.and (Mono.and (fun G G' e h => e _ _ h) .reps)) (fun G z => z.1) ⟨G, S1, z1, z2, ha, rs⟩ ?_
  refine ⟨_, _, by rw [rs.length]; exact walk_tup (K := X.K) (a := a) (xs := vs), fun M' H' _ ⟨G, S', z⟩ => SqT.of (S'.gh _ _ z.2.1), fun i d x M' R' H' H'' mR' hi _ ⟨G, S', r', z⟩ y => ?_⟩
  obtain ⟨rfl, hx⟩ := y
  obtain ⟨v, hv, rv⟩ := z.2.2.get hi
  rw [hx] at hv; cases hv
  exact ⟨G, S', r', z, rv⟩
theorem iw_scr {iter : Expr} {Φ : Mp → (Mp → Prop) → List D → Prop} {Ψ : Xs} {ns : List Int} (h : EV X b δ M iter (.scr ns)) (hΦ : Φ M (fun _ => True) (ns.map D.int)) : IW X b δ M tg iter Φ Ψ := fun R mR σ H Q S k kx => by
  refine wi_of (pi_list pe_we) ?_
  refine h R mR σ H _ S (fun M1 d v H1 p S1 => ?_) .nx
  obtain ⟨rfl, rfl⟩ := p
  obtain ⟨G, S1, z1, z2, z3⟩ := S1
  obtain ⟨a, e, ha⟩ := Rep.scr_iff.mp z3
  refine ⟨a, e, ⟨_, S1.gh.seq ha⟩, ?_⟩
  refine k _ _ _ H1 _ (fun G => R G ∧ SqL X.K G a (ns.map V.int)) hΦ (mR.and (fun G G' e h => e.seq h)) (fun G z => z.1) ⟨G, S1, z1, z2, ha⟩ ?_
  refine ⟨_, _, by rw [List.length_map, ← List.length_map (f := V.int)]; exact walk_list (K := X.K) (a := a) (xs := ns.map V.int), fun M' H' _ ⟨G, S', z⟩ => S'.gh.seq z.2, fun i d x M' R' H' H'' mR' hi _ ⟨G, S', r', z⟩ y => ?_⟩
  obtain ⟨rfl, hx⟩ := y
  rw [List.getElem?_map] at hi hx
  cases q : ns[i]? with
  | none => rw [q] at hi; cases hi
  | some n =>
    rw [q] at hi hx
    cases hi; cases hx
    exact ⟨G, S', r', z, Rep.int_iff.mpr rfl⟩
def rngD (n : Int) : List D := (List.range n.toNat).map fun i => D.int (i : Nat)
theorem iw_range1 {e : Expr} {p1 p2 : Pos} {Φ : Mp → (Mp → Prop) → List D → Prop} {Ψ : Xs} (hg : Gl X "range") (hm : X.mg "range" = none) (h : EW X b δ M e (fun M1 d => ∃ n : Int, d = .int n ∧ -1000000 ≤ n ∧ n ≤ 1000000 ∧ Φ M1 (fun _ => True) (rngD n)) Ψ)
    (hs : starEach [e] X.env = [(false, eval e X.env)] := by rfl) (hs1 : starEach [e] X.env = (false, eval e X.env) :: starEach [] X.env := by rfl) : IW X b δ M tg (.Call (.Name "range" p1) [e] [] p2) Φ Ψ := fun R mR σ H Q S k kx => by
  refine wi_of (pi_range1 hg hm (pa_cons pe_we pa_nil hs1) hs) ?_
  refine h R mR σ H _ S (fun M1 d v H1 p S1 => ?_) kx
  obtain ⟨n, rfl, hm1, hn, p⟩ := p
  obtain ⟨G, S1, z1, z2, z3⟩ := S1
  rw [Rep.int_iff] at z3
  subst z3
  refine ⟨n, rfl, by omega, by omega, ?_⟩
  refine k M1 _ _ H1 _ R p mR (fun G z => z) ⟨G, S1, z1, z2⟩ ?_
  refine ⟨_, _, by unfold rngD; rw [List.length_map, List.length_range]; exact walk_range (lo := 0) (n := n.toNat), fun M' H' _ _ => trivial, fun i d x M' R' H' H'' mR' hi _ ⟨G, S', r', z⟩ y => ?_⟩
  obtain ⟨rfl, rfl⟩ := y
  unfold rngD at hi
  rw [List.getElem?_map] at hi
  cases q : (List.range n.toNat)[i]? with
  | none => rw [q] at hi; cases hi
  | some j =>
    rw [q] at hi
    cases hi
    obtain ⟨_, hj⟩ := List.getElem?_eq_some_iff.mp q
    rw [List.getElem_range] at hj
    subst hj
    exact ⟨G, S', r', z, Rep.int_iff.mpr (by show V.int (0 + (i : Int)) = V.int (i : Int); rw [Int.zero_add])⟩
end
end D4
end

section
set_option maxRecDepth 100000
set_option maxHeartbeats 4000000
/-! D4d: dicts. -/
namespace D4
open PySem L2

section
variable {κ : Type} [DecidableEq κ]
def lookD (kvs : List (κ × D)) (k : κ) : Option D := (kvs.find? fun kv => decide (kv.1 = k)).map (·.2)
def putD (kvs : List (κ × D)) (k : κ) (d : D) : List (κ × D) := if (kvs.any fun kv => decide (kv.1 = k)) = true then kvs.map (fun kv => if kv.1 = k then (kv.1, d) else kv) else kvs ++ [(k, d)]
def dropD (kvs : List (κ × D)) (k : κ) : List (κ × D) := kvs.filter fun kv => decide (kv.1 ≠ k)
variable {κ' : Type} [DecidableEq κ'] {f : κ → κ'} {K : Fg} {G : Hp}
abbrev RepK (K : Fg) (G : Hp) (f : κ → κ') : List (κ × D) → List (κ' × V) → Prop := Paired fun p q => q.1 = f p.1 ∧ Rep K G p.2 q.2
theorem RepK.look (hf : ∀ a b, f a = f b → a = b) {kvs : List (κ × D)} {ws : List (κ' × V)} (r : RepK K G f kvs ws) (k : κ) :
    (∀ d, lookD kvs k = some d → ∃ v, valV ws (f k) = some v ∧ Rep K G d v) ∧ (lookD kvs k = none → valV ws (f k) = none) := by
  induction r with
  | nil => exact ⟨fun d e => by simp [lookD] at e, fun _ => rfl⟩
  | @cons p q l l' h t ih =>
    obtain ⟨h1, h2⟩ := h
    by_cases e : p.1 = k
    · have e' : q.1 = f k := by rw [h1, e]
      rw [valV_pos e']
      have el : lookD (p :: l) k = some p.2 := by simp [lookD, List.find?_cons, e]
      rw [el]
      exact ⟨fun d q => by cases q; exact ⟨_, rfl, h2⟩, fun q => by cases q⟩
    · have e' : ¬ q.1 = f k := fun z => e (hf _ _ (h1.symm.trans z))
      rw [valV_neg e']
      have el : lookD (p :: l) k = lookD l k := by simp [lookD, List.find?_cons, e]
      rw [el]
      exact ih
theorem RepK.isSome (hf : ∀ a b, f a = f b → a = b) {kvs : List (κ × D)} {ws : List (κ' × V)} (r : RepK K G f kvs ws) (k : κ) : (valV ws (f k)).isSome = (lookD kvs k).isSome := by
  cases e : lookD kvs k with
  | none => rw [(r.look hf k).2 e] <;> rfl
  | some d => obtain ⟨v, h, _⟩ := (r.look hf k).1 d e; rw [h] <;> rfl
theorem RepK.any (hf : ∀ a b, f a = f b → a = b) {kvs : List (κ × D)} {ws : List (κ' × V)} (r : RepK K G f kvs ws) (k : κ) : (ws.any fun kv => decide (kv.1 = f k)) = kvs.any fun kv => decide (kv.1 = k) := by
  induction r with
  | nil => rfl
  | @cons p q l l' h t ih =>
    rw [List.any_cons, List.any_cons, ih]
    congr 1
    by_cases e : p.1 = k
    · rw [decide_eq_true e, decide_eq_true (by rw [h.1, e])]
    · rw [decide_eq_false e, decide_eq_false fun z => e (hf _ _ (h.1.symm.trans z))]
theorem RepK.repl (hf : ∀ a b, f a = f b → a = b) {kvs : List (κ × D)} {ws : List (κ' × V)} (r : RepK K G f kvs ws) (k : κ) {d : D} {v : V} (rv : Rep K G d v) : RepK K G f (kvs.map fun kv => if kv.1 = k then (kv.1, d) else kv) (ws.map fun kv => if kv.1 = f k then (kv.1, v) else kv) := by
  induction r with
  | nil => exact .nil
  | @cons p q l l' h t ih =>
    rw [List.map_cons, List.map_cons]
    refine .cons ?_ ih
    by_cases e : p.1 = k
    · rw [if_pos e, if_pos (by rw [h.1, e])]; exact ⟨h.1, rv⟩
    · rw [if_neg e, if_neg fun z => e (hf _ _ (h.1.symm.trans z))]; exact h
theorem RepK.snoc {kvs : List (κ × D)} {ws : List (κ' × V)} (r : RepK K G f kvs ws) (k : κ) {d : D} {v : V} (rv : Rep K G d v) : RepK K G f (kvs ++ [(k, d)]) (ws ++ [(f k, v)]) := by
  induction r with
  | nil => exact .cons ⟨rfl, rv⟩ .nil
  | @cons p q l l' h t ih => exact .cons h ih
theorem RepK.put (hf : ∀ a b, f a = f b → a = b) {kvs : List (κ × D)} {ws : List (κ' × V)} (r : RepK K G f kvs ws) (k : κ) {d : D} {v : V} (rv : Rep K G d v) : RepK K G f (putD kvs k d) (putK ws (f k) v) := by
  unfold putD putK
  rw [r.any hf k]
  split
  · exact RepK.repl hf r k rv
  · exact RepK.snoc r k rv
theorem RepK.drop (hf : ∀ a b, f a = f b → a = b) {kvs : List (κ × D)} {ws : List (κ' × V)} (r : RepK K G f kvs ws) (k : κ) : RepK K G f (dropD kvs k) (dropK ws (f k)) := by
  unfold dropD dropK
  induction r with
  | nil => exact .nil
  | @cons p q l l' h t ih =>
    rw [List.filter_cons, List.filter_cons]
    by_cases e : p.1 = k
    · rw [if_neg (by simp [e]), if_neg (by simp [h.1, e])]; exact ih
    · rw [if_pos (by simp [e]), if_pos (by simp only [ne_eq, decide_eq_true_eq]; exact fun z => e (hf _ _ (h.1.symm.trans z)))]; exact .cons h ih
theorem RepK.length {kvs : List (κ × D)} {ws : List (κ' × V)} (r : RepK K G f kvs ws) : kvs.length = ws.length := by
  induction r with
  | nil => rfl
  | cons h t ih => rw [List.length_cons, List.length_cons, ih]
theorem RepK.get {kvs : List (κ × D)} {ws : List (κ' × V)} (r : RepK K G f kvs ws) : ∀ {i : Nat} {k : κ} {d : D}, kvs[i]? = some (k, d) → ∃ v, ws[i]? = some (f k, v) ∧ Rep K G d v := by
  induction r with
  | nil => intro i k d e; simp at e
  | @cons p q l l' h t ih =>
    intro i k d e
    cases i with
    | zero =>
      have e : p = (k, d) := by simpa using e
      subst e
      obtain ⟨qk, qv⟩ := q
      exact ⟨qv, by simpa using h.1, h.2⟩
    | succ i => simpa using ih (by simpa using e)
theorem RepK.keys {kvs : List (κ × D)} {ws : List (κ' × V)} (r : RepK K G f kvs ws) : ws.map (·.1) = (kvs.map (·.1)).map f := by
  induction r with
  | nil => rfl
  | cons h t ih => rw [List.map_cons, List.map_cons, List.map_cons, ih, h.1]
theorem RepK.vals {kvs : List (κ × D)} {ws : List (κ' × V)} (r : RepK K G f kvs ws) : Reps K G (kvs.map (·.2)) (ws.map (·.2)) := by
  induction r with
  | nil => exact .nil
  | cons h t ih => exact .cons h.2 ih
end
theorem keyI_inj : ∀ a b : Int, keyI a = keyI b → a = b := fun a b e => Sum.inl.inj e
theorem keyT_inj : ∀ a b : List Int, keyT a = keyT b → a = b
  | [], [], _ => rfl
  | [], _ :: _, e => by cases e
  | _ :: _, [], e => by cases e
  | a :: l, b :: m, e => by
    have e1 := List.cons.inj (show keyI a :: keyT l = keyI b :: keyT m from e)
    rw [keyI_inj _ _ e1.1, keyT_inj _ _ e1.2]
theorem keyT_vals (ks : List Int) : (keyT ks).map kV = ks.map V.int := by
  unfold keyT
  rw [List.map_map]
  rfl

/-- at a stands a dict with these entries -/
def DkI (M : Mp) (a : Addr) (kvs : List (Int × D)) : Prop := M a = some (.dI kvs) ∨ ∃ od ws, M a = some (.dZ od kvs ws)
/-- what a key is -/
inductive IsKey (M : Mp) (a : Addr) : D → Option D → Prop
  | i {kvs : List (Int × D)} {i : Int} : DkI M a kvs → IsKey M a (.int i) (lookD kvs i)
  | t {kts : List (List Int × D)} {ks : List Int} : M a = some (.dT kts) → IsKey M a (.tup (ks.map D.int)) (lookD kts ks)
section
variable {X : Cx} {b : Bs} {δ : Od} {M : Mp} {e o k e1 e2 tg : Expr} {es : List Expr} {Φ : Mp → D → Prop} {Ψ : Xs} {d d1 d2 : D} {pos apos cpos : Pos} {a : Addr} {kvs : List (Int × D)} {kts : List (List Int × D)} {i : Int} {ks : List Int} {E : DE} {K : Fg} {G H : Hp}
theorem SO.dk (S : SO K b M G H) (h : DkI M a kvs) : ∃ ws, Rd H a (.dK ws) ∧ RepK K G keyI kvs ws := by
  rcases h with h | ⟨od, ws, h⟩
  · obtain ⟨_, o, ho, ws, rfl, r⟩ := S.cel a _ h
    exact ⟨ws, .inl ho, r⟩
  · obtain ⟨_, o, ho, rfl, r⟩ := S.cel a _ h
    exact ⟨ws, .inr ⟨od, ho⟩, r⟩
theorem SO.dt (S : SO K b M G H) (h : M a = some (.dT kts)) : ∃ ws, H a = some (.dT ws) ∧ RepK K G keyT kts ws := by
  obtain ⟨_, o, ho, ws, rfl, r⟩ := S.cel a _ h
  exact ⟨ws, ho, r⟩
theorem IsKey.get {od : Option D} {y : V} (h : IsKey M a d1 od) (S : SO K b M G H) (r : Rep K G d1 y) : (∀ d, od = some d → ∃ v, DGet H a y (some v) ∧ Rep K G d v) ∧ (od = none → DGet H a y none) := by
  cases h with
  | @i kvs i h =>
    obtain ⟨ws, h1, h2⟩ := S.dk h
    rw [Rep.int_iff] at r
    subst r
    refine ⟨fun d e => ?_, fun e => ?_⟩
    · obtain ⟨v, q1, q2⟩ := (h2.look keyI_inj i).1 d e
      exact ⟨v, .inl ⟨ws, keyI i, h1, rfl, q1.symm⟩, q2⟩
    · exact .inl ⟨ws, keyI i, h1, rfl, ((h2.look keyI_inj i).2 e).symm⟩
  | @t kts ks h =>
    obtain ⟨ws, h1, h2⟩ := S.dt h
    obtain ⟨q, vs, rfl, hq, rs⟩ := Rep.tup_iff.mp r
    have ev := rs.ints
    subst ev
    have hq' : H q = some (.tup ((keyT ks).map kV)) := by rw [keyT_vals]; exact S.gh _ _ hq
    refine ⟨fun d e => ?_, fun e => ?_⟩
    · obtain ⟨v, q1, q2⟩ := (h2.look keyT_inj ks).1 d e
      exact ⟨v, .inr ⟨ws, keyT ks, q, .inl h1, rfl, hq', q1.symm⟩, q2⟩
    · exact .inr ⟨ws, keyT ks, q, .inl h1, rfl, hq', ((h2.look keyT_inj ks).2 e).symm⟩
theorem IsKey.isD {od : Option D} (h : IsKey M a d1 od) (S : SO K b M G H) : IsD H a := by
  cases h with
  | i h => obtain ⟨ws, h1, h2⟩ := S.dk h; exact .inl ⟨ws, h1⟩
  | t h => obtain ⟨ws, h1, h2⟩ := S.dt h; exact .inr ⟨ws, .inl h1⟩
theorem ev_dget (hu : X.A.units + 1 < cLine) (h1 : EV X b δ M o (.loc (.ref a))) (h2 : EV X b δ M k d1) (hk : IsKey M a d1 (some d)) (hs : NoSl k := by exact fun _ _ => rfl) : EV X b δ M (.Subscript o k pos) d := fun R mR σ H Q S kk kx => by
  refine we_of (pe_dget hu pe_we pe_we hs) ?_
  refine h1 R mR σ H _ S (fun M1 d' x H1 p1 S1 => ?_) .nx
  obtain ⟨rfl, rfl⟩ := p1
  refine h2 (fun G => R G ∧ x = .ref a) (mR.and fun _ _ _ h => h) σ H1 _ (S1.imp fun G z => ⟨z.1, z.2.1, Rep.loc_iff.mp z.2.2⟩) (fun M2 d' y H2 p2 S2 => ?_) .nx
  obtain ⟨rfl, rfl⟩ := p2
  obtain ⟨G, S2, z1, z2, z3⟩ := S2
  obtain ⟨v, g, rv⟩ := (hk.get S2 z3).1 d rfl
  exact ⟨a, v, z2.2, g, kk _ _ _ _ ⟨rfl, rfl⟩ ⟨G, S2, z1, z2.1, rv⟩⟩
theorem ev_din (hu : X.A.units + 1 < cLine) {od : Option D} (h2 : EV X b δ M k d1) (h1 : EV X b δ M o (.loc (.ref a))) (hk : IsKey M a d1 od) (hm : behindInMarks .In o = false := by rfl) : EV X b δ M (.Compare k [.In] [o] pos) (.bl od.isSome) := fun R mR σ H Q S kk kx => by
  refine we_of (pe_cmp (pc_din hu pe_we pe_we) hm) ?_
  refine h2 R mR σ H _ S (fun M1 d' y H1 p1 S1 => ?_) .nx
  obtain ⟨rfl, rfl⟩ := p1
  refine h1 (fun G => R G ∧ Rep X.K G d1 y) (mR.and .rep) σ H1 _ (S1.imp fun G z => ⟨z.1, z.2.1, z.2.2⟩) (fun M2 d' x H2 p2 S2 => ?_) .nx
  obtain ⟨rfl, rfl⟩ := p2
  obtain ⟨G, S2, z1, z2, z3⟩ := S2
  have fin : ∀ c, SS X.K b M (RV X.K σ δ R (.bl c) (.bl c)) H2 := fun c => ⟨G, S2, z1, z2.1, Rep.bl_iff.mpr rfl⟩
  cases od with
  | none => exact ⟨a, none, Rep.loc_iff.mp z3, (hk.get S2 z2.2).2 rfl, kk _ _ _ _ ⟨rfl, rfl⟩ (fin _)⟩
  | some d =>
    obtain ⟨v, g, rv⟩ := (hk.get S2 z2.2).1 d rfl
    exact ⟨a, some v, Rep.loc_iff.mp z3, g, kk _ _ _ _ ⟨rfl, rfl⟩ (fin _)⟩
theorem ev_dnotin (hu : X.A.units + 1 < cLine) {od : Option D} (h2 : EV X b δ M k d1) (h1 : EV X b δ M o (.loc (.ref a))) (hk : IsKey M a d1 od) (hm : behindInMarks .NotIn o = false := by rfl) : EV X b δ M (.Compare k [.NotIn] [o] pos) (.bl (!od.isSome)) := fun R mR σ H Q S kk kx => by
  refine we_of (pe_cmp (pc_dnotin hu pe_we pe_we) hm) ?_
  refine h2 R mR σ H _ S (fun M1 d' y H1 p1 S1 => ?_) .nx
  obtain ⟨rfl, rfl⟩ := p1
  refine h1 (fun G => R G ∧ Rep X.K G d1 y) (mR.and .rep) σ H1 _ (S1.imp fun G z => ⟨z.1, z.2.1, z.2.2⟩) (fun M2 d' x H2 p2 S2 => ?_) .nx
  obtain ⟨rfl, rfl⟩ := p2
  obtain ⟨G, S2, z1, z2, z3⟩ := S2
  have fin : ∀ c, SS X.K b M (RV X.K σ δ R (.bl c) (.bl c)) H2 := fun c => ⟨G, S2, z1, z2.1, Rep.bl_iff.mpr rfl⟩
  cases od with
  | none => exact ⟨a, none, Rep.loc_iff.mp z3, (hk.get S2 z2.2).2 rfl, kk _ _ _ _ ⟨rfl, rfl⟩ (fin _)⟩
  | some d =>
    obtain ⟨v, g, rv⟩ := (hk.get S2 z2.2).1 d rfl
    exact ⟨a, some v, Rep.loc_iff.mp z3, g, kk _ _ _ _ ⟨rfl, rfl⟩ (fin _)⟩
theorem tv_din (hu : X.A.units + 1 < cLine) {od : Option D} (h2 : EV X b δ M k d1) (h1 : EV X b δ M o (.loc (.ref a))) (hk : IsKey M a d1 od) (hm : behindInMarks .In o = false := by rfl) : TV X b δ M (.Compare k [.In] [o] pos) od.isSome := fun R mR σ H Q S kk kx => by
  refine wt_of (pt_cmp (pc_din hu pe_we pe_we) hm) ?_
  refine h2 R mR σ H _ S (fun M1 d' y H1 p1 S1 => ?_) .nx
  obtain ⟨rfl, rfl⟩ := p1
  refine h1 (fun G => R G ∧ Rep X.K G d1 y) (mR.and .rep) σ H1 _ (S1.imp fun G z => ⟨z.1, z.2.1, z.2.2⟩) (fun M2 d' x H2 p2 S2 => ?_) .nx
  obtain ⟨rfl, rfl⟩ := p2
  obtain ⟨G, S2, z1, z2, z3⟩ := S2
  have fin : SS X.K b M (RE X.K σ δ R) H2 := ⟨G, S2, z1, z2.1⟩
  cases od with
  | none => exact ⟨a, none, Rep.loc_iff.mp z3, (hk.get S2 z2.2).2 rfl, _, rfl, kk _ _ _ ⟨rfl, rfl⟩ fin⟩
  | some d =>
    obtain ⟨v, g, rv⟩ := (hk.get S2 z2.2).1 d rfl
    exact ⟨a, some v, Rep.loc_iff.mp z3, g, _, rfl, kk _ _ _ ⟨rfl, rfl⟩ fin⟩
theorem tv_dnotin (hu : X.A.units + 1 < cLine) {od : Option D} (h2 : EV X b δ M k d1) (h1 : EV X b δ M o (.loc (.ref a))) (hk : IsKey M a d1 od) (hm : behindInMarks .NotIn o = false := by rfl) : TV X b δ M (.Compare k [.NotIn] [o] pos) (!od.isSome) := fun R mR σ H Q S kk kx => by
  refine wt_of (pt_cmp (pc_dnotin hu pe_we pe_we) hm) ?_
  refine h2 R mR σ H _ S (fun M1 d' y H1 p1 S1 => ?_) .nx
  obtain ⟨rfl, rfl⟩ := p1
  refine h1 (fun G => R G ∧ Rep X.K G d1 y) (mR.and .rep) σ H1 _ (S1.imp fun G z => ⟨z.1, z.2.1, z.2.2⟩) (fun M2 d' x H2 p2 S2 => ?_) .nx
  obtain ⟨rfl, rfl⟩ := p2
  obtain ⟨G, S2, z1, z2, z3⟩ := S2
  have fin : SS X.K b M (RE X.K σ δ R) H2 := ⟨G, S2, z1, z2.1⟩
  cases od with
  | none => exact ⟨a, none, Rep.loc_iff.mp z3, (hk.get S2 z2.2).2 rfl, _, rfl, kk _ _ _ ⟨rfl, rfl⟩ fin⟩
  | some d =>
    obtain ⟨v, g, rv⟩ := (hk.get S2 z2.2).1 d rfl
    exact ⟨a, some v, Rep.loc_iff.mp z3, g, _, rfl, kk _ _ _ ⟨rfl, rfl⟩ fin⟩
theorem ev_dget1 (hu : X.A.units + 1 < cLine) {od : Option D} (h1 : EV X b δ M o (.loc (.ref a))) (h2 : EV X b δ M k d1) (hk : IsKey M a d1 od) (m : M1 X o "get" apos k cpos := by exact ⟨rfl, rfl, rfl, rfl⟩) : EV X b δ M (.Call (.Attribute o "get" apos) [k] [] cpos) (od.getD .non) := fun R mR σ H Q S kk kx => by
  refine we_of (pe_dget1 hu pe_we pe_we m) ?_
  refine h1 R mR σ H _ S (fun M1 d' x H1 p1 S1 => ?_) .nx
  obtain ⟨rfl, rfl⟩ := p1
  obtain ⟨G1, S1', z1⟩ := id S1
  refine ⟨a, Rep.loc_iff.mp z1.2.2, hk.isD S1', ?_⟩
  refine h2 R mR σ H1 _ (S1.imp fun G z => ⟨z.1, z.2.1⟩) (fun M2 d' y H2 p2 S2 => ?_) .nx
  obtain ⟨rfl, rfl⟩ := p2
  obtain ⟨G, S2, z1, z2, z3⟩ := S2
  cases od with
  | none => exact ⟨none, (hk.get S2 z3).2 rfl, kk _ _ _ _ ⟨rfl, rfl⟩ ⟨G, S2, z1, z2, Rep.non_iff.mpr rfl⟩⟩
  | some d =>
    obtain ⟨v, g, rv⟩ := (hk.get S2 z3).1 d rfl
    exact ⟨some v, g, kk _ _ _ _ ⟨rfl, rfl⟩ ⟨G, S2, z1, z2, rv⟩⟩
theorem ev_dget2 (hu : X.A.units + 1 < cLine) {od : Option D} (h1 : EV X b δ M o (.loc (.ref a))) (h2 : EV X b δ M k d1) (h3 : EV X b δ M e d2) (hk : IsKey M a d1 od) (m : M2 X o "get" apos k e cpos := by exact ⟨rfl, rfl, rfl, rfl⟩) : EV X b δ M (.Call (.Attribute o "get" apos) [k, e] [] cpos) (od.getD d2) := fun R mR σ H Q S kk kx => by
  refine we_of (pe_dget2 hu pe_we pe_we pe_we m) ?_
  refine h1 R mR σ H _ S (fun M1 d' x H1 p1 S1 => ?_) .nx
  obtain ⟨rfl, rfl⟩ := p1
  obtain ⟨G1, S1', z1⟩ := id S1
  refine ⟨a, Rep.loc_iff.mp z1.2.2, hk.isD S1', ?_⟩
  refine h2 R mR σ H1 _ (S1.imp fun G z => ⟨z.1, z.2.1⟩) (fun M2 d' y H2 p2 S2 => ?_) .nx
  obtain ⟨rfl, rfl⟩ := p2
  refine h3 (fun G => R G ∧ Rep X.K G d1 y) (mR.and .rep) σ H2 _ (S2.imp fun G z => ⟨z.1, z.2⟩) (fun M3 d' z H3 p3 S3 => ?_) .nx
  obtain ⟨rfl, rfl⟩ := p3
  obtain ⟨G, S3, z1, z2, z3⟩ := S3
  cases od with
  | none => exact ⟨none, (hk.get S3 z2.2).2 rfl, kk _ _ _ _ ⟨rfl, rfl⟩ ⟨G, S3, z1, z2.1, z3⟩⟩
  | some d =>
    obtain ⟨v, g, rv⟩ := (hk.get S3 z2.2).1 d rfl
    exact ⟨some v, g, kk _ _ _ _ ⟨rfl, rfl⟩ ⟨G, S3, z1, z2.1, rv⟩⟩
/-- o[k] = e, ints for keys -/
theorem sw_dput (hu : X.A.units + 1 < cLine) (h1 : EV X b δ M e d) (h2 : EV X b δ M o (.loc (.ref a))) (h3 : EV X b δ M k (.int i)) (hm : M a = some (.dI kvs)) (hw : Wr b a) (hl : kvs.length < 100000) (hE : E.nx (um M a (.dI (putD kvs i d))) δ)
    (hs : swapsWith e (some (.Subscript o k apos)) pos.line X.env = pure false := by rfl) : SW X b δ M (.Assign [.Subscript o k apos] e pos) E := fun R mR σ H S kx => by
  refine ws_of (ps_dput hu pe_we pe_we pe_we hs) ?_
  refine h1 R mR σ H _ S (fun M1 d' v H1 p1 S1 => ?_) .nx
  obtain ⟨rfl, rfl⟩ := p1
  refine h2 (fun G => R G ∧ Rep X.K G d v) (mR.and .rep) σ H1 _ S1 (fun M2 d' x H2 p2 S2 => ?_) .nx
  obtain ⟨rfl, rfl⟩ := p2
  refine h3 (fun G => (R G ∧ Rep X.K G d v) ∧ x = .ref a) ((mR.and .rep).and fun _ _ _ h => h) σ H2 _ (S2.imp fun G z => ⟨z.1, z.2.1, Rep.loc_iff.mp z.2.2⟩) (fun M3 d' y H3 p3 S3 => ?_) .nx
  obtain ⟨rfl, rfl⟩ := p3
  obtain ⟨G, S3, z1, z2, z3⟩ := S3
  obtain ⟨_, ob, ho, ws, eo, rw'⟩ := S3.cel a _ hm
  subst eo
  rw [Rep.int_iff] at z3
  subst z3
  refine ⟨a, _, z2.2, DPut.k (k := keyI i) ho (by rw [← RepK.length (f := keyI) rw']; exact Nat.lt_of_lt_of_le hl (by decide)), _, δ, hE, G, S3.set hm hw ⟨_, rfl, RepK.put keyI_inj rw' i z2.1.2⟩, z1, z2.1.1⟩
theorem sw_dputT (hu : X.A.units + 1 < cLine) (h1 : EV X b δ M e d) (h2 : EV X b δ M o (.loc (.ref a))) (h3 : EV X b δ M k (.tup (ks.map D.int))) (hm : M a = some (.dT kts)) (hw : Wr b a) (hl : kts.length < 100000) (hE : E.nx (um M a (.dT (putD kts ks d))) δ)
    (hs : swapsWith e (some (.Subscript o k apos)) pos.line X.env = pure false := by rfl) : SW X b δ M (.Assign [.Subscript o k apos] e pos) E := fun R mR σ H S kx => by
  refine ws_of (ps_dput hu pe_we pe_we pe_we hs) ?_
  refine h1 R mR σ H _ S (fun M1 d' v H1 p1 S1 => ?_) .nx
  obtain ⟨rfl, rfl⟩ := p1
  refine h2 (fun G => R G ∧ Rep X.K G d v) (mR.and .rep) σ H1 _ S1 (fun M2 d' x H2 p2 S2 => ?_) .nx
  obtain ⟨rfl, rfl⟩ := p2
  refine h3 (fun G => (R G ∧ Rep X.K G d v) ∧ x = .ref a) ((mR.and .rep).and fun _ _ _ h => h) σ H2 _ (S2.imp fun G z => ⟨z.1, z.2.1, Rep.loc_iff.mp z.2.2⟩) (fun M3 d' y H3 p3 S3 => ?_) .nx
  obtain ⟨rfl, rfl⟩ := p3
  obtain ⟨G, S3, z1, z2, z3⟩ := S3
  obtain ⟨_, ob, ho, ws, eo, rw'⟩ := S3.cel a _ hm
  subst eo
  obtain ⟨q, vs, rfl, hq, rs⟩ := Rep.tup_iff.mp z3
  have ev := rs.ints
  subst ev
  have hq' : H3 q = some (.tup ((keyT ks).map kV)) := by rw [keyT_vals]; exact S3.gh _ _ hq
  refine ⟨a, _, z2.2, DPut.t (k := keyT ks) ho hq' (by rw [← RepK.length (f := keyT) rw']; exact Nat.lt_of_lt_of_le hl (by decide)), _, δ, hE, G, S3.set hm hw ⟨_, rfl, RepK.put keyT_inj rw' ks z2.1.2⟩, z1, z2.1.1⟩
/-- o.pop(k), it is there -/
theorem ew_dpop (h1 : EV X b δ M o (.loc (.ref a))) (h2 : EV X b δ M k (.int i)) (hm : M a = some (.dI kvs)) (hw : Wr b a) (hl : lookD kvs i = some d) (hE : Φ (um M a (.dI (dropD kvs i))) d) (m : M1 X o "pop" apos k cpos := by exact ⟨rfl, rfl, rfl, rfl⟩) : EW X b δ M (.Call (.Attribute o "pop" apos) [k] [] cpos) Φ Ψ := fun R mR σ H Q S kk kx => by
  refine we_of (pe_dpop1 pe_we pe_we m) ?_
  refine h1 R mR σ H _ S (fun M1 d' x H1 p1 S1 => ?_) .nx
  obtain ⟨rfl, rfl⟩ := p1
  obtain ⟨G1, S1', z1⟩ := id S1
  refine ⟨a, Rep.loc_iff.mp z1.2.2, (IsKey.i (i := i) (.inl hm)).isD S1', ?_⟩
  refine h2 R mR σ H1 _ (S1.imp fun G z => ⟨z.1, z.2.1⟩) (fun M2 d' y H2 p2 S2 => ?_) .nx
  obtain ⟨rfl, rfl⟩ := p2
  obtain ⟨G, S2, z1, z2, z3⟩ := S2
  obtain ⟨_, ob, ho, ws, eo, rw'⟩ := S2.cel a _ hm
  subst eo
  obtain ⟨v, q1, q2⟩ := (RepK.look (f := keyI) keyI_inj rw' i).1 d hl
  exact ⟨ws, keyI i, v, ho, Rep.int_iff.mp z3, q1, kk _ _ _ _ hE ⟨G, S2.set hm hw ⟨_, rfl, RepK.drop (f := keyI) keyI_inj rw' i⟩, z1, z2, q2⟩⟩

/-! ### walks over a locked dict -/
theorem ev_lock {f : D → D} (hm : M a = some (.dI kvs)) (h : ∀ (b' : Bs) (od : Obj) (ws : List (Key × V)), (∀ p, Wr b' p ↔ Wr b p) → EV X b' δ (um M a (.dZ od kvs ws)) e d) : EV X b δ M e d := fun R mR σ H Q S kk kx => by
  refine we_of (pe_lock pe_we) ?_
  obtain ⟨G, S, z⟩ := S
  obtain ⟨ws, hp, hl⟩ := S.lock hm
  refine ⟨a, .dK ws, hp, trivial, fun od => ?_⟩
  refine h (lk b G H a od (.dK ws)) od ws (S.wr_lk hp) R mR σ _ _ ⟨G, hl od, z⟩ (fun M' d' v H' p S' => ?_) .nx
  obtain ⟨rfl, rfl⟩ := p
  obtain ⟨G', S', z'⟩ := S'
  obtain ⟨q1, q2⟩ := S.unlock hp S' um_same
  refine ⟨q1, kk _ _ _ _ ⟨rfl, rfl⟩ ⟨G', ?_, z'⟩⟩
  rw [um_um] at q2
  have eM : um M a (.dI kvs) = M := by
    funext x
    by_cases hx : x = a
    · subst hx; rw [um_same, hm]
    · rw [um_ne hx]
  rw [eM] at q2
  exact q2
theorem iw_keys {od : Obj} {ws : List (Key × V)} {Φ : Mp → (Mp → Prop) → List D → Prop} (h : EV X b δ M o (.loc (.ref a))) (hm : M a = some (.dZ od kvs ws)) (hΦ : Φ M (fun M' => M' a = some (.dZ od kvs ws)) (kvs.map fun kv => .int kv.1)) : IW X b δ M tg o Φ Ψ := fun R mR σ H Q S k kx => by
  refine wi_of (pi_keys pe_we) ?_
  refine h R mR σ H _ S (fun M1 d v H1 p S1 => ?_) .nx
  obtain ⟨rfl, rfl⟩ := p
  obtain ⟨G, S1, z1, z2, z3⟩ := S1
  obtain ⟨_, ob, ho, eo, rw'⟩ := S1.cel a _ hm
  subst eo
  refine ⟨a, od, Rep.loc_iff.mp z3, .inl ⟨ws, ho, ?_⟩⟩
  refine k _ _ _ H1 _ R hΦ mR (fun G z => z) ⟨G, S1, z1, z2⟩ ?_
  refine ⟨_, _, by rw [List.length_map, RepK.length (f := keyI) rw']; exact walk_keys (d := a) (o := od) (kvs := ws), ?ga, ?gb⟩
  case ga =>
    intro M' H' hc ⟨G, S', z⟩
    obtain ⟨_, ob, ho, eo, _⟩ := S'.cel a _ hc
    subst eo
    exact ho
  case gb =>
    intro i d x M' R' H' H'' mR' hi hc ⟨G, S', r', z⟩ y
    obtain ⟨rfl, kk, vv, hk, rfl⟩ := y
    refine ⟨G, S', r', z, ?_⟩
    rw [List.getElem?_map] at hi
    cases q : kvs[i]? with
    | none => rw [q] at hi; cases hi
    | some kv =>
      rw [q] at hi
      cases hi
      obtain ⟨v, q1, _⟩ := RepK.get (f := keyI) rw' (k := kv.1) (d := kv.2) q
      rw [hk] at q1
      cases q1
      exact Rep.int_iff.mpr rfl
theorem iw_vals {od : Obj} {ws : List (Key × V)} {Φ : Mp → (Mp → Prop) → List D → Prop} (h : EV X b δ M o (.loc (.ref a))) (hm : M a = some (.dZ od kvs ws)) (hΦ : Φ M (fun M' => M' a = some (.dZ od kvs ws)) (kvs.map fun kv => kv.2)) (hbase : attributeBase o "values" X.env (eval o X.env) = eval o X.env := by rfl) (hline : (apos.endLine == cpos.line) = true := by rfl) : IW X b δ M tg (.Call (.Attribute o "values" apos) [] [] cpos) Φ Ψ := fun R mR σ H Q S k kx => by
  refine wi_of (pi_values pe_we hbase hline) ?_
  refine h R mR σ H _ S (fun M1 d v H1 p S1 => ?_) .nx
  obtain ⟨rfl, rfl⟩ := p
  obtain ⟨G, S1, z1, z2, z3⟩ := S1
  obtain ⟨_, ob, ho, eo, rw'⟩ := S1.cel a _ hm
  subst eo
  refine ⟨a, od, ws, Rep.loc_iff.mp z3, ho, ?_⟩
  refine k _ _ _ H1 _ R hΦ mR (fun G z => z) ⟨G, S1, z1, z2⟩ ?_
  refine ⟨_, _, by rw [List.length_map, RepK.length (f := keyI) rw']; exact walk_values (d := a) (o := od) (kvs := ws), ?ga, ?gb⟩
  case ga =>
    intro M' H' hc ⟨G, S', z⟩
    obtain ⟨_, ob, ho, eo, _⟩ := S'.cel a _ hc
    subst eo
    exact ho
  case gb =>
    intro i d x M' R' H' H'' mR' hi hc ⟨G, S', r', z⟩ y
    obtain ⟨rfl, kk, hk⟩ := y
    obtain ⟨_, ob, ho, eo, rw2⟩ := S'.cel a _ hc
    refine ⟨G, S', r', z, ?_⟩
    rw [List.getElem?_map] at hi
    cases q : kvs[i]? with
    | none => rw [q] at hi; cases hi
    | some kv =>
      rw [q] at hi
      cases hi
      obtain ⟨v, q1, rv⟩ := RepK.get (f := keyI) rw2 (k := kv.1) (d := kv.2) q
      rw [hk] at q1
      cases q1
      exact rv
theorem iw_items {elts : List Expr} {kk : Nat} {tpos : Pos} {od : Obj} {ws : List (Key × V)} {Φ : Mp → (Mp → Prop) → List D → Prop} (h : EV X b δ M o (.loc (.ref a))) (hm : M a = some (.dZ od kvs ws)) (hΦ : Φ M (fun M' => M' a = some (.dZ od kvs ws)) (kvs.map fun kv => .tup [.int kv.1, kv.2])) (hbase : attributeBase o "items" X.env (eval o X.env) = eval o X.env := by rfl) (hline : (apos.endLine == cpos.line) = true := by rfl) : IW X b δ M (.Tuple elts kk tpos) (.Call (.Attribute o "items" apos) [] [] cpos) Φ Ψ := fun R mR σ H Q S k kx => by
  refine wi_of (pi_items pe_we hbase hline) ?_
  refine h R mR σ H _ S (fun M1 d v H1 p S1 => ?_) .nx
  obtain ⟨rfl, rfl⟩ := p
  obtain ⟨G, S1, z1, z2, z3⟩ := S1
  obtain ⟨_, ob, ho, eo, rw'⟩ := S1.cel a _ hm
  subst eo
  refine ⟨a, od, ws, Rep.loc_iff.mp z3, ho, ?_⟩
  refine k _ _ _ H1 _ R hΦ mR (fun G z => z) ⟨G, S1, z1, z2⟩ ?_
  refine ⟨_, _, by rw [List.length_map, RepK.length (f := keyI) rw']; exact walk_items (d := a) (o := od) (kvs := ws), ?ga, ?gb⟩
  case ga =>
    intro M' H' hc ⟨G, S', z⟩
    obtain ⟨_, ob, ho, eo, _⟩ := S'.cel a _ hc
    subst eo
    exact ho
  case gb =>
    intro i d x M' R' H' H'' mR' hi hc ⟨G, S', r', z⟩ y
    obtain ⟨T, x1, x2, rfl, hT, rfl, hx1, hx2⟩ := y
    obtain ⟨_, ob, ho, eo, rw2⟩ := S'.cel a _ hc
    rw [List.getElem?_map] at hi
    cases q : kvs[i]? with
    | none => rw [q] at hi; cases hi
    | some kv =>
      rw [q] at hi
      cases hi
      obtain ⟨v, q1, rv⟩ := RepK.get (f := keyI) rw2 (k := kv.1) (d := kv.2) q
      have hx1 : Option.map (fun kv => kV kv.1) ws[i]? = some x1 := hx1
      have hx2 : Option.map Prod.snd ws[i]? = some x2 := hx2
      rw [q1] at hx1 hx2
      cases hx1; cases hx2
      obtain ⟨S2, sg⟩ := S'.frz hT (.tup [.int kv.1, v])
      exact ⟨_, S2, mR' _ _ sg r', mR _ _ sg z, Rep.tup_iff.mpr ⟨T, _, rfl, upd_same, .cons (Rep.int_iff.mpr rfl) (.cons (rv.mono sg) .nil)⟩⟩
end
end D4
end

section
set_option maxRecDepth 100000
set_option maxHeartbeats 4000000
/-! D4e: calls of built-ins, methods, own defs, instances, comprehensions, raise. -/
namespace D4
open PySem L2

section
variable {X : Cx} {b : Bs} {δ : Od} {M : Mp} {e o k e1 e2 tg : Expr} {es : List Expr} {Φ : Mp → D → Prop} {Ψ : Xs} {d d1 d2 : D} {ds : List D} {pos apos cpos p : Pos} {a : Addr} {x : Str} {id T : String}
theorem cw_of {f : Value} {r : List V → Hp → VK → Prop} (hr : CallR X f r)
    (h : ∀ (R : Hp → Prop), Mono R → ∀ (xs : List V) (H G : Hp) (Q : VK), SO X.K b M G H → R G → Reps X.K G ds xs → (∀ M' d v H', Φ M' d → SS X.K b M' (fun G => R G ∧ Rep X.K G d v) H' → Q v H') → r xs H Q) : CW X b f M ds Φ := fun R mR xs H Q S k => by
  obtain ⟨G, S, z1, z2⟩ := S
  exact wc_of hr (h R mR xs H G Q S z1 z2 k)
theorem ew_cb (hg : Gl X x) (hm : X.mg x = none) (hv : bootBuiltins x = some (.builtin id)) (h : EWs X b δ M (e :: es) (fun M1 ds => CW X b (.builtin id) M1 ds Φ) Ψ) (hn : x ≠ "__name__" := by decide) (hdb : (x == ("__debug__" : Str)) = false := by decide)
    (he : starEach (e :: es) X.env = (false, eval e X.env) :: starEach es X.env := by rfl) (hpl : (backTo pos (starEach es X.env)).any (·.1) = false := by rfl) : EW X b δ M (.Call (.Name x p) (e :: es) [] pos) Φ Ψ := fun R mR σ H Q S kk kx => by
  refine we_of (pe_callB (wc_op (f := .builtin id)) hg hm hv pa_wa hn hdb he hpl) ?_
  refine h R mR σ H _ S (fun M1 ds xs H1 p1 S1 => ?_) kx
  exact p1 (RE X.K σ δ R) (Mono.env.and mR) xs H1 Q (S1.imp fun G z => ⟨⟨z.1, z.2.1⟩, z.2.2⟩) fun M3 d v H3 p S3 => kk M3 d v H3 p (S3.imp fun G z => ⟨z.1.1, z.1.2, z.2⟩)
theorem ew_ct (hg : Gl X x) (hm : X.mg x = none) (hv : bootBuiltins x = some (.type T)) (h : EWs X b δ M (e :: es) (fun M1 ds => CW X b (.type T) M1 ds Φ) Ψ) (hn : x ≠ "__name__" := by decide) (hdb : (x == ("__debug__" : Str)) = false := by decide)
    (he : starEach (e :: es) X.env = (false, eval e X.env) :: starEach es X.env := by rfl) (hpl : (backTo pos (starEach es X.env)).any (·.1) = false := by rfl) : EW X b δ M (.Call (.Name x p) (e :: es) [] pos) Φ Ψ := fun R mR σ H Q S kk kx => by
  refine we_of (pe_callTy (wc_op (f := .type T)) hg hm hv pa_wa hn hdb he hpl) ?_
  refine h R mR σ H _ S (fun M1 ds xs H1 p1 S1 => ?_) kx
  exact p1 (RE X.K σ δ R) (Mono.env.and mR) xs H1 Q (S1.imp fun G z => ⟨⟨z.1, z.2.1⟩, z.2.2⟩) fun M3 d v H3 p S3 => kk M3 d v H3 p (S3.imp fun G z => ⟨z.1.1, z.1.2, z.2⟩)
theorem ev_cb (hg : Gl X x) (hm : X.mg x = none) (hv : bootBuiltins x = some (.builtin id)) (h : EVs X b δ M (e :: es) ds) (hc : CW X b (.builtin id) M ds (One M d)) (hn : x ≠ "__name__" := by decide) (hdb : (x == ("__debug__" : Str)) = false := by decide)
    (he : starEach (e :: es) X.env = (false, eval e X.env) :: starEach es X.env := by rfl) (hpl : (backTo pos (starEach es X.env)).any (·.1) = false := by rfl) : EV X b δ M (.Call (.Name x p) (e :: es) [] pos) d := ew_cb hg hm hv (h.to hc) hn hdb he hpl
theorem ev_ct (hg : Gl X x) (hm : X.mg x = none) (hv : bootBuiltins x = some (.type T)) (h : EVs X b δ M (e :: es) ds) (hc : CW X b (.type T) M ds (One M d)) (hn : x ≠ "__name__" := by decide) (hdb : (x == ("__debug__" : Str)) = false := by decide)
    (he : starEach (e :: es) X.env = (false, eval e X.env) :: starEach es X.env := by rfl) (hpl : (backTo pos (starEach es X.env)).any (·.1) = false := by rfl) : EV X b δ M (.Call (.Name x p) (e :: es) [] pos) d := ew_ct hg hm hv (h.to hc) hn hdb he hpl

/-! ### the built-ins -/
theorem reps1 {K : Fg} {G : Hp} {xs : List V} (r : Reps K G [d1] xs) : ∃ v, xs = [v] ∧ Rep K G d1 v := by
  obtain ⟨v, r', e, h, t⟩ := r.cons_inv
  rw [t.nil_inv] at e
  exact ⟨v, e, h⟩
theorem reps2 {K : Fg} {G : Hp} {xs : List V} (r : Reps K G [d1, d2] xs) : ∃ v w, xs = [v, w] ∧ Rep K G d1 v ∧ Rep K G d2 w := by
  obtain ⟨v, r', e, h, t⟩ := r.cons_inv
  obtain ⟨w, e2, h2⟩ := reps1 t
  rw [e2] at e
  exact ⟨v, w, e, h, h2⟩
theorem c_len_lst {xs : List D} : CW X b (.builtin "len") M [.lst xs] (One M (.int xs.length)) := cw_of call_len_seq fun R mR vs H G Q S z r k => by
  obtain ⟨v, rfl, h⟩ := reps1 r
  obtain ⟨a, ws, rfl, ha, rs⟩ := Rep.lst_iff.mp h
  exact ⟨a, ws, rfl, .inl (SqL.of (S.gh _ _ ha)), k _ _ _ H ⟨rfl, rfl⟩ ⟨G, S, z, Rep.int_iff.mpr (by rw [rs.length])⟩⟩
theorem c_len_tup {xs : List D} : CW X b (.builtin "len") M [.tup xs] (One M (.int xs.length)) := cw_of call_len_seq fun R mR vs H G Q S z r k => by
  obtain ⟨v, rfl, h⟩ := reps1 r
  obtain ⟨a, ws, rfl, ha, rs⟩ := Rep.tup_iff.mp h
  exact ⟨a, ws, rfl, .inr (SqT.of (S.gh _ _ ha)), k _ _ _ H ⟨rfl, rfl⟩ ⟨G, S, z, Rep.int_iff.mpr (by rw [rs.length])⟩⟩
theorem c_len_scr {ns : List Int} : CW X b (.builtin "len") M [.scr ns] (One M (.int ns.length)) := cw_of call_len_seq fun R mR vs H G Q S z r k => by
  obtain ⟨v, rfl, h⟩ := reps1 r
  obtain ⟨a, rfl, ha⟩ := Rep.scr_iff.mp h
  exact ⟨a, _, rfl, .inl (S.gh.seq ha), k _ _ _ H ⟨rfl, rfl⟩ ⟨G, S, z, Rep.int_iff.mpr (by rw [List.length_map])⟩⟩
theorem c_len_cell {xs : List D} (hm : M a = some (.lst xs)) : CW X b (.builtin "len") M [.loc (.ref a)] (One M (.int xs.length)) := cw_of call_len_seq fun R mR vs H G Q S z r k => by
  obtain ⟨v, rfl, h⟩ := reps1 r
  rw [Rep.loc_iff] at h
  subst h
  obtain ⟨_, o, ho, ws, rfl, rs⟩ := S.cel a _ hm
  exact ⟨a, ws, rfl, .inl (SqL.of ho), k _ _ _ H ⟨rfl, rfl⟩ ⟨G, S, z, Rep.int_iff.mpr (by rw [rs.length])⟩⟩
theorem c_len_str {z : Str} (hl : z.length ≤ 100000) : CW X b (.builtin "len") M [.str z] (One M (.int z.length)) := cw_of call_len_str fun R mR vs H G Q S z r k => by
  obtain ⟨v, rfl, h⟩ := reps1 r
  exact ⟨_, by rw [Rep.str_iff.mp h], Nat.le_trans hl (by decide), k _ _ _ H ⟨rfl, rfl⟩ ⟨G, S, z, Rep.int_iff.mpr rfl⟩⟩
theorem call_lenR : CallR X (.builtin "len") (fun xs H Q => ∃ a kvs, xs = [V.ref a] ∧ Rd H a (.dK kvs) ∧ Q (.int kvs.length) H) := by
  intro pins s σ H xs us Q I r h
  obtain ⟨a, kvs, rfl, ha, q⟩ := h
  obtain ⟨u, rfl, ru⟩ := vals1 r
  cases ru
  exact d_len I ha fun t s' I' => ⟨.int kvs.length, H, I', ⟨t, rfl⟩, q⟩
theorem c_len_dk {kvs : List (Int × D)} (hm : DkI M a kvs) : CW X b (.builtin "len") M [.loc (.ref a)] (One M (.int kvs.length)) := cw_of call_lenR fun R mR vs H G Q S z r k => by
  obtain ⟨v, rfl, h⟩ := reps1 r
  obtain ⟨ws, h1, h2⟩ := S.dk hm
  exact ⟨a, ws, by rw [Rep.loc_iff.mp h], h1, k _ _ _ H ⟨rfl, rfl⟩ ⟨G, S, z, Rep.int_iff.mpr (by rw [RepK.length (f := keyI) h2])⟩⟩
/-- list(xs): a new list, frozen; or one that may change -/
theorem c_list_lst {xs : List D} : CW X b (.type "list") M [.lst xs] (One M (.lst xs)) := cw_of call_list_of fun R mR vs H G Q S z r k => by
  obtain ⟨v, rfl, h⟩ := reps1 r
  obtain ⟨a, ws, rfl, ha, rs⟩ := Rep.lst_iff.mp h
  refine ⟨a, ws, rfl, .inl (SqL.of (S.gh _ _ ha)), fun l hl => ?_⟩
  obtain ⟨S2, sg⟩ := S.frz hl (.lst ws)
  exact k _ _ _ _ ⟨rfl, rfl⟩ ⟨_, S2, mR _ _ sg z, Rep.lst_iff.mpr ⟨l, ws, rfl, upd_same, rs.mono sg⟩⟩
theorem c_list_lstN {xs : List D} (h : ∀ p, M p = none → Nw b p → Φ (um M p (.lst xs)) (.loc (.ref p))) : CW X b (.type "list") M [.lst xs] Φ := cw_of call_list_of fun R mR vs H G Q S z r k => by
  obtain ⟨v, rfl, h'⟩ := reps1 r
  obtain ⟨a, ws, rfl, ha, rs⟩ := Rep.lst_iff.mp h'
  refine ⟨a, ws, rfl, .inl (SqL.of (S.gh _ _ ha)), fun l hl => ?_⟩
  obtain ⟨n1, n2, n3⟩ := S.new hl
  exact k _ _ _ _ (h l n1 n2) ⟨G, S.cell (c := .lst xs) hl ⟨ws, rfl, rs⟩, z, Rep.loc_iff.mpr rfl⟩
theorem c_list_cellN {xs : List D} (hm : M a = some (.lst xs)) (h : ∀ p, M p = none → Nw b p → Φ (um M p (.lst xs)) (.loc (.ref p))) : CW X b (.type "list") M [.loc (.ref a)] Φ := cw_of call_list_of fun R mR vs H G Q S z r k => by
  obtain ⟨v, rfl, h'⟩ := reps1 r
  rw [Rep.loc_iff] at h'
  subst h'
  obtain ⟨_, o, ho, ws, rfl, rs⟩ := S.cel a _ hm
  refine ⟨a, ws, rfl, .inl (SqL.of ho), fun l hl => ?_⟩
  obtain ⟨n1, n2, n3⟩ := S.new hl
  exact k _ _ _ _ (h l n1 n2) ⟨G, S.cell (c := .lst xs) hl ⟨ws, rfl, rs⟩, z, Rep.loc_iff.mpr rfl⟩
theorem c_list_cell {xs : List D} (hm : M a = some (.lst xs)) : CW X b (.type "list") M [.loc (.ref a)] (One M (.lst xs)) := cw_of call_list_of fun R mR vs H G Q S z r k => by
  obtain ⟨v, rfl, h'⟩ := reps1 r
  rw [Rep.loc_iff] at h'
  subst h'
  obtain ⟨_, o, ho, ws, rfl, rs⟩ := S.cel a _ hm
  refine ⟨a, ws, rfl, .inl (SqL.of ho), fun l hl => ?_⟩
  obtain ⟨S2, sg⟩ := S.frz hl (.lst ws)
  exact k _ _ _ _ ⟨rfl, rfl⟩ ⟨_, S2, mR _ _ sg z, Rep.lst_iff.mpr ⟨l, ws, rfl, upd_same, rs.mono sg⟩⟩
theorem c_tuple_lst {xs : List D} : CW X b (.type "tuple") M [.lst xs] (One M (.tup xs)) := cw_of call_tuple_of fun R mR vs H G Q S z r k => by
  obtain ⟨v, rfl, h⟩ := reps1 r
  obtain ⟨a, ws, rfl, ha, rs⟩ := Rep.lst_iff.mp h
  refine ⟨a, ws, rfl, .inl ⟨SqL.of (S.gh _ _ ha), fun l hl => ?_⟩⟩
  obtain ⟨S2, sg⟩ := S.frz hl (.tup ws)
  exact k _ _ _ _ ⟨rfl, rfl⟩ ⟨_, S2, mR _ _ sg z, Rep.tup_iff.mpr ⟨l, ws, rfl, upd_same, rs.mono sg⟩⟩
theorem call_dictC : CallR X (.type "dict") (fun xs H Q => ∃ a kvs, xs = [V.ref a] ∧ Rd H a (.dK kvs) ∧ ∀ p, H p = none → Q (.ref p) (upd H p (.dK kvs))) := by
  intro pins s σ H xs us Q I r h
  obtain ⟨a, kvs, rfl, ha, q⟩ := h
  obtain ⟨u, rfl, ru⟩ := vals1 r
  cases ru
  exact d_copyOf I ha fun p s' hp I' => ⟨.ref p, _, I', rfl, q p hp⟩
theorem c_dict {kvs : List (Int × D)} (hm : DkI M a kvs) (h : ∀ p, M p = none → Nw b p → Φ (um M p (.dI kvs)) (.loc (.ref p))) : CW X b (.type "dict") M [.loc (.ref a)] Φ := cw_of call_dictC fun R mR vs H G Q S z r k => by
  obtain ⟨v, rfl, h'⟩ := reps1 r
  obtain ⟨ws, h1, h2⟩ := S.dk hm
  refine ⟨a, ws, by rw [Rep.loc_iff.mp h'], h1, fun l hl => ?_⟩
  obtain ⟨n1, n2, n3⟩ := S.new hl
  exact k _ _ _ _ (h l n1 n2) ⟨G, S.cell (c := .dI kvs) hl ⟨ws, rfl, h2⟩, z, Rep.loc_iff.mpr rfl⟩
theorem c_max {ns : List Int} {m : Int} (hc : X.calm = true) (h1 : m ∈ ns) (h2 : ∀ y ∈ ns, y ≤ m) : CW X b (.builtin "max") M [.lst (ns.map D.int)] (One M (.int m)) := cw_of (cr_max hc) fun R mR vs H G Q S z r k => by
  obtain ⟨v, rfl, h⟩ := reps1 r
  obtain ⟨a, ws, rfl, ha, rs⟩ := Rep.lst_iff.mp h
  have e := rs.ints
  subst e
  refine ⟨a, ns, rfl, SqL.of (S.gh _ _ ha), List.length_pos_of_mem h1, fun m' q1 q2 => ?_⟩
  have em : m' = m := Int.le_antisymm (h2 _ q1) (q2 _ h1)
  subst em
  exact k _ _ _ H ⟨rfl, rfl⟩ ⟨G, S, z, Rep.int_iff.mpr rfl⟩
theorem c_min {ns : List Int} {m : Int} (hc : X.calm = true) (h1 : m ∈ ns) (h2 : ∀ y ∈ ns, m ≤ y) : CW X b (.builtin "min") M [.lst (ns.map D.int)] (One M (.int m)) := cw_of (cr_min hc) fun R mR vs H G Q S z r k => by
  obtain ⟨v, rfl, h⟩ := reps1 r
  obtain ⟨a, ws, rfl, ha, rs⟩ := Rep.lst_iff.mp h
  have e := rs.ints
  subst e
  refine ⟨a, ns, rfl, SqL.of (S.gh _ _ ha), List.length_pos_of_mem h1, fun m' q1 q2 => ?_⟩
  have em : m' = m := Int.le_antisymm (q2 _ h1) (h2 _ q1)
  subst em
  exact k _ _ _ H ⟨rfl, rfl⟩ ⟨G, S, z, Rep.int_iff.mpr rfl⟩
theorem c_max2 {i j : Int} (hc : X.calm = true) : CW X b (.builtin "max") M [.int i, .int j] (One M (.int (if j > i then j else i))) := cw_of (call_max2 hc) fun R mR vs H G Q S z r k => by
  obtain ⟨v, w, rfl, h, h'⟩ := reps2 r
  exact ⟨i, j, by rw [Rep.int_iff.mp h, Rep.int_iff.mp h'], k _ _ _ H ⟨rfl, rfl⟩ ⟨G, S, z, Rep.int_iff.mpr rfl⟩⟩
theorem c_min2 {i j : Int} (hc : X.calm = true) : CW X b (.builtin "min") M [.int i, .int j] (One M (.int (if j < i then j else i))) := cw_of (call_min2 hc) fun R mR vs H G Q S z r k => by
  obtain ⟨v, w, rfl, h, h'⟩ := reps2 r
  exact ⟨i, j, by rw [Rep.int_iff.mp h, Rep.int_iff.mp h'], k _ _ _ H ⟨rfl, rfl⟩ ⟨G, S, z, Rep.int_iff.mpr rfl⟩⟩
theorem c_all {bs : List Bool} (hc : X.calm = true) : CW X b (.builtin "all") M [.lst (bs.map D.bl)] (One M (.bl (bs.all fun c => c))) := cw_of (cr_all hc) fun R mR vs H G Q S z r k => by
  obtain ⟨v, rfl, h⟩ := reps1 r
  obtain ⟨a, ws, rfl, ha, rs⟩ := Rep.lst_iff.mp h
  have e := rs.bls
  subst e
  exact ⟨a, bs, rfl, SqL.of (S.gh _ _ ha), k _ _ _ H ⟨rfl, rfl⟩ ⟨G, S, z, Rep.bl_iff.mpr rfl⟩⟩
theorem c_int_bl {c : Bool} : CW X b (.type "int") M [.bl c] (One M (.int (if c then 1 else 0))) := cw_of call_int1 fun R mR vs H G Q S z r k => by
  obtain ⟨v, rfl, h⟩ := reps1 r
  exact .inr ⟨c, by rw [Rep.bl_iff.mp h], k _ _ _ H ⟨rfl, rfl⟩ ⟨G, S, z, Rep.int_iff.mpr rfl⟩⟩
theorem c_str_int {i : Int} (hl : i.natAbs.log2 < 1920) : CW X b (.type "str") M [.int i] (One M (.str (toString i))) := cw_of call_str_int fun R mR vs H G Q S z r k => by
  obtain ⟨v, rfl, h⟩ := reps1 r
  exact ⟨i, by rw [Rep.int_iff.mp h], hl, k _ _ _ H ⟨rfl, rfl⟩ ⟨G, S, z, Rep.str_iff.mpr rfl⟩⟩
/-- sorted(xs) of ints -/
theorem pw_unique : ∀ {l m : List Int}, l.Perm m → l.Pairwise (· ≤ ·) → m.Pairwise (· ≤ ·) → l = m := fun {l m} hp h1 h2 => List.Perm.eq_of_pairwise (fun a b _ _ h h' => Int.le_antisymm h h') h1 h2 hp
theorem c_sorted {ns ms : List Int} (hp : ms.Perm ns) (hs : ms.Pairwise (· ≤ ·)) (hl : ns.length < 64) : CW X b (.builtin "sorted") M [.lst (ns.map D.int)] (One M (.lst (ms.map D.int))) := cw_of cr_sorted fun R mR vs H G Q S z r k => by
  obtain ⟨v, rfl, h⟩ := reps1 r
  obtain ⟨a, ws, rfl, ha, rs⟩ := Rep.lst_iff.mp h
  have e := rs.ints
  subst e
  refine ⟨a, ns, rfl, SqL.of (S.gh _ _ ha), hl, fun ns' l q1 q2 hn => ?_⟩
  obtain ⟨S2, sg⟩ := S.frz hn (.lst (ns'.map V.int))
  have e : ns' = ms := pw_unique (q1.trans hp.symm) q2 hs
  subst e
  exact k _ _ _ _ ⟨rfl, rfl⟩ ⟨_, S2, mR _ _ sg z, Rep.lst_iff.mpr ⟨l, _, rfl, upd_same, .of_ints ns'⟩⟩
theorem c_sortedD {kvs : List (Int × D)} {ms : List Int} (hc : X.calm = true) (hm : DkI M a kvs) (hp : ms.Perm (kvs.map (·.1))) (hs : ms.Pairwise (· ≤ ·)) (hl : kvs.length < 64) : CW X b (.builtin "sorted") M [.loc (.ref a)] (One M (.lst (ms.map D.int))) := cw_of (call_sortedDI hc) fun R mR vs H G Q S z r k => by
  obtain ⟨v, rfl, h⟩ := reps1 r
  obtain ⟨ws, h1, h2⟩ := S.dk hm
  refine ⟨a, ws, kvs.map (fun kv : Int × D => kv.1), by rw [Rep.loc_iff.mp h], h1, (RepK.keys (f := keyI) h2 : ws.map (·.1) = (kvs.map (fun kv : Int × D => kv.1)).map keyI), by rw [List.length_map]; exact hl, fun ns' l q1 q2 hn => ?_⟩
  obtain ⟨S2, sg⟩ := S.frz hn (.lst (ns'.map V.int))
  have e : ns' = ms := pw_unique (q1.trans hp.symm) q2 hs
  subst e
  exact k _ _ _ _ ⟨rfl, rfl⟩ ⟨_, S2, mR _ _ sg z, Rep.lst_iff.mpr ⟨l, _, rfl, upd_same, .of_ints ns'⟩⟩

/-! ### methods of built-in types -/
theorem ew_bm (pa : PlainAttrs T) (slot : Slot T x id) (hty : typeOf (.builtin id) = pure (.type "method_descriptor"))
    (h : EW X b δ M o (fun M1 d1 => (∀ G H v, SO X.K b M1 G H → Rep X.K G d1 v → tyV X.K T v H) ∧ EWs X b δ M1 (e :: es) (fun M2 ds => MW X b T id M2 d1 ds Φ) Ψ) Ψ)
    (hbase : attributeBase o x X.env (eval o X.env) = eval o X.env := by rfl)
    (hfew : ((backTo cpos (starEach (e :: es) X.env)).all (fun x => !x.1) && (backToKw cpos (keywordEach [] X.env)).all (fun x => x.1.isSome)
      && decide ((e :: es).length + ([] : List Keyword).length + (if ([] : List Keyword).isEmpty then 0 else 1) < 30)) = true := by rfl)
    (hline : (apos.endLine == cpos.line) = true := by rfl) (hs : starEach (e :: es) X.env = (false, eval e X.env) :: starEach es X.env := by rfl) (hplain : (backTo cpos (starEach es X.env)).any (·.1) = false := by rfl) : EW X b δ M (.Call (.Attribute o x apos) (e :: es) [] cpos) Φ Ψ := fun R mR σ H Q S kk kx => by
  refine we_of (pe_bm pa slot hty (wm_op (id := id)) pe_we pa_wa hbase hfew hline hs hplain) ?_
  refine h R mR σ H _ S (fun M1 d1 v H1 p1 S1 => ?_) kx
  have S1c := S1
  obtain ⟨G1, S1', z1⟩ := S1c
  refine ⟨p1.1 _ _ _ S1' z1.2.2, ?_⟩
  refine p1.2 (fun G => R G ∧ Rep X.K G d1 v) (mR.and .rep) σ H1 _ S1 (fun M2 ds xs H2 p2 S2 => ?_) kx.and
  exact p2 (RE X.K σ δ R) (Mono.env.and mR) v xs H2 Q (S2.imp fun G z => ⟨⟨z.1, z.2.1.1⟩, z.2.1.2, z.2.2⟩) fun M3 d v H3 p S3 => kk M3 d v H3 p (S3.imp fun G z => ⟨z.1.1, z.1.2, z.2⟩)
theorem mw_of {r : V → List V → Hp → VK → Prop} (hr : MtR X id r)
    (h : ∀ (R : Hp → Prop), Mono R → ∀ (x : V) (xs : List V) (H G : Hp) (Q : VK), SO X.K b M G H → R G → Rep X.K G d1 x → Reps X.K G ds xs → (∀ M' d v H', Φ M' d → SS X.K b M' (fun G => R G ∧ Rep X.K G d v) H' → Q v H') → r x xs H Q) : MW X b T id M d1 ds Φ := fun R mR x xs H Q S k => by
  obtain ⟨G, S, z1, z2, z3⟩ := S
  exact wm_of hr (h R mR x xs H G Q S z1 z2 z3 k)
/-- xs.append(e), xs a cell -/
theorem ew_append {xs : List D} (h1 : EV X b δ M o (.loc (.ref a))) (hm : M a = some (.lst xs)) (hw : Wr b a) (hl : xs.length < 100000) (h2 : EW X b δ M e (fun M2 d => M2 a = some (.lst xs) ∧ Φ (um M2 a (.lst (xs ++ [d]))) .non) Ψ)
    (hbase : attributeBase o "append" X.env (eval o X.env) = eval o X.env := by rfl)
    (hfew : ((backTo cpos (starEach [e] X.env)).all (fun x => !x.1) && (backToKw cpos (keywordEach [] X.env)).all (fun x => x.1.isSome)
      && decide (([e] : List Expr).length + ([] : List Keyword).length + (if ([] : List Keyword).isEmpty then 0 else 1) < 30)) = true := by rfl)
    (hline : (apos.endLine == cpos.line) = true := by rfl) (hs : starEach [e] X.env = (false, eval e X.env) :: starEach [] X.env := by rfl) (hplain : (backTo cpos (starEach [] X.env)).any (·.1) = false := by rfl) : EW X b δ M (.Call (.Attribute o "append" apos) [e] [] cpos) Φ Ψ := by
  refine ew_bm PySem.F.plainAttrs_list PySem.F.slot_list_append PySem.F.type_list_append (h1.to ⟨fun G H v S r => ?_, ?_⟩) hbase hfew hline hs hplain
  · rw [Rep.loc_iff] at r
    subst r
    obtain ⟨_, o, ho, ws, rfl, rs⟩ := S.cel a _ hm
    exact .inl ⟨rfl, _, SqL.of ho⟩
  · refine ews_cons (h2.imp fun M2 d p2 => ?_) hs
    refine ews_nil (mw_of mt_append fun R mR v vs H G Q S z r rs k => ?_)
    rw [Rep.loc_iff] at r
    subst r
    obtain ⟨w, rfl, rw'⟩ := reps1 rs
    obtain ⟨_, o, ho, ws, rfl, rr⟩ := S.cel a _ p2.1
    refine ⟨a, ws, w, rfl, rfl, ho, by rw [← rr.length]; exact Nat.lt_of_lt_of_le hl (by decide), ?_⟩
    exact k _ _ _ _ p2.2 ⟨G, S.set p2.1 hw ⟨_, rfl, rr.append (.cons rw' .nil)⟩, z, Rep.non_iff.mpr rfl⟩
end
end D4
end

section
set_option maxRecDepth 100000
set_option maxHeartbeats 4000000
/-! D4f: own defs, instances, comprehensions, raise, try. -/
namespace D4
open PySem L2

/-! ### a def's promise over data -/
/-- what a def does: what it may change, what is new, the cells and the arguments at its call; what is wanted behind; what of the exceptions -/
abbrev FSp := (Addr → Prop) → (Addr → Prop) → Mp → List D → (Mp → D → Prop) → Xs → Prop
def spD (K : Fg) (S : FSp) : Sp := fun vs H Q E => ∃ G M ds own Φ Ψ, SO K ⟨G, H, own⟩ M G H ∧ Reps K G ds vs ∧ S own (fun p => H p = none) M ds Φ Ψ ∧
  (∀ M' d v H', Φ M' d → SS K ⟨G, H, own⟩ M' (fun G => Rep K G d v) H' → Q v H') ∧ (∀ cls M' H', Ψ cls M' → SS K ⟨G, H, own⟩ M' (fun _ => True) H' → E cls none H')
/-- a def that changes nothing that stood, with one value -/
def PureS (P : Mp → List D → D → Prop) : FSp := fun _ _ M ds Φ _ => ∃ d, P M ds d ∧ Φ M d
/-- .. or one exception -/
def PureX (P : Mp → List D → D ⊕ Value → Prop) : FSp := fun _ _ M ds Φ Ψ => ∃ r, P M ds r ∧ match r with
  | .inl d => Φ M d
  | .inr c => Ψ c M

section
variable {X : Cx} {CX : CXT} {k : Nat} {f C : Addr} {fd : FuncData} {ps : List Str} {sp : Sp} {E : L2.St → XK} {x m : Str} {p pos apos : Pos} {e o : Expr} {es : List Expr} {ta : TE} {t : TA}
def tMethS (C : Addr) (m : Str) (sp : Sp) (E : L2.St → XK) (ta : TE) (t : TA) : TE := fun σ H Q => ta σ H fun x H1 => ∃ a dx fs, x = .ref a ∧ H1 a = some (.ins C dx fs) ∧ fs.lookup m = none ∧ t σ H1 fun vs H2 => sp (x :: vs) H2 Q (E σ)
theorem pe_methSx {pl : Sem Bool} (he : PE X o ta) (c : Cls X.K C) (hm : Meth X.K C m f) (F : FnOk X.prog X.w X.K X.mg X.base CX k f fd ps sp) (hr : Room k X.A) (hb : Binds X.K fd ps []) (hx : ∀ σ, PassesAt CX X σ (E σ)) (ha : PA X (e :: es) t)
    (hst : starEach (e :: es) X.env = (false, eval e X.env) :: starEach es X.env := by rfl) (hpl : (backTo pos (starEach es X.env)).any (·.1) = false := by rfl)
    (ht : eval (.Call (.Attribute o m apos) (e :: es) [] pos) X.env = (do
      let ov ← eval o X.env
      standAt apos.atName
      let (f, first) ← holding [ov] (getMethod ov m pl)
      callWith pos f first (backTo pos (starEach (e :: es) X.env)) (backToKw pos (keywordEach [] X.env))) := by rfl) :
    PE X (.Call (.Attribute o m apos) (e :: es) [] pos) (tMethS C m sp E ta t) := by
  refine ⟨fun pins s σ H Q I h => ?_⟩
  refine PySem.W.methodCall_KW (pl := pl) (thn (he.run pins s σ H _ I h) fun u s1 ⟨x, H1, I1, rx, a, dx, fs, ex, ea, l, q⟩ => ?_) ht
  subst ex
  obtain rfl : u = Value.ref a := rx
  refine getmeth_ok I1 ea c hm l ?_
  refine PySem.W.callWith_K (first := [.ref a]) (h₀ := X.base) I.ok.mod.kin hm.kp (thn (ha.run pos pins s1 σ H1 _ I1 q) fun us s2 ⟨vs, H2, I2, r, q2⟩ => ⟨I2.kIn, ?_⟩) hst hpl
  exact run_fnS (us := .ref a :: us) (vs := .ref a :: vs) F hr hb (hx σ) I2 (.cons rfl r) q2
theorem pe_methSx0 {pl : Sem Bool} (he : PE X o ta) (c : Cls X.K C) (hm : Meth X.K C m f) (F : FnOk X.prog X.w X.K X.mg X.base CX k f fd ps sp) (hr : Room k X.A) (hb : Binds X.K fd ps []) (hx : ∀ σ, PassesAt CX X σ (E σ))
    (ht : eval (.Call (.Attribute o m apos) [] [] pos) X.env = (do
      let ov ← eval o X.env
      standAt apos.atName
      let (f, first) ← holding [ov] (getMethod ov m pl)
      callWith pos f first (backTo pos (starEach [] X.env)) (backToKw pos (keywordEach [] X.env))) := by rfl) :
    PE X (.Call (.Attribute o m apos) [] [] pos) (tMethS C m sp E ta tNil) := by
  refine ⟨fun pins s σ H Q I h => ?_⟩
  refine PySem.W.methodCall_KW (pl := pl) (thn (he.run pins s σ H _ I h) fun u s1 ⟨x, H1, I1, rx, a, dx, fs, ex, ea, l, q⟩ => ?_) ht
  subst ex
  obtain rfl : u = Value.ref a := rx
  refine getmeth_ok I1 ea c hm l ?_
  exact PySem.W.callWith_K0 (first := [.ref a]) I1.kIn hm.kp (run_fnS (us := [.ref a]) (vs := [.ref a]) F hr hb (hx σ) I1 (.cons rfl .nil) q)
theorem pe_callS0 (F : FnOk X.prog X.w X.K X.mg X.base CX k f fd ps sp) (hr : Room k X.A) (hg : Gl X x) (hm : X.mg x = some (.ref f)) (hk : PySem.W.keepIn X.K (.ref f) = true) (hb : Binds X.K fd ps []) (hx : ∀ σ, PassesAt CX X σ (E σ))
    (hdb : (x == ("__debug__" : Str)) = false := by decide) : PE X (.Call (.Name x p) [] [] pos) (tCallS sp E tNil) := by
  refine ⟨fun pins s σ H Q I h => ?_⟩
  refine wpAny_Call_Name_kw (ld_glob I hg hm ?_ hdb)
  exact PySem.W.callWith_K0 I.kIn hk (run_fnS (us := []) F hr hb (hx σ) I .nil h)
def tMakeS (C : Addr) (sp : Sp) (E : L2.St → XK) (t : TA) : TE := fun σ H Q => t σ H fun vs H1 => ∀ x dx, H1 x = none → H1 dx = none → dx ≠ x → sp (.ref x :: vs) (upd (upd H1 dx (.own x)) x (.ins C dx [])) (fun v H2 => v = .non ∧ Q (.ref x) H2) (E σ)
theorem run_makeS {pins : List (Addr × Obj)} {σ : L2.St} {H : Hp} {s : Shared} {Q : VK} {us : List Value} {vs : List V} (M : Mk X.K C f) (F : FnOk X.prog X.w X.K X.mg X.base CX k f fd ps sp) (hr : Room (k + 1) X.A) (hb : Binds X.K fd ps [])
    (hx : PassesAt CX X σ (E σ)) (I : Inv X pins σ H s) (r : Vals vs us)
    (h : ∀ x dx, H x = none → H dx = none → dx ≠ x → sp (.ref x :: vs) (upd (upd H dx (.own x)) x (.ins C dx [])) (fun v H2 => v = .non ∧ Q (.ref x) H2) (E σ)) :
    wpAny (model X.prog X.w) X.A (call (.ref C) us) (EP X pins σ Q) X.xe s := by
  have hq := h (s.heap.objs.size + 1) s.heap.objs.size (I.hok.fresh (Nat.le_succ _)) (I.hok.fresh (Nat.le_refl _)) (Nat.ne_of_lt (Nat.lt_succ_self _))
  have I2 := Inv.made (C := C) I
  have r2 : Vals (V.ref (s.heap.objs.size + 1) :: vs) (Value.ref (s.heap.objs.size + 1) :: us) := .cons rfl r
  have hl : ((Value.ref (s.heap.objs.size + 1) :: us) ++ []).length = ps.length := by
    have e := r2.length
    rw [F.len _ _ _ _ hq] at e
    rw [List.append_nil]
    exact e.symm
  have bb := hb _ (Value.ref (s.heap.objs.size + 1) :: us) I2.kIn hl
  rw [List.append_nil] at bb
  refine wpAny_call (make_map (f := f) I.kIn M.makes M.init (beq_iff_eq.mp M.fn) (codeAny_mono (F.run _ X.stack _ _ ⟨Value.ref (s.heap.objs.size + 1) :: us, []⟩ (Value.ref (s.heap.objs.size + 1) :: us) _ _ (E σ) (hr.make C us [])
    (I2.env0.make C us []) bb r2 hq) fun r s' hq' => ?_))
  cases r with
  | error e => exact hx pins _ _ e s' I2 hq'
  | ok fl =>
    cases fl with
    | ret u =>
      obtain ⟨v, H', I3, rv, ev, q3⟩ := I2.after hq'
      subst ev
      exact ⟨rv, ⟨V.ref (s.heap.objs.size + 1), H', I3, rfl, q3⟩⟩
    | next => exact False.elim hq'
    | brk => exact False.elim hq'
    | cont => exact False.elim hq'
theorem pe_makeSx (M : Mk X.K C f) (F : FnOk X.prog X.w X.K X.mg X.base CX k f fd ps sp) (hr : Room (k + 1) X.A) (hg : Gl X x) (hm : X.mg x = some (.ref C)) (hb : Binds X.K fd ps []) (hx : ∀ σ, PassesAt CX X σ (E σ))
    (ha : PA X (e :: es) t) (hdb : (x == ("__debug__" : Str)) = false := by decide) (he : starEach (e :: es) X.env = (false, eval e X.env) :: starEach es X.env := by rfl) (hpl : (backTo pos (starEach es X.env)).any (·.1) = false := by rfl) :
    PE X (.Call (.Name x p) (e :: es) [] pos) (tMakeS C sp E t) := by
  refine ⟨fun pins s σ H Q I h => ?_⟩
  refine wpAny_Call_Name_kw (ld_glob I hg hm ?_ hdb)
  refine PySem.W.callWith_K (h₀ := X.base) I.ok.mod.kin M.kp (thn (ha.run pos pins s σ H _ I h) fun us s1 ⟨vs, H1, I1, r, q⟩ => ⟨I1.kIn, ?_⟩) he hpl
  exact run_makeS M F hr hb (hx σ) I1 r q
end

section
variable {X : Cx} {b : Bs} {δ : Od} {M : Mp} {e o e1 e2 tg : Expr} {es : List Expr} {Φ : Mp → D → Prop} {Ψ : Xs} {d d1 d2 : D} {ds : List D} {pos apos cpos p : Pos} {a : Addr} {x m : Str} {k : Nat} {f : Addr} {fd : FuncData} {ps : List Str} {S : FSp}
/-- what a caller shows at a call -/
def CallS (b : Bs) (S : FSp) (M1 : Mp) (ds : List D) (Φ : Mp → D → Prop) (Ψ : Xs) : Prop := ∃ own : Addr → Prop, (∀ a, own a → Wr b a) ∧ ∀ fr : Addr → Prop, (∀ p, fr p → M1 p = none ∧ Nw b p) → S own fr M1 ds Φ Ψ
theorem CallS.pure {P : Mp → List D → D → Prop} (h : P M ds d) (q : Φ M d) : CallS b (PureS P) M ds Φ Ψ := ⟨fun _ => False, fun _ z => z.elim, fun _ _ => ⟨d, h, q⟩⟩
theorem CallS.sp (c : CallS b S M ds Φ Ψ) {K : Fg} {R : Hp → Prop} (mR : Mono R) {σ : L2.St} {H : Hp} {vs : List V} {Q : VK} {E : XK} (SH : SS K b M (RVs K σ δ R ds vs) H) (kk : ∀ M' d v H', Φ M' d → SS K b M' (RV K σ δ R d v) H' → Q v H') (kx : ∀ cls M' H', Ψ cls M' → SS K b M' (RE K σ δ R) H' → E cls none H') : spD K S vs H Q E := by
  obtain ⟨own, ho, hS⟩ := c
  obtain ⟨G, S1, z1, z2, z3⟩ := SH
  refine ⟨G, M, ds, own, Φ, Ψ, S1.sub own, z3, hS _ (fun p hp => ⟨(S1.new hp).1, (S1.new hp).2.1⟩), fun M' d v H' hΦ ⟨G', S', r⟩ => ?_, fun cls M' H' hΨ ⟨G', S', _⟩ => ?_⟩
  · exact kk M' d v H' hΦ ⟨G', S1.back S' ho, Mono.env _ _ S'.g0 z1, mR _ _ S'.g0 z2, r⟩
  · exact kx cls M' H' hΨ ⟨G', S1.back S' ho, Mono.env _ _ S'.g0 z1, mR _ _ S'.g0 z2⟩
theorem ew_call (F : FnOk X.prog X.w X.K X.mg X.base (L2.CX X.prog X.w) k f fd ps (spD X.K S)) (hr : Room k X.A) (hg : Gl X x) (hm : X.mg x = some (.ref f)) (hk : PySem.W.keepIn X.K (.ref f) = true) (hb : Binds X.K fd ps [])
    (h : EWs X b δ M (e :: es) (fun M1 ds => CallS b S M1 ds Φ Ψ) Ψ) (hdb : (x == ("__debug__" : Str)) = false := by decide) (he : starEach (e :: es) X.env = (false, eval e X.env) :: starEach es X.env := by rfl) (hpl : (backTo pos (starEach es X.env)).any (·.1) = false := by rfl) :
    EW X b δ M (.Call (.Name x p) (e :: es) [] pos) Φ Ψ := fun R mR σ H Q SH kk kx => by
  refine we_of (pe_callS (E := L2.WE (WXc X)) F hr hg hm hk hb (fun σ => passAt takes_wxc σ) pa_wa hdb he hpl) ?_
  exact h R mR σ H _ SH (fun M1 ds vs H1 p1 S1 => p1.sp mR S1 kk kx) kx
theorem ew_call0 (F : FnOk X.prog X.w X.K X.mg X.base (L2.CX X.prog X.w) k f fd ps (spD X.K S)) (hr : Room k X.A) (hg : Gl X x) (hm : X.mg x = some (.ref f)) (hk : PySem.W.keepIn X.K (.ref f) = true) (hb : Binds X.K fd ps [])
    (h : CallS b S M [] Φ Ψ) (hdb : (x == ("__debug__" : Str)) = false := by decide) : EW X b δ M (.Call (.Name x p) [] [] pos) Φ Ψ := fun R mR σ H Q SH kk kx => by
  refine we_of (pe_callS0 (E := L2.WE (WXc X)) F hr hg hm hk hb (fun σ => passAt takes_wxc σ) hdb) ?_
  exact h.sp mR (SH.imp fun G z => ⟨z.1, z.2, .nil⟩) kk kx
theorem ev_call {P : Mp → List D → D → Prop} (F : FnOk X.prog X.w X.K X.mg X.base (L2.CX X.prog X.w) k f fd ps (spD X.K (PureS P))) (hr : Room k X.A) (hg : Gl X x) (hm : X.mg x = some (.ref f)) (hk : PySem.W.keepIn X.K (.ref f) = true) (hb : Binds X.K fd ps [])
    (h : EVs X b δ M (e :: es) ds) (hP : P M ds d) (hdb : (x == ("__debug__" : Str)) = false := by decide) (he : starEach (e :: es) X.env = (false, eval e X.env) :: starEach es X.env := by rfl) (hpl : (backTo pos (starEach es X.env)).any (·.1) = false := by rfl) :
    EV X b δ M (.Call (.Name x p) (e :: es) [] pos) d := ew_call F hr hg hm hk hb (h.to (.pure hP ⟨rfl, rfl⟩)) hdb he hpl
/-! ### instances -/
variable {C dx : Addr} {fs : List (Str × D)}
def lookF (fs : List (Str × D)) (f : Str) : Option D := fs.lookup f
theorem repF_lookup {K : Fg} {G : Hp} {fs : List (Str × D)} {gs : List (Str × V)} (r : RepF K G fs gs) (f : Str) : (∀ d, lookF fs f = some d → ∃ v, gs.lookup f = some v ∧ Rep K G d v) ∧ (lookF fs f = none → gs.lookup f = none) := by
  unfold lookF
  induction r with
  | nil => exact ⟨fun d e => by simp at e, fun _ => rfl⟩
  | @cons p q l l' h t ih =>
    obtain ⟨pn, pd⟩ := p
    obtain ⟨qn, qv⟩ := q
    obtain ⟨h1, h2⟩ := h
    have h1 : qn = pn := h1
    subst h1
    by_cases e : (f == qn) = true
    · have e1 : List.lookup f ((qn, pd) :: l) = some pd := by rw [List.lookup_cons, e]
      have e2 : List.lookup f ((qn, qv) :: l') = some qv := by rw [List.lookup_cons, e]
      rw [e1, e2]
      exact ⟨fun d q => by cases q; exact ⟨_, rfl, h2⟩, fun q => by cases q⟩
    · have e' : (f == qn) = false := by simpa using e
      have e1 : List.lookup f ((qn, pd) :: l) = List.lookup f l := by rw [List.lookup_cons, e']
      have e2 : List.lookup f ((qn, qv) :: l') = List.lookup f l' := by rw [List.lookup_cons, e']
      rw [e1, e2]
      exact ih
def putFD (f : Str) (d : D) : List (Str × D) → List (Str × D)
  | [] => [(f, d)]
  | (g, v) :: r => if g = f then (g, d) :: r else (g, v) :: putFD f d r
theorem repF_put {K : Fg} {G : Hp} {fs : List (Str × D)} {gs : List (Str × V)} (r : RepF K G fs gs) (f : Str) {d : D} {v : V} (rv : Rep K G d v) : RepF K G (putFD f d fs) (putF f v gs) := by
  induction r with
  | nil => exact .cons ⟨rfl, rv⟩ .nil
  | @cons p q l l' h t ih =>
    obtain ⟨pn, pd⟩ := p
    obtain ⟨qn, qv⟩ := q
    obtain ⟨h1, h2⟩ := h
    have h1 : qn = pn := h1
    subst h1
    rw [show putFD f d ((qn, pd) :: l) = (if qn = f then (qn, d) :: l else (qn, pd) :: putFD f d l) from rfl, show putF f v ((qn, qv) :: l') = (if qn = f then (qn, v) :: l' else (qn, qv) :: putF f v l') from rfl]
    by_cases e : qn = f
    · rw [if_pos e, if_pos e]; exact .cons ⟨rfl, rv⟩ t
    · rw [if_neg e, if_neg e]; exact .cons ⟨rfl, h2⟩ ih
theorem repF_len {K : Fg} {G : Hp} {fs : List (Str × D)} {gs : List (Str × V)} (r : RepF K G fs gs) : fs.length = gs.length := by
  induction r with
  | nil => rfl
  | cons h t ih => rw [List.length_cons, List.length_cons, ih]
theorem ev_fld (h : EV X b δ M o (.loc (.ref a))) (hm : M a = some (.ins C dx fs)) (c : Cls X.K C) (n : NoAttr X.K C x) (hl : lookF fs x = some d) (hb : attributeBase o x X.env (eval o X.env) = eval o X.env := by rfl) : EV X b δ M (.Attribute o x pos) d := fun R mR σ H Q SH kk kx => by
  refine we_of (pe_fld pe_we hb) ?_
  refine h R mR σ H _ SH (fun M1 d' v H1 p1 S1 => ?_) .nx
  obtain ⟨rfl, rfl⟩ := p1
  obtain ⟨G, S1, z1, z2, z3⟩ := S1
  obtain ⟨_, ob, ho, gs, rfl, rf⟩ := S1.cel a _ hm
  obtain ⟨w, q1, q2⟩ := (repF_lookup rf x).1 d hl
  exact ⟨a, C, dx, gs, w, Rep.loc_iff.mp z3, ho, c, n, q1, kk _ _ _ _ ⟨rfl, rfl⟩ ⟨G, S1, z1, z2, q2⟩⟩
theorem sw_fld {E : DE} (h1 : EW X b δ M e (fun M1 d => EV X b δ M1 o (.loc (.ref a)) ∧ ∃ fs, M1 a = some (.ins C dx fs) ∧ fs.length < 1000 ∧ E.nx (um M1 a (.ins C dx (putFD x d fs))) δ) (fun c M' => E.xc c M' δ)) (hw : Wr b a) (c : Cls X.K C) (n : NoAttr X.K C x)
    (hs : swapsWith e (some (.Attribute o x apos)) pos.line X.env = pure false := by rfl) : SW X b δ M (.Assign [.Attribute o x apos] e pos) E := fun R mR σ H SH kx => by
  refine ws_of (ps_fld pe_we pe_we hs) ?_
  refine h1 R mR σ H _ SH (fun M1 d v H1 p1 S1 => ?_) kx.kx
  obtain ⟨ho, fs, hm, hl, hE⟩ := p1
  refine ho (fun G => R G ∧ Rep X.K G d v) (mR.and .rep) σ H1 _ S1 (fun M2 d' w H2 p2 S2 => ?_) .nx
  obtain ⟨rfl, rfl⟩ := p2
  obtain ⟨G, S2, z1, z2, z3⟩ := S2
  obtain ⟨_, ob, ho, gs, rfl, rf⟩ := S2.cel a _ hm
  exact ⟨a, C, dx, gs, Rep.loc_iff.mp z3, ho, c, n, by rw [← repF_len rf]; exact hl, _, δ, hE, G, S2.set hm hw ⟨_, rfl, repF_put rf x z2.2⟩, z1, z2.1⟩
theorem ew_meth {pl : Sem Bool} (F : FnOk X.prog X.w X.K X.mg X.base (L2.CX X.prog X.w) k f fd ps (spD X.K S)) (hr : Room k X.A) (c : Cls X.K C) (hme : Meth X.K C m f) (hb : Binds X.K fd ps [])
    (h1 : EV X b δ M o (.loc (.ref a))) (hm : M a = some (.ins C dx fs)) (hl : lookF fs m = none) (h : EWs X b δ M (e :: es) (fun M1 ds => CallS b S M1 (.loc (.ref a) :: ds) Φ Ψ) Ψ)
    (hst : starEach (e :: es) X.env = (false, eval e X.env) :: starEach es X.env := by rfl) (hpl : (backTo pos (starEach es X.env)).any (·.1) = false := by rfl)
    (ht : eval (.Call (.Attribute o m apos) (e :: es) [] pos) X.env = (do
      let ov ← eval o X.env
      standAt apos.atName
      let (f, first) ← holding [ov] (getMethod ov m pl)
      callWith pos f first (backTo pos (starEach (e :: es) X.env)) (backToKw pos (keywordEach [] X.env))) := by rfl) :
    EW X b δ M (.Call (.Attribute o m apos) (e :: es) [] pos) Φ Ψ := fun R mR σ H Q SH kk kx => by
  refine we_of (pe_methSx (E := L2.WE (WXc X)) (pl := pl) pe_we c hme F hr hb (fun σ => passAt takes_wxc σ) pa_wa hst hpl ht) ?_
  refine h1 R mR σ H _ SH (fun M1 d' v H1 p1 S1 => ?_) .nx
  obtain ⟨rfl, rfl⟩ := p1
  obtain ⟨G, S1', z1, z2, z3⟩ := id S1
  obtain ⟨_, ob, ho, gs, rfl, rf⟩ := S1'.cel a _ hm
  refine ⟨a, dx, gs, Rep.loc_iff.mp z3, ho, (repF_lookup rf m).2 hl, ?_⟩
  rw [Rep.loc_iff] at z3
  subst z3
  refine h R mR σ H1 _ (S1.imp fun G z => ⟨z.1, z.2.1⟩) (fun M2 ds vs H2 p2 S2 => ?_) kx
  exact p2.sp (vs := .ref a :: vs) mR (S2.imp fun G z => ⟨z.1, z.2.1, .cons (Rep.loc_iff.mpr rfl) z.2.2⟩) kk kx
theorem ew_meth0 {pl : Sem Bool} (F : FnOk X.prog X.w X.K X.mg X.base (L2.CX X.prog X.w) k f fd ps (spD X.K S)) (hr : Room k X.A) (c : Cls X.K C) (hme : Meth X.K C m f) (hb : Binds X.K fd ps [])
    (h1 : EV X b δ M o (.loc (.ref a))) (hm : M a = some (.ins C dx fs)) (hl : lookF fs m = none) (h : CallS b S M [.loc (.ref a)] Φ Ψ)
    (ht : eval (.Call (.Attribute o m apos) [] [] pos) X.env = (do
      let ov ← eval o X.env
      standAt apos.atName
      let (f, first) ← holding [ov] (getMethod ov m pl)
      callWith pos f first (backTo pos (starEach [] X.env)) (backToKw pos (keywordEach [] X.env))) := by rfl) :
    EW X b δ M (.Call (.Attribute o m apos) [] [] pos) Φ Ψ := fun R mR σ H Q SH kk kx => by
  refine we_of (pe_methSx0 (E := L2.WE (WXc X)) (pl := pl) pe_we c hme F hr hb (fun σ => passAt takes_wxc σ) ht) ?_
  refine h1 R mR σ H _ SH (fun M1 d' v H1 p1 S1 => ?_) .nx
  obtain ⟨rfl, rfl⟩ := p1
  obtain ⟨G, S1', z1, z2, z3⟩ := id S1
  obtain ⟨_, ob, ho, gs, rfl, rf⟩ := S1'.cel a _ hm
  refine ⟨a, dx, gs, Rep.loc_iff.mp z3, ho, (repF_lookup rf m).2 hl, ?_⟩
  rw [Rep.loc_iff] at z3
  subst z3
  exact h.sp (vs := [.ref a]) mR (S1.imp fun G z => ⟨z.1, z.2.1, .cons (Rep.loc_iff.mpr rfl) .nil⟩) kk kx
end

/-! ### a def of the text -/
section
variable {P : Program} {w : World} {K : Fg} {mg : Str → Option Value} {base : Heap}
/-- a def keeps its promise over data: its body walked -/
theorem fnD {x qual : Str} {st : Stmt} {f : Addr} {fd : FuncData} {N ps : List Str} {k : Nat} {S : FSp} (F : Fun K x qual st f fd) (sc : FnScope N ps (defScope st)) (len : ∀ own fr M ds Φ Ψ, S own fr M ds Φ Ψ → ds.length = ps.length)
    (hbody : ∀ (cdv : Value) (A : Around) (outer : List PySem.Env) (s : Shared) (H : Hp) (E : XK), Room k (cxOf (L2.CX P w) P w K mg base N qual (defScope st) f cdv A outer s H E).A →
      ∀ (b : Bs) (M : Mp) (ds : List D) (Φ : Mp → D → Prop) (Ψ : Xs) (fr : Addr → Prop), (∀ p, fr p ↔ Nw b p) → S b.own fr M ds Φ Ψ →
        SWs (cxOf (L2.CX P w) P w K mg base N qual (defScope st) f cdv A outer s H E) b (ds.map some ++ List.replicate (N.length - ds.length) none) M (defBody st) ⟨fun M _ => Φ M .non, Φ, fun _ _ => False, fun _ _ => False, fun c M _ => Ψ c M⟩) :
    FnOk P w K mg base (L2.CX P w) (k + 1) f fd ps (spD K S) := by
  refine F.okX sc (fun vs H Q E h => ?_) (fun cdv A outer s H vs Q E hr h => ⟨WSs _ (defBody st), pss_wss, ?_⟩)
  · obtain ⟨G, M, ds, own, Φ, Ψ, S1, r, hS, _⟩ := h
    rw [← r.length]
    exact len _ _ _ _ _ _ hS
  · obtain ⟨G, M, ds, own, Φ, Ψ, S1, r, hS, kk, kx⟩ := h
    have hb := hbody cdv A outer s H E hr ⟨G, H, own⟩ M ds Φ Ψ (fun p => H p = none) (fun p => Iff.rfl) hS
    refine (hb (fun _ => True) .tt (L2.start N vs) H ⟨G, S1, ?_, trivial⟩ ?_).mono (fun σ' H' ⟨M', δ', q, S'⟩ => ?_) (fun v H' ⟨M', d, q, S'⟩ => ?_) (fun _ _ ⟨_, _, z, _⟩ => z.elim) (fun _ _ ⟨_, _, z, _⟩ => z.elim)
    · unfold L2.start
      refine ⟨by simp [r.length], fun i d e => ?_⟩
      by_cases hi : i < ds.length
      · rw [List.getElem?_append_left (by simpa using hi), List.getElem?_map] at e
        cases q : ds[i]? with
        | none => rw [q] at e; cases e
        | some d' =>
          rw [q] at e
          cases e
          obtain ⟨v, h1, h2⟩ := r.get q
          exact ⟨v, by rw [List.getElem?_append_left (by simpa [← r.length] using hi), List.getElem?_map, h1] <;> rfl, h2⟩
      · rw [List.getElem?_append_right (by simpa using hi), List.getElem?_replicate] at e
        split at e <;> cases e
    · intro cls M' δ' σ' H' q S'
      refine wxc_of (W := fun cls d _ H => E cls d H) (takes_of rfl rfl rfl rfl) ?_
      exact kx cls M' H' q (S'.imp fun _ _ => trivial)
    · exact kk M' .non .non H' q (S'.imp fun G z => Rep.non_iff.mpr rfl)
    · exact kk M' d v H' q S'
end
end D4
end

section
set_option maxRecDepth 100000
set_option maxHeartbeats 4000000
/-! D4g: comprehensions; list and tuple operations. -/
namespace D4
open PySem L2

def setAll : L2.St → List Nat → List V → L2.St
  | σ, j :: js, v :: vs => setAll (σ.set j (some v)) js vs
  | σ, _, _ => σ
def setD : Od → List Nat → List D → Od
  | δ, j :: js, d :: ds => setD (δ.set j (some d)) js ds
  | δ, _, _ => δ
def wD (δ : Od) : List Nat → Od
  | [] => δ
  | v :: vs => (wD δ vs).set v none
theorem Env.setAll {K : Fg} {G : Hp} : ∀ {js : List Nat} {ds : List D} {vs : List V} {σ : L2.St} {δ : Od}, Env K G σ δ → Reps K G ds vs → Env K G (setAll σ js vs) (setD δ js ds)
  | [], ds, vs, σ, δ, h, r => by
    have e1 : D4.setAll σ [] vs = σ := by cases vs <;> rfl
    have e2 : setD δ [] ds = δ := by cases ds <;> rfl
    rw [e1, e2]; exact h
  | j :: js, [], vs, σ, δ, h, r => by rw [r.nil_inv]; exact h
  | j :: js, d :: ds, vs, σ, δ, h, r => by
    obtain ⟨v, r', e, h1, t⟩ := r.cons_inv
    subst e
    show Env K G (D4.setAll (σ.set j (some v)) js r') (setD (δ.set j (some d)) js ds)
    exact Env.setAll (D4.Env.set j h h1) t
theorem Env.wipe {K : Fg} {G : Hp} {σ : L2.St} {δ : Od} (h : Env K G σ δ) : ∀ vs : List Nat, Env K G (wipe σ vs) (wD δ vs)
  | [] => h
  | v :: vs => (Env.wipe h vs).forget v
theorem wipe_len (σ : L2.St) : ∀ vs : List Nat, (wipe σ vs).length = σ.length := wipe_length σ
theorem wipe_get (σ : L2.St) : ∀ (vs : List Nat) (i : Nat), (wipe σ vs)[i]? = if i ∈ vs ∧ i < σ.length then some none else σ[i]?
  | [], i => by simp [wipe]
  | v :: vs, i => by
    show ((wipe σ vs).set v none)[i]? = _
    by_cases h : v = i
    · subst h
      by_cases hl : v < σ.length
      · rw [List.getElem?_set_self (by rw [wipe_len]; exact hl), if_pos ⟨List.mem_cons_self, hl⟩]
      · rw [List.getElem?_eq_none (by rw [List.length_set, wipe_len]; omega), if_neg (fun z => hl z.2), List.getElem?_eq_none (by omega)]
    · rw [List.getElem?_set_ne h, wipe_get σ vs i]
      by_cases hm : i ∈ vs ∧ i < σ.length
      · rw [if_pos hm, if_pos ⟨List.mem_cons_of_mem _ hm.1, hm.2⟩]
      · rw [if_neg hm, if_neg]
        rintro ⟨h1, h2⟩
        rcases List.mem_cons.mp h1 with h1 | h1
        · exact h h1.symm
        · exact hm ⟨h1, h2⟩
theorem setAll_len : ∀ (js : List Nat) (vs : List V) (σ : L2.St), (setAll σ js vs).length = σ.length
  | [], vs, σ => by cases vs <;> rfl
  | j :: js, [], σ => rfl
  | j :: js, v :: vs, σ => by
    show (setAll (σ.set j (some v)) js vs).length = _
    rw [setAll_len, List.length_set]
theorem setAll_get : ∀ (js : List Nat) (vs : List V) (σ : L2.St) (i : Nat), i ∉ js → (setAll σ js vs)[i]? = σ[i]?
  | [], vs, σ, i, _ => by cases vs <;> rfl
  | j :: js, [], σ, i, _ => rfl
  | j :: js, v :: vs, σ, i, h => by
    show (setAll (σ.set j (some v)) js vs)[i]? = _
    rw [setAll_get js vs _ i fun z => h (List.mem_cons_of_mem _ z), List.getElem?_set_ne fun z => h (by rw [z]; exact List.mem_cons_self)]
theorem wipe_set {σ : L2.St} {vs js : List Nat} {ws : List V} (h : ∀ j ∈ js, j ∈ vs) : wipe (setAll (wipe σ vs) js ws) vs = wipe σ vs := by
  apply List.ext_getElem?
  intro i
  rw [wipe_get, setAll_len, wipe_len, wipe_get]
  by_cases hm : i ∈ vs ∧ i < σ.length
  · rw [if_pos hm, if_pos hm]
  · rw [if_neg hm, if_neg hm]
    by_cases hj : i ∈ js
    · have hl : ¬ i < σ.length := fun z => hm ⟨h i hj, z⟩
      rw [List.getElem?_eq_none (by rw [setAll_len, wipe_len]; omega), List.getElem?_eq_none (by omega)]
    · rw [setAll_get js ws _ i hj, wipe_get, if_neg hm]

/-- a target's slots and what they get -/
def GS (X : Cx) (tg : Expr) (d : D) (js : List Nat) (ds : List D) : Prop := ∃ g : TG, PG X tg g ∧ ∀ (v : V) (σ : L2.St) (H G : Hp) (Q : L2.St → Hp → Prop), Same G H → Rep X.K G d v → (∀ ws, Reps X.K G ds ws → Q (setAll σ js ws) H) → g v σ H Q
def GSs (X : Cx) (ts : List Expr) (js : List Nat) : Prop := ∃ g : TGs, PGs X ts g ∧ ∀ (vs : List V) (σ : L2.St) (H : Hp) (Q : L2.St → Hp → Prop), vs.length = js.length → Q (setAll σ js vs) H → g vs σ H Q
section
variable {X : Cx} {b : Bs} {δ : Od} {M : Mp} {e o e1 e2 tg iter elt : Expr} {es ts ifs : List Expr} {Φ : Mp → D → Prop} {Ψ : Xs} {d d1 d2 : D} {ds : List D} {pos p : Pos} {a : Addr} {x : Str}
theorem gs_name (i : Nat) {x : Str} (hN : X.N.Nodup) (hi : X.N[i]? = some x := by rfl) (hx : Loc X.env.scope x := by first | exact Or.inl rfl | exact Or.inr rfl)
    (hf : X.fn x = true ∨ X.env.scope.names.lookup x = some .local := by first | exact Or.inl rfl | exact Or.inr rfl) : GS X (.Name x pos) d [i] [d] :=
  ⟨gName i, pg_name (i := i) hN hi hx hf, fun v σ H G Q e r k => k [v] (.cons r .nil)⟩
theorem gss_nil : GSs X [] [] := ⟨gNil, pgs_nil, fun vs σ H Q hl q => by
  have e : vs = [] := List.eq_nil_of_length_eq_zero hl
  subst e
  exact ⟨rfl, q⟩⟩
theorem gss_cons (i : Nat) {js : List Nat} {x : Str} (hN : X.N.Nodup) (t : GSs X es js) (hi : X.N[i]? = some x := by rfl) (hx : Loc X.env.scope x := by first | exact Or.inl rfl | exact Or.inr rfl)
    (hf : X.fn x = true ∨ X.env.scope.names.lookup x = some .local := by first | exact Or.inl rfl | exact Or.inr rfl)
    (hs : (assignEach (.Name x pos :: es) X.env).map (·.2) = assign (.Name x pos) X.env :: (assignEach es X.env).map (·.2) := by rfl) : GSs X (.Name x pos :: es) (i :: js) := by
  obtain ⟨g, pg, hg⟩ := t
  refine ⟨gCons (gName i) g, pgs_cons (pg_name (i := i) hN hi hx hf) pg hs, fun vs σ H Q hl q => ?_⟩
  cases vs with
  | nil => cases hl
  | cons v vs => exact ⟨v, vs, rfl, hg vs _ H Q (Nat.succ.inj hl) q⟩
theorem gs_tup {js : List Nat} {k : Nat} (hc : X.calm = true) (t : GSs X ts js) (hl : js.length = ds.length := by rfl) (hn : (assignEach ts X.env).length = ds.length := by rfl) (hst : (assignEach ts X.env).findIdx? (·.1) = none := by rfl) : GS X (.Tuple ts k pos) (.tup ds) js ds := by
  obtain ⟨g, pg, hg⟩ := t
  refine ⟨gTup X.K ds.length g, pg_tup (n := ds.length) hc pg hn hst, fun v σ H G Q e r k => ?_⟩
  obtain ⟨a, vs, ev, ha, rs⟩ := Rep.tup_iff.mp r
  exact ⟨a, vs, ev, SqT.of (e _ _ ha), rs.length.symm, hg vs σ H Q (by rw [hl, rs.length]) (k vs rs)⟩

/-! ### tests of a comprehension -/
def WTs (X : Cx) (ifs : List Expr) : TT := fun σ H Q => ∀ (pins : List (Addr × Obj)) (s : Shared), Inv X pins σ H s → ∃ t : TT, PTs X ifs t ∧ t σ H Q
/-- the block's contexts -/
abbrev Blk (X : Cx) (scope : Scope) (s : Shared) (H : Hp) (Cc : Addr) (cl : List (Str × Addr)) (fp : List Addr) : Cx := X.blk s H scope (compEnvC scope cl Cc X.env) fp
/-- one turn of a comprehension: from the cells M (the new list among them) -/
def TurnC (X : Cx) (scope : Scope) (b : Bs) (δ : Od) (M : Mp) (ifs : List Expr) (elt : Expr) (Ye : Mp → D → Prop) (No : Mp → Prop) : Prop :=
  match ifs with
  | [] => ∀ s' H' Cc cl fp, EW (Blk X scope s' H' Cc cl fp) b δ M elt Ye NX
  | [c] => ∃ t : Bool, (∀ s' H' Cc cl fp, TV (Blk X scope s' H' Cc cl fp) b δ M c t) ∧ (t = true → ∀ s' H' Cc cl fp, EW (Blk X scope s' H' Cc cl fp) b δ M elt Ye NX) ∧ (t = false → No M)
  | _ => False
/-- a test list's reading in all the contexts of a block -/
def tTs (X : Cx) (scope : Scope) (ifs : List Expr) : TT := match ifs with
  | [] => tYes
  | [c] => fun σ H Q => ∀ s' H' Cc cl fp, WT (Blk X scope s' H' Cc cl fp) c σ H Q
  | _ => fun _ _ _ => False
theorem pts_tTs {scope : Scope} (s' : Shared) (H' : Hp) (Cc : Addr) (cl : List (Str × Addr)) (fp : List Addr) (hif : ifs.length ≤ 1) : PTs (Blk X scope s' H' Cc cl fp) ifs (tTs X scope ifs) := by
  match ifs, hif with
  | [], _ => exact pts_nil
  | [c], _ => exact pts_one ⟨fun pins s σ H Q I h => h s' H' Cc cl fp pins s I⟩
def gB (X : Cx) (scope : Scope) (tg : Expr) : TG := fun v σ H Q => ∀ s' H' Cc cl fp, WG (Blk X scope s' H' Cc cl fp) tg v σ H Q
def tEB (X : Cx) (scope : Scope) (elt : Expr) : TE := fun σ H Q => ∀ s' H' Cc cl fp, WE (Blk X scope s' H' Cc cl fp) elt σ H Q
theorem lc_read {scope : Scope} {own : List (Str × Nat)} {Qd : Addr → Mp → Prop} (hif : ifs.length ≤ 1) {R : Hp → Prop} (mR : Mono R) {σ : L2.St} {H : Hp} {Q : VK}
    (h : IW X b δ M tg iter (fun M1 CM ds => ∀ Dl, M1 Dl = none → Nw b Dl → ∃ I : Nat → List D → Mp → Prop, I 0 [] (um M1 Dl (.lst [])) ∧ (∀ i acc M', I i acc M' → M' Dl = some (.lst acc) ∧ CM M' ∧ acc.length ≤ i) ∧ ds.length ≤ 100000 ∧
      (∀ i d acc M', ds[i]? = some d → I i acc M' → ∃ (js : List Nat) (gs : List D), (∀ j ∈ js, j ∈ own.map (·.2)) ∧ (∀ s' H' Cc cl fp, GS (Blk X scope s' H' Cc cl fp) tg d js gs) ∧
        TurnC X scope b (setD (wD δ (own.map (·.2))) js gs) M' ifs elt (fun M3 y => M3 Dl = some (.lst acc) ∧ I (i + 1) (acc ++ [y]) (um M3 Dl (.lst (acc ++ [y])))) (fun M2 => I (i + 1) acc M2)) ∧
      ∀ acc M', I ds.length acc M' → Qd Dl M') Ψ)
    (SH : SS X.K b M (RE X.K σ δ R) H) (hQ : ∀ Dl M' H', Qd Dl M' → Nw b Dl → SS X.K b M' (RE X.K σ δ R) H' → Q (.ref Dl) H') (kx : KX X b δ R σ Ψ) : tLc (WI X tg iter) (gB X scope tg) (tTs X scope ifs) (tEB X scope elt) (own.map (·.2)) σ H Q := by
  refine h R mR σ H _ SH (fun M1 CM ds H1 J R1 p mR1 hR S1 w => ?_) kx
  intro Dl hDl
  obtain ⟨G1, S1', z1⟩ := S1
  obtain ⟨n1, n2, n3⟩ := S1'.new hDl
  obtain ⟨I, h0, hcm, hlen, hst, hd⟩ := p Dl n1 n2
  obtain ⟨Gd, Y, hw, hG, hY⟩ := w
  refine lc_it (g := gB X scope tg) (tt := tTs X scope ifs) (te := tEB X scope elt) (vs := own.map (·.2)) (σ := σ) (Qd := fun H' => Q (.ref Dl) H') hw (fun i H' => ∃ acc M', I i acc M' ∧ SS X.K b M' (RE X.K σ δ R1) H') ⟨[], _, h0, G1, S1'.cell (c := .lst []) hDl ⟨[], rfl, .nil⟩, z1⟩
    (fun i H' _ ⟨acc, M', p, S'⟩ => hG M' H' (hcm i acc M' p).2.1 (S'.imp fun G z => z.2)) (fun i x H' H'' hi ⟨acc, M', p, S'⟩ y => ?_) (fun H' ⟨acc, M', p, S'⟩ => hQ Dl M' H' (hd acc M' p) n2 (S'.imp fun G z => ⟨z.1, hR G z.2⟩))
  have hi' : ds[i]? = some ds[i] := by simp [hi]
  have S2 := hY i ds[i] x M' (fun G => Env X.K G σ δ) H' H'' Mono.env hi' (hcm i acc M' p).2.1 S' y
  obtain ⟨js, gs, hjs, htg, hturn⟩ := hst i ds[i] acc M' hi' p
  intro s' Hb Cc cl fp
  obtain ⟨g, pg, hg⟩ := htg s' Hb Cc cl fp
  refine wg_of pg ?_
  obtain ⟨G2, S2', y1, y2, y3⟩ := S2
  refine hg x _ H'' G2 _ S2'.gh y3 fun ws rws => ?_
  refine ⟨wipe_set hjs, ?_⟩
  have mE : Mono (fun G => Env X.K G σ δ ∧ R1 G) := Mono.env.and mR1
  have S3 : SS X.K b M' (RE X.K (setAll (wipe σ (own.map (·.2))) js ws) (setD (wD δ (own.map (·.2))) js gs) (fun G => Env X.K G σ δ ∧ R1 G)) H'' := ⟨G2, S2', Env.setAll (y1.wipe _) rws, y1, y2⟩
  have step : ∀ M2 H3, (∀ s' H' Cc cl fp, EW (Blk X scope s' H' Cc cl fp) b (setD (wD δ (own.map (·.2))) js gs) M2 elt (fun M3 y => M3 Dl = some (.lst acc) ∧ I (i + 1) (acc ++ [y]) (um M3 Dl (.lst (acc ++ [y])))) NX) →
      SS X.K b M2 (RE X.K (setAll (wipe σ (own.map (·.2))) js ws) (setD (wD δ (own.map (·.2))) js gs) (fun G => Env X.K G σ δ ∧ R1 G)) H3 →
      ∀ s' H' Cc cl fp, WE (Blk X scope s' H' Cc cl fp) elt (setAll (wipe σ (own.map (·.2))) js ws) H3 fun y H4 => ∃ acc, H4 Dl = some (.lst acc) ∧ acc.length < sizeLine ∧ ∃ acc' M', I (i + 1) acc' M' ∧ SS X.K b M' (RE X.K σ δ R1) (upd H4 Dl (.lst (acc ++ [y]))) := by
    intro M2 H3 he S4 s' Hb Cc cl fp
    refine he s' Hb Cc cl fp _ mE _ H3 _ S4 (fun M3 d v H4 q S5 => ?_) .nx
    obtain ⟨q1, q2⟩ := q
    obtain ⟨G5, S5, w1, w2, w3⟩ := S5
    obtain ⟨_, ob, ho, vs, rfl, rs⟩ := S5.cel Dl _ q1
    refine ⟨vs, ho, ?_, _, _, q2, G5, S5.set q1 n2.wr ⟨_, rfl, rs.append (.cons w3 .nil)⟩, w2.1, w2.2⟩
    have := (hcm i acc M' p).2.2
    rw [← rs.length]
    exact Nat.lt_of_lt_of_le (show acc.length < 100001 by omega) (by decide)
  match ifs, hif, hturn with
  | [], _, hturn =>
    exact step M' H'' hturn S3
  | [c], _, hturn =>
    obtain ⟨t, ht, h1, h2⟩ := hturn
    intro s' Hb Cc cl fp
    refine ht s' Hb Cc cl fp _ mE _ H'' _ S3 (fun M2 t' H3 q S4 => ?_) .nx
    obtain ⟨rfl, rfl⟩ := q
    cases t with
    | true => exact iteT (step M' H3 (h1 rfl) S4)
    | false => exact iteF ⟨acc, M', h2 rfl, S4.imp fun G z => z.2⟩

/-- a pure turn -/
def TurnP (X : Cx) (scope : Scope) (b : Bs) (δ : Od) (M : Mp) (ifs : List Expr) (elt : Expr) (t : Bool) (f : D) : Prop :=
  match ifs with
  | [] => t = true ∧ ∀ s' H' Cc cl fp, EV (Blk X scope s' H' Cc cl fp) b δ M elt f
  | [c] => (∀ s' H' Cc cl fp, TV (Blk X scope s' H' Cc cl fp) b δ M c t) ∧ (t = true → ∀ s' H' Cc cl fp, EV (Blk X scope s' H' Cc cl fp) b δ M elt f)
  | _ => False
/-- more cells -/
def Sub (M M' : Mp) : Prop := ∀ a c, M a = some c → M' a = some c
theorem Sub.refl {M : Mp} : Sub M M := fun _ _ h => h
theorem Sub.um {M : Mp} {a : Addr} {c : C} (h : M a = none) : Sub M (um M a c) := fun x c' e => um_old e h
theorem Sub.trans {M M1 M2 : Mp} (a : Sub M M1) (b : Sub M1 M2) : Sub M M2 := fun x c h => b x c (a x c h)
/-- fewer cells are told -/
theorem EW.less {Φ : Mp → D → Prop} (h : EW X b δ M e (fun M' d => ∃ M'', Sub M'' M' ∧ Φ M'' d) Ψ) : EW X b δ M e Φ Ψ := fun R mR σ H Q SH k kx => h R mR σ H Q SH (fun M' d v H' ⟨M'', hs, p⟩ ⟨G, S', z⟩ => k M'' d v H' p ⟨G, S'.less hs, z⟩) kx
/-- what a pure comprehension asks -/
def LcP (X : Cx) (b : Bs) (δ : Od) (M : Mp) (scope : Scope) (own : List (Str × Nat)) (tg iter : Expr) (ifs : List Expr) (elt : Expr) {α : Type} (xs : List α) (enc : α → D) (t : α → Bool) (f : α → D) (js : List Nat) (g : α → List D) (Φ : Mp → List D → Prop) (Ψ : Xs) : Prop :=
  IW X b δ M tg iter (fun M1 CM ds => ds = xs.map enc ∧ xs.length ≤ 100000 ∧ (∀ M2, Sub M1 M2 → CM M2) ∧ (∀ x ∈ xs, ∀ s' H' Cc cl fp, GS (Blk X scope s' H' Cc cl fp) tg (enc x) js (g x)) ∧
    (∀ x ∈ xs, ∀ M2, Sub M1 M2 → TurnP X scope b (setD (wD δ (own.map (·.2))) js (g x)) M2 ifs elt (t x) (f x)) ∧ Φ M1 ((xs.filter t).map f)) Ψ
theorem take_snoc {α : Type} {xs : List α} {i : Nat} {x : α} (h : xs[i]? = some x) : xs.take (i + 1) = xs.take i ++ [x] := by
  rw [List.take_add_one, h]; rfl
theorem LcP.read {scope : Scope} {own : List (Str × Nat)} {α : Type} {xs : List α} {enc : α → D} {t : α → Bool} {f : α → D} {js : List Nat} {g : α → List D} {Φ : Mp → List D → Prop} (hif : ifs.length ≤ 1) (hjs : ∀ j ∈ js, j ∈ own.map (·.2))
    (h : LcP X b δ M scope own tg iter ifs elt xs enc t f js g Φ Ψ) {R : Hp → Prop} (mR : Mono R) {σ : L2.St} {H : Hp} {Q : VK} (SH : SS X.K b M (RE X.K σ δ R) H) (kx : KX X b δ R σ Ψ)
    (hQ : ∀ Dl M1 out H', Φ M1 out → M1 Dl = none → Nw b Dl → SS X.K b (um M1 Dl (.lst out)) (RE X.K σ δ R) H' → Q (.ref Dl) H') : tLc (WI X tg iter) (gB X scope tg) (tTs X scope ifs) (tEB X scope elt) (own.map (·.2)) σ H Q := by
  refine lc_read (Qd := fun Dl M' => ∃ M1 out, Φ M1 out ∧ M1 Dl = none ∧ M' = um M1 Dl (.lst out)) hif mR (fun R' mR' σ' H' Q' S' k' kx' => h R' mR' σ' H' Q' S' (fun M1 CM ds H1 J R1 p => ?_) kx') SH (fun Dl M' H' ⟨M1, out, p, q, e⟩ n S' => hQ Dl M1 out H' p q n (e ▸ S')) kx
  obtain ⟨hds, hlen, hCM, htg, hturn, hΦ⟩ := p
  subst hds
  refine k' M1 CM _ H1 J R1 fun Dl n1 n2 => ?_
  refine ⟨fun i acc M' => acc = ((xs.take i).filter t).map f ∧ M' = um M1 Dl (.lst acc), ⟨by simp, rfl⟩, ?_, by rw [List.length_map]; exact hlen, ?_, ?_⟩
  · rintro i acc M' ⟨e1, e2⟩
    refine ⟨by rw [e2, um_same], by rw [e2]; exact hCM _ (Sub.um n1), ?_⟩
    rw [e1, List.length_map]
    exact Nat.le_trans (List.length_filter_le _ _) (by rw [List.length_take]; omega)
  · rintro i d acc M' hd ⟨e1, e2⟩
    rw [List.getElem?_map] at hd
    cases hx : xs[i]? with
    | none => rw [hx] at hd; cases hd
    | some x =>
      rw [hx] at hd
      cases hd
      have hmem : x ∈ xs := List.mem_of_getElem? hx
      refine ⟨js, g x, hjs, htg x hmem, ?_⟩
      have ht := hturn x hmem M' (by rw [e2]; exact Sub.um n1)
      have hM : M' Dl = some (.lst acc) := by rw [e2, um_same]
      have yes : t x = true → um M' Dl (.lst (acc ++ [f x])) = um M1 Dl (.lst (acc ++ [f x])) ∧ acc ++ [f x] = ((xs.take (i + 1)).filter t).map f := fun hx' => by
        refine ⟨by rw [e2, um_um], ?_⟩
        rw [take_snoc hx, List.filter_append, List.map_append, ← e1, List.filter_cons, if_pos hx']
        rfl
      have no : t x = false → acc = ((xs.take (i + 1)).filter t).map f := fun hx' => by
        rw [take_snoc hx, List.filter_append, List.map_append, ← e1, List.filter_cons, if_neg (by rw [hx']; decide)]
        simp
      match ifs, hif, ht with
      | [], _, ht =>
        intro s' H' Cc cl fp
        exact (ht.2 s' H' Cc cl fp).to ⟨hM, (yes ht.1).2, (yes ht.1).1⟩
      | [c], _, ht =>
        exact ⟨t x, ht.1, fun hx' s' H' Cc cl fp => (ht.2 hx' s' H' Cc cl fp).to ⟨hM, (yes hx').2, (yes hx').1⟩, fun hx' => ⟨no hx', e2⟩⟩
  · rintro acc M' ⟨e1, e2⟩
    rw [List.length_map, List.take_length] at e1
    exact ⟨M1, acc, by rw [e1]; exact hΦ, n1, e2⟩
/-- a comprehension's list, frozen -/
theorem ew_lc {scope : Scope} {own : List (Str × Nat)} {α : Type} {xs : List α} {enc : α → D} {t : α → Bool} {f : α → D} {js : List Nat} {g : α → List D} (hc : X.calm = true) (hN : X.N.Nodup) (ok : BlkOk X.N X.env.scope scope own)
    (h : LcP X b δ M scope own tg iter ifs elt xs enc t f js g (fun M1 out => Φ M1 (.lst out)) Ψ) (hif : ifs.length ≤ 1 := by decide) (hjs : ∀ j ∈ js, j ∈ own.map (·.2) := by decide) (hs : ∀ x, foldedSetIterable iter X.env x = pure x := by exact fun _ => rfl) : EW X b δ M (.ListComp elt [⟨tg, iter, ifs, 0⟩] scope pos) Φ Ψ := fun R mR σ H Q SH k kx => by
  refine we_of (pe_lc (g := gB X scope tg) (tt := tTs X scope ifs) (te := tEB X scope elt) hc hN pi_wi ok
    (fun s' H' Cc cl fp => ⟨fun pins s σ H v u Q I r h => h s' H' Cc cl fp pins s u I r⟩) (fun s' H' Cc cl fp => pts_tTs s' H' Cc cl fp hif) (fun s' H' Cc cl fp => ⟨fun pins s σ H Q I h => h s' H' Cc cl fp pins s I⟩) hs) ?_
  refine h.read hif hjs mR SH kx fun Dl M1 out H' p n1 n2 ⟨G, S', z⟩ => ?_
  obtain ⟨G', S2, sg, r⟩ := S'.freeze (p := Dl) um_same n2
  rw [dm_um n1] at S2
  exact k M1 _ _ H' p ⟨G', S2, Mono.env _ _ sg z.1, mR _ _ sg z.2, r⟩
/-- .. that may change -/
theorem ew_lcN {scope : Scope} {own : List (Str × Nat)} {α : Type} {xs : List α} {enc : α → D} {t : α → Bool} {f : α → D} {js : List Nat} {g : α → List D} (hc : X.calm = true) (hN : X.N.Nodup) (ok : BlkOk X.N X.env.scope scope own)
    (h : LcP X b δ M scope own tg iter ifs elt xs enc t f js g (fun M1 out => ∀ p, M1 p = none → Nw b p → Φ (um M1 p (.lst out)) (.loc (.ref p))) Ψ) (hif : ifs.length ≤ 1 := by decide) (hjs : ∀ j ∈ js, j ∈ own.map (·.2) := by decide) (hs : ∀ x, foldedSetIterable iter X.env x = pure x := by exact fun _ => rfl) : EW X b δ M (.ListComp elt [⟨tg, iter, ifs, 0⟩] scope pos) Φ Ψ := fun R mR σ H Q SH k kx => by
  refine we_of (pe_lc (g := gB X scope tg) (tt := tTs X scope ifs) (te := tEB X scope elt) hc hN pi_wi ok
    (fun s' H' Cc cl fp => ⟨fun pins s σ H v u Q I r h => h s' H' Cc cl fp pins s u I r⟩) (fun s' H' Cc cl fp => pts_tTs s' H' Cc cl fp hif) (fun s' H' Cc cl fp => ⟨fun pins s σ H Q I h => h s' H' Cc cl fp pins s I⟩) hs) ?_
  refine h.read hif hjs mR SH kx fun Dl M1 out H' p n1 n2 S' => ?_
  exact k _ _ _ H' (p Dl n1 n2) (S'.imp fun G z => ⟨z.1, z.2, Rep.loc_iff.mpr rfl⟩)
/-- name = [..] on one line -/
theorem sw_setLc (i : Nat) {y : Str} {py spos : Pos} {E : DE} {scope : Scope} {own : List (Str × Nat)} {α : Type} {xs : List α} {enc : α → D} {t : α → Bool} {f : α → D} {js : List Nat} {g : α → List D} (hc : X.calm = true) (hN : X.N.Nodup) (ok : BlkOk X.N X.env.scope scope own)
    (h : LcP X b δ M scope own tg iter ifs elt xs enc t f js g (fun M1 out => E.nx M1 (δ.set i (some (.lst out)))) (fun c M' => E.xc c M' δ)) (hy : X.N[i]? = some y := by rfl) (hyl : X.env.scope.names.lookup y = some .local := by rfl)
    (hsw : swapsWith (.ListComp elt [⟨tg, iter, ifs, 0⟩] scope pos) (some (.Name y py)) spos.line X.env = pure true := by exact sw_true rfl rfl rfl (by decide +kernel)) (hif : ifs.length ≤ 1 := by decide) (hjs : ∀ j ∈ js, j ∈ own.map (·.2) := by decide) (hs : ∀ x, foldedSetIterable iter X.env x = pure x := by exact fun _ => rfl) : SW X b δ M (.Assign [.Name y py] (.ListComp elt [⟨tg, iter, ifs, 0⟩] scope pos) spos) E := fun R mR σ H SH kx => by
  refine ws_of (ps_setLc (i := i) (g := gB X scope tg) (tt := tTs X scope ifs) (te := tEB X scope elt) hc hN hy hyl hsw pi_wi ok
    (fun s' H' Cc cl fp => ⟨fun pins s σ H v u Q I r h => h s' H' Cc cl fp pins s u I r⟩) (fun s' H' Cc cl fp => pts_tTs s' H' Cc cl fp hif) (fun s' H' Cc cl fp => ⟨fun pins s σ H Q I h => h s' H' Cc cl fp pins s I⟩) hs) ?_
  refine h.read hif hjs mR SH kx.kx fun Dl M1 out H' p n1 n2 ⟨G, S', z⟩ => ?_
  obtain ⟨G', S2, sg, r⟩ := S'.freeze (p := Dl) um_same n2
  rw [dm_um n1] at S2
  exact ⟨M1, _, p, G', S2, Env.set i (Mono.env _ _ sg z.1) r, mR _ _ sg z.2⟩
theorem sw_setLcN (i : Nat) {y : Str} {py spos : Pos} {E : DE} {scope : Scope} {own : List (Str × Nat)} {α : Type} {xs : List α} {enc : α → D} {t : α → Bool} {f : α → D} {js : List Nat} {g : α → List D} (hc : X.calm = true) (hN : X.N.Nodup) (ok : BlkOk X.N X.env.scope scope own)
    (h : LcP X b δ M scope own tg iter ifs elt xs enc t f js g (fun M1 out => ∀ p, M1 p = none → Nw b p → E.nx (um M1 p (.lst out)) (δ.set i (some (.loc (.ref p))))) (fun c M' => E.xc c M' δ)) (hy : X.N[i]? = some y := by rfl) (hyl : X.env.scope.names.lookup y = some .local := by rfl)
    (hsw : swapsWith (.ListComp elt [⟨tg, iter, ifs, 0⟩] scope pos) (some (.Name y py)) spos.line X.env = pure true := by exact sw_true rfl rfl rfl (by decide +kernel)) (hif : ifs.length ≤ 1 := by decide) (hjs : ∀ j ∈ js, j ∈ own.map (·.2) := by decide) (hs : ∀ x, foldedSetIterable iter X.env x = pure x := by exact fun _ => rfl) : SW X b δ M (.Assign [.Name y py] (.ListComp elt [⟨tg, iter, ifs, 0⟩] scope pos) spos) E := fun R mR σ H SH kx => by
  refine ws_of (ps_setLc (i := i) (g := gB X scope tg) (tt := tTs X scope ifs) (te := tEB X scope elt) hc hN hy hyl hsw pi_wi ok
    (fun s' H' Cc cl fp => ⟨fun pins s σ H v u Q I r h => h s' H' Cc cl fp pins s u I r⟩) (fun s' H' Cc cl fp => pts_tTs s' H' Cc cl fp hif) (fun s' H' Cc cl fp => ⟨fun pins s σ H Q I h => h s' H' Cc cl fp pins s I⟩) hs) ?_
  refine h.read hif hjs mR SH kx.kx fun Dl M1 out H' p n1 n2 ⟨G, S', z⟩ => ?_
  exact ⟨_, _, p Dl n1 n2, G, S', Env.set i z.1 (Rep.loc_iff.mpr rfl), z.2⟩
end
end D4
end

section
set_option maxRecDepth 100000
set_option maxHeartbeats 4000000
/-! D4h: lists joined, cut, searched; == of data; isinstance; enumerate, zip. -/
namespace D4
open PySem L2

/-- a list: frozen, or a cell -/
inductive LA (M : Mp) : D → List D → Prop
  | l {xs : List D} : LA M (.lst xs) xs
  | c {a : Addr} {xs : List D} : M a = some (.lst xs) → LA M (.loc (.ref a)) xs
section
variable {X : Cx} {b : Bs} {δ : Od} {M : Mp} {G H : Hp} {K : Fg} {e o e1 e2 tg iter elt : Expr} {es ts ifs : List Expr} {Φ : Mp → D → Prop} {Ψ : Xs} {d d1 d2 : D} {ds xs ys : List D} {pos p p2 apos cpos : Pos} {a : Addr} {x : Str} {v : V}
theorem SO.la (S : SO K b M G H) (h : LA M d xs) (r : Rep K G d v) : ∃ a vs, v = .ref a ∧ H a = some (.lst vs) ∧ Reps K G xs vs := by
  cases h with
  | l =>
    obtain ⟨a, vs, e, ha, rs⟩ := Rep.lst_iff.mp r
    exact ⟨a, vs, e, S.gh _ _ ha, rs⟩
  | @c a xs hm =>
    obtain ⟨_, o, ho, vs, rfl, rs⟩ := S.cel a _ hm
    exact ⟨a, vs, Rep.loc_iff.mp r, ho, rs⟩
theorem o_cat (h1 : LA M d1 xs) (h2 : LA M d2 ys) (hl : xs.length + ys.length ≤ 100000) : OW X b (binaryOp .Add) M d1 d2 (One M (.lst (xs ++ ys))) := ow_of op_cat fun R mR x y H G Q S z r1 r2 k => by
  obtain ⟨a, vs, rfl, ha, ra⟩ := S.la h1 r1
  obtain ⟨c, ws, rfl, hc, rc⟩ := S.la h2 r2
  refine ⟨a, c, vs, ws, rfl, rfl, ha, hc, by rw [← ra.length, ← rc.length]; exact Nat.le_trans hl (by decide), fun p hp => ?_⟩
  obtain ⟨S2, sg⟩ := S.frz hp (.lst (vs ++ ws))
  exact k _ _ _ _ ⟨rfl, rfl⟩ ⟨_, S2, mR _ _ sg z, Rep.lst_iff.mpr ⟨p, _, rfl, upd_same, (ra.append rc).mono sg⟩⟩
theorem o_catT (hx : xs ≠ []) (hl : xs.length + ys.length ≤ 100000) : OW X b (binaryOp .Add) M (.tup xs) (.tup ys) (One M (.tup (xs ++ ys))) := ow_of op_catT fun R mR x y H G Q S z r1 r2 k => by
  obtain ⟨a, vs, rfl, ha, ra⟩ := Rep.tup_iff.mp r1
  obtain ⟨c, ws, rfl, hc, rc⟩ := Rep.tup_iff.mp r2
  refine ⟨a, c, vs, ws, rfl, rfl, SqT.of (S.gh _ _ ha), SqT.of (S.gh _ _ hc), ?_, by rw [← ra.length, ← rc.length]; exact Nat.le_trans hl (by decide), fun e => ?_, fun e p hp => ?_⟩
  · intro e; subst e; exact hx (List.eq_nil_of_length_eq_zero ra.length)
  · subst e
    have e : ys = [] := List.eq_nil_of_length_eq_zero rc.length
    subst e
    exact k _ _ _ _ ⟨rfl, rfl⟩ ⟨G, S, z, by rw [List.append_nil]; exact r1⟩
  · obtain ⟨S2, sg⟩ := S.frz hp (.tup (vs ++ ws))
    exact k _ _ _ _ ⟨rfl, rfl⟩ ⟨_, S2, mR _ _ sg z, Rep.tup_iff.mpr ⟨p, _, rfl, upd_same, (ra.append rc).mono sg⟩⟩
theorem reps_rep {K : Fg} {G : Hp} {xs : List D} {vs : List V} (r : Reps K G xs vs) : ∀ n : Nat, Reps K G (List.replicate n xs).flatten (List.replicate n vs).flatten
  | 0 => .nil
  | n + 1 => by
    rw [List.replicate_succ, List.replicate_succ, List.flatten_cons, List.flatten_cons]
    exact r.append (reps_rep r n)
theorem o_rep {i : Int} (h1 : LA M d1 xs) (h0 : -1000000 ≤ i) (h2 : i ≤ 1000000) (hl : xs.length * i.toNat ≤ 100000) : OW X b (binaryOp .Mult) M d1 (.int i) (One M (.lst (List.replicate i.toNat xs).flatten)) := ow_of op_rep fun R mR x y H G Q S z r1 r2 k => by
  obtain ⟨a, vs, rfl, ha, ra⟩ := S.la h1 r1
  refine ⟨a, i, vs, rfl, Rep.int_iff.mp r2, ha, by omega, by omega, by rw [← ra.length]; exact Nat.le_trans hl (by decide), fun p hp => ?_⟩
  obtain ⟨S2, sg⟩ := S.frz hp (.lst (List.replicate i.toNat vs).flatten)
  exact k _ _ _ _ ⟨rfl, rfl⟩ ⟨_, S2, mR _ _ sg z, Rep.lst_iff.mpr ⟨p, _, rfl, upd_same, (reps_rep ra _).mono sg⟩⟩
theorem c_lenA (h1 : LA M d1 xs) : CW X b (.builtin "len") M [d1] (One M (.int xs.length)) := cw_of call_len_seq fun R mR vs H G Q S z r k => by
  obtain ⟨v, rfl, h⟩ := reps1 r
  obtain ⟨a, ws, rfl, ha, rs⟩ := S.la h1 h
  exact ⟨a, ws, rfl, .inl (SqL.of ha), k _ _ _ H ⟨rfl, rfl⟩ ⟨G, S, z, Rep.int_iff.mpr (by rw [rs.length])⟩⟩
theorem x_la {i : Int} (h1 : LA M d1 xs) (h : atI xs i = some d) : XW X b M d1 (.int i) (One M d) := xw_of ix_list fun R mR x y H G Q S z r1 r2 k => by
  obtain ⟨a, vs, e, ha, rs⟩ := S.la h1 r1
  obtain ⟨v, hv, rv⟩ := ixN_reps rs h
  exact ⟨a, vs, i, v, e, Rep.int_iff.mp r2, SqL.of ha, hv, k M d v H ⟨rfl, rfl⟩ ⟨G, S, z, rv⟩⟩
/-! ### cut -/
def cutD (xs : List D) (lo hi : Option Int) : List D := (xs.drop (HT.sIx xs.length 0 lo)).take (HT.sIx xs.length xs.length hi - HT.sIx xs.length 0 lo)
theorem Reps.cut {vs : List V} (r : Reps K G xs vs) (lo hi : Option Int) : Reps K G (cutD xs lo hi) (cutV vs lo hi) := by
  unfold cutD cutV
  rw [r.length]
  exact (r.drop _).take _
/-- a part of a slice -/
inductive PW' (X : Cx) (b : Bs) (δ : Od) (M : Mp) : Option Expr → Option Int → Prop
  | none : PW' X b δ M none none
  | some {e : Expr} {i : Int} : EV X b δ M e (.int i) → PW' X b δ M (some e) (some i)
def WP (X : Cx) (e : Option Expr) : TO := match e with
  | none => tNoPart
  | some e => tPart (WE X e)
theorem po_wp {X : Cx} {e : Option Expr} : PO X e (WP X e) := by
  cases e with
  | none => exact po_none
  | some e => exact po_some pe_we
theorem PW'.run {pe : Option Expr} {pi : Option Int} (h : PW' X b δ M pe pi) {R : Hp → Prop} (mR : Mono R) {σ : L2.St} {H : Hp} {Q : Option Int → Hp → Prop} (SH : SS X.K b M (RE X.K σ δ R) H) (k : ∀ H', SS X.K b M (RE X.K σ δ R) H' → Q pi H') : WP X pe σ H Q := by
  cases h with
  | none => exact k H SH
  | @some e i h =>
    refine h R mR σ H _ SH (fun M1 d v H1 p S1 => ?_) .nx
    obtain ⟨rfl, rfl⟩ := p
    obtain ⟨G, S1, z1, z2, z3⟩ := S1
    exact ⟨i, Rep.int_iff.mp z3, k H1 ⟨G, S1, z1, z2⟩⟩
def WSl (X : Cx) : V → Option Int → Option Int → Hp → VK → Prop := fun x lo hi H Q => rSlL X.K x lo hi H Q ∨ rSlT X.K x lo hi H Q
theorem ev_slice {lo hi : Option Expr} {l h : Option Int} (h1 : EV X b δ M e d1) (h2 : PW' X b δ M lo l) (h3 : PW' X b δ M hi h)
    (hq : ∀ (R : Hp → Prop), Mono R → ∀ (x : V) (H G : Hp) (Q : VK), SO X.K b M G H → R G → Rep X.K G d1 x → (∀ v H', SS X.K b M (fun G => R G ∧ Rep X.K G d v) H' → Q v H') → WSl X x l h H Q) : EV X b δ M (.Subscript e (.Slice lo hi none p2) pos) d := fun R mR σ H Q SH k kx => by
  refine we_of (pe_slice (sl_list.or sl_tup) pe_we po_wp po_wp) ?_
  refine h1 R mR σ H _ SH (fun M1 d' v H1 p1 S1 => ?_) .nx
  obtain ⟨rfl, rfl⟩ := p1
  refine h2.run (R := fun G => R G ∧ Rep X.K G d1 v) (mR.and .rep) S1 fun H2 S2 => ?_
  refine h3.run (R := fun G => R G ∧ Rep X.K G d1 v) (mR.and .rep) S2 fun H3 S3 => ?_
  obtain ⟨G, S3, z1, z2, z3⟩ := S3
  exact hq (fun G => Env X.K G σ δ ∧ R G) (Mono.env.and mR) v H3 G Q S3 ⟨z1, z2⟩ z3 fun v' H' S' => k M d v' H' ⟨rfl, rfl⟩ (S'.imp fun G z => ⟨z.1.1, z.1.2, z.2⟩)
theorem ev_cut {lo hi : Option Expr} {l h : Option Int} (h1 : EV X b δ M e d1) (hl : LA M d1 xs) (h2 : PW' X b δ M lo l) (h3 : PW' X b δ M hi h) : EV X b δ M (.Subscript e (.Slice lo hi none p2) pos) (.lst (cutD xs l h)) :=
  ev_slice h1 h2 h3 fun R mR x H G Q S z r k => by
    obtain ⟨a, vs, rfl, ha, rs⟩ := S.la hl r
    refine .inl ⟨a, vs, rfl, SqL.of ha, fun p hp => ?_⟩
    obtain ⟨S2, sg⟩ := S.frz hp (.lst (cutV vs l h))
    exact k _ _ ⟨_, S2, mR _ _ sg z, Rep.lst_iff.mpr ⟨p, _, rfl, upd_same, (rs.cut l h).mono sg⟩⟩
theorem ev_cutS {ns : List Int} {lo hi : Option Expr} {l h : Option Int} (h1 : EV X b δ M e (.scr ns)) (h2 : PW' X b δ M lo l) (h3 : PW' X b δ M hi h) : EV X b δ M (.Subscript e (.Slice lo hi none p2) pos) (.lst (cutD (ns.map D.int) l h)) :=
  ev_slice h1 h2 h3 fun R mR x H G Q S z r k => by
    obtain ⟨a, rfl, ha⟩ := Rep.scr_iff.mp r
    refine .inl ⟨a, _, rfl, S.gh.seq ha, fun p hp => ?_⟩
    obtain ⟨S2, sg⟩ := S.frz hp (.lst (cutV (ns.map V.int) l h))
    exact k _ _ ⟨_, S2, mR _ _ sg z, Rep.lst_iff.mpr ⟨p, _, rfl, upd_same, (Reps.cut (Reps.of_ints ns) l h)⟩⟩
theorem ev_cutT {lo hi : Option Expr} {l h : Option Int} (h1 : EV X b δ M e (.tup xs)) (h2 : PW' X b δ M lo l) (h3 : PW' X b δ M hi h) (hn : ¬ (HT.sIx xs.length 0 l = 0 ∧ HT.sIx xs.length xs.length h = xs.length)) : EV X b δ M (.Subscript e (.Slice lo hi none p2) pos) (.tup (cutD xs l h)) :=
  ev_slice h1 h2 h3 fun R mR x H G Q S z r k => by
    obtain ⟨a, vs, rfl, ha, rs⟩ := Rep.tup_iff.mp r
    refine .inr ⟨a, vs, rfl, SqT.of (S.gh _ _ ha), by rw [← rs.length]; exact hn, fun p hp => ?_⟩
    obtain ⟨S2, sg⟩ := S.frz hp (.tup (cutV vs l h))
    exact k _ _ ⟨_, S2, mR _ _ sg z, Rep.tup_iff.mpr ⟨p, _, rfl, upd_same, (rs.cut l h).mono sg⟩⟩
/-! ### in -/
theorem inV_int (i : Int) : ∀ ns : List Int, inV (.int i) (ns.map V.int) = decide (i ∈ ns)
  | [] => rfl
  | n :: ns => by
    show (eqV (.int n) (.int i) || inV (.int i) (ns.map V.int)) = _
    rw [inV_int i ns]
    have e : eqV (.int n) (.int i) = decide (i = n) := by
      show (n == i) = _
      rw [Bool.beq_eq_decide_eq]
      exact decide_eq_decide.mpr ⟨Eq.symm, Eq.symm⟩
    rw [e]
    by_cases h : i = n
    · simp [h]
    · by_cases h2 : i ∈ ns <;> simp [h, h2]
theorem flat_ints (ns : List Int) : (ns.map V.int).all flatV = true := by
  rw [List.all_map]; exact List.all_eq_true.mpr fun _ _ => rfl
theorem o_inI {i : Int} {ns : List Int} (h : LA M d2 (ns.map D.int)) : OW X b (compareOp .In) M (.int i) d2 (One M (.bl (decide (i ∈ ns)))) := ow_of op_in_seq fun R mR x y H G Q S z r1 r2 k => by
  obtain ⟨a, vs, rfl, ha, rs⟩ := S.la h r2
  have e := rs.ints
  subst e
  refine ⟨a, _, rfl, .inl (SqL.of ha), by rw [Rep.int_iff.mp r1] <;> rfl, flat_ints ns, ?_⟩
  rw [if_neg Bool.false_ne_true, Rep.int_iff.mp r1, inV_int]
  exact k _ _ _ H ⟨rfl, rfl⟩ ⟨G, S, z, Rep.bl_iff.mpr rfl⟩
theorem o_notinI {i : Int} {ns : List Int} (h : LA M d2 (ns.map D.int)) : OW X b (compareOp .NotIn) M (.int i) d2 (One M (.bl (!decide (i ∈ ns)))) := ow_of op_notIn_seq fun R mR x y H G Q S z r1 r2 k => by
  obtain ⟨a, vs, rfl, ha, rs⟩ := S.la h r2
  have e := rs.ints
  subst e
  refine ⟨a, _, rfl, .inl (SqL.of ha), by rw [Rep.int_iff.mp r1] <;> rfl, flat_ints ns, ?_⟩
  rw [if_pos rfl, Rep.int_iff.mp r1, inV_int]
  exact k _ _ _ H ⟨rfl, rfl⟩ ⟨G, S, z, Rep.bl_iff.mpr rfl⟩
theorem ev_count {i : Int} {ns : List Int} (h1 : EV X b δ M o d1) (hl : LA M d1 (ns.map D.int)) (h2 : EV X b δ M e (.int i))
    (hbase : attributeBase o "count" X.env (eval o X.env) = eval o X.env := by rfl)
    (hfew : ((backTo cpos (starEach [e] X.env)).all (fun x => !x.1) && (backToKw cpos (keywordEach [] X.env)).all (fun x => x.1.isSome)
      && decide (([e] : List Expr).length + ([] : List Keyword).length + (if ([] : List Keyword).isEmpty then 0 else 1) < 30)) = true := by rfl)
    (hline : (apos.endLine == cpos.line) = true := by rfl) (hs : starEach [e] X.env = (false, eval e X.env) :: starEach [] X.env := by rfl) (hplain : (backTo cpos (starEach [] X.env)).any (·.1) = false := by rfl) : EV X b δ M (.Call (.Attribute o "count" apos) [e] [] cpos) (.int (ns.count i : Nat)) := by
  refine ew_bm PySem.F.plainAttrs_list PySem.F.slot_list_count PySem.F.type_list_count (h1.to ⟨fun G H v S r => ?_, ?_⟩) hbase hfew hline hs hplain
  · obtain ⟨a, vs, rfl, ha, rs⟩ := S.la hl r
    exact .inl ⟨rfl, _, SqL.of ha⟩
  · refine EWs.to (evs_cons h2 evs_nil hs) (mw_of mt_lcount fun R mR v vs H G Q S z r rs k => ?_)
    obtain ⟨a, ws, rfl, ha, ra⟩ := S.la hl r
    have e := ra.ints
    subst e
    obtain ⟨w, rfl, rw'⟩ := reps1 rs
    exact ⟨a, ns, i, rfl, by rw [Rep.int_iff.mp rw'], SqL.of ha, k _ _ _ H ⟨rfl, rfl⟩ ⟨G, S, z, Rep.int_iff.mpr rfl⟩⟩
end
/-! ### == of data -/
mutual
def toPy : D → PyData
  | .non => .none
  | .bl b => .bool b
  | .int i => .int i
  | .str s => .str s
  | .lst xs => .list (toPys xs)
  | .tup xs => .tuple (toPys xs)
  | .scr _ => .none
  | .loc _ => .none
def toPys : List D → List PyData
  | [] => []
  | d :: ds => toPy d :: toPys ds
end
mutual
/-- plain data -/
def okD : D → Bool
  | .non => true
  | .bl _ => true
  | .int _ => true
  | .str s => PyData.strOk s
  | .lst xs => okDs xs
  | .tup xs => okDs xs
  | .scr _ => false
  | .loc _ => false
def okDs : List D → Bool
  | [] => true
  | d :: ds => okD d && okDs ds
end
mutual
def depD : D → Nat
  | .lst xs => depDs xs + 1
  | .tup xs => depDs xs + 1
  | .non => 0
  | .bl _ => 0
  | .int _ => 0
  | .str _ => 0
  | .scr _ => 0
  | .loc _ => 0
def depDs : List D → Nat
  | [] => 0
  | d :: ds => max (depD d) (depDs ds)
end
mutual
theorem can_okD : ∀ d : D, okD d = true → (toPy d).canLay0 = true
  | .non, _ => rfl
  | .bl _, _ => rfl
  | .int _, _ => rfl
  | .str s, h => by
    simp only [toPy, PyData.canLay0]
    simpa only [okD] using h
  | .lst xs, h => by
    simp only [toPy, PyData.canLay0]
    exact can_okDs xs (by simpa only [okD] using h)
  | .tup xs, h => by
    simp only [toPy, PyData.canLay0]
    exact can_okDs xs (by simpa only [okD] using h)
  | .scr _, h => by simp [okD] at h
  | .loc _, h => by simp [okD] at h
theorem can_okDs : ∀ ds : List D, okDs ds = true → PyData.canLayAll0 (toPys ds) = true
  | [], _ => rfl
  | d :: ds, h => by
    simp only [okDs, Bool.and_eq_true] at h
    simp only [toPys, PyData.canLayAll0, Bool.and_eq_true]
    exact ⟨can_okD d h.1, can_okDs ds h.2⟩
end
mutual
theorem dep_toPy : ∀ d : D, (toPy d).depth = depD d
  | .non => rfl
  | .bl _ => rfl
  | .int _ => rfl
  | .str _ => rfl
  | .lst xs => by simp only [toPy, PyData.depth, depD, dep_toPys xs]
  | .tup xs => by simp only [toPy, PyData.depth, depD, dep_toPys xs]
  | .scr _ => rfl
  | .loc _ => rfl
theorem dep_toPys : ∀ ds : List D, PyData.depthAll (toPys ds) = depDs ds
  | [] => rfl
  | d :: ds => by simp only [toPys, PyData.depthAll, depDs, dep_toPy d, dep_toPys ds]
end
theorem okDs_iff : ∀ ds : List D, okDs ds = true ↔ ∀ d ∈ ds, okD d = true
  | [] => by simp [okDs]
  | d :: ds => by simp only [okDs, Bool.and_eq_true, okDs_iff ds, List.mem_cons, forall_eq_or_imp]
theorem depDs_le {n : Nat} : ∀ ds : List D, (∀ d ∈ ds, depD d ≤ n) → depDs ds ≤ n
  | [], _ => Nat.zero_le _
  | d :: ds, h => by
    simp only [depDs]
    exact Nat.max_le.mpr ⟨h d List.mem_cons_self, depDs_le ds fun d' h' => h d' (List.mem_cons_of_mem _ h')⟩
/-- may be compared -/
def Okd (d : D) : Prop := okD d = true ∧ depD d ≤ 60
mutual
theorem Rep.dp {K : Fg} {G H : Hp} (e : Same G H) : ∀ (d : D) (v : V), okD d = true → Rep K G d v → Dp K H v (toPy d)
  | .non, v, _, r => by rw [Rep.non_iff.mp r]; exact .non
  | .bl b, v, _, r => by rw [Rep.bl_iff.mp r]; exact .bl b
  | .int b, v, _, r => by rw [Rep.int_iff.mp r]; exact .int b
  | .str b, v, _, r => by rw [Rep.str_iff.mp r]; exact .str b
  | .lst xs, v, h, r => by
    obtain ⟨a, vs, rfl, ha, rs⟩ := Rep.lst_iff.mp r
    simp only [toPy]
    exact .lst (SqL.of (e _ _ ha)) (Reps.dp e xs vs (by simpa only [okD] using h) rs)
  | .tup xs, v, h, r => by
    obtain ⟨a, vs, rfl, ha, rs⟩ := Rep.tup_iff.mp r
    simp only [toPy]
    exact .tup (SqT.of (e _ _ ha)) (Reps.dp e xs vs (by simpa only [okD] using h) rs)
  | .scr _, v, h, r => by simp [okD] at h
  | .loc _, v, h, r => by simp [okD] at h
theorem Reps.dp {K : Fg} {G H : Hp} (e : Same G H) : ∀ (ds : List D) (vs : List V), okDs ds = true → Reps K G ds vs → DpAll K H vs (toPys ds)
  | [], vs, _, r => by rw [r.nil_inv]; exact .nil
  | d :: ds, vs, h, r => by
    simp only [okDs, Bool.and_eq_true] at h
    obtain ⟨v, r', rfl, h1, t⟩ := r.cons_inv
    simp only [toPys]
    exact .cons (Rep.dp e d v h.1 h1) (Reps.dp e ds r' h.2 t)
end
theorem Okd.shaped {d : D} (h : Okd d) : SeqAt.shaped (toPy d) = true := by
  unfold SeqAt.shaped
  rw [can_okD d h.1, dep_toPy, decide_eq_true (Nat.le_trans h.2 (by decide))]
  rfl
/-- == of data -/
def deq (a b : D) : Bool := PyData.eqv (toPy a) (toPy b)
def deqs (a b : List D) : Bool := PyData.eqvAll (toPys a) (toPys b)
theorem deq_refl {d : D} (h : okD d = true) : deq d d = true := SeqAt.eqv_refl _ (can_okD d h)
theorem deq_int {i j : Int} : deq (.int i) (.int j) = decide (i = j) := by
  show (i == j) = _
  rw [Bool.beq_eq_decide_eq]
theorem deq_lst {xs ys : List D} : deq (.lst xs) (.lst ys) = deqs xs ys := by simp only [deq, deqs, toPy, PyData.eqv]
theorem deq_tup {xs ys : List D} : deq (.tup xs) (.tup ys) = deqs xs ys := by simp only [deq, deqs, toPy, PyData.eqv]
theorem deqs_nil : deqs [] [] = true := rfl
theorem deqs_cons {x y : D} {xs ys : List D} : deqs (x :: xs) (y :: ys) = (deq x y && deqs xs ys) := by simp only [deq, deqs, toPys, PyData.eqvAll]
theorem deqs_l {x : D} {xs : List D} : deqs (x :: xs) [] = false := by simp only [deqs, toPys, PyData.eqvAll]
theorem deqs_r {x : D} {xs : List D} : deqs [] (x :: xs) = false := by simp only [deqs, toPys, PyData.eqvAll]
theorem deqs_nil_iff {xs : List D} : deqs xs [] = xs.isEmpty := by cases xs with
  | nil => rfl
  | cons x xs => exact deqs_l
section
variable {X : Cx} {b : Bs} {M : Mp} {d1 d2 : D}
/-- what stands for data: frozen, or a cell that is a list of such -/
inductive DA (M : Mp) : D → D → Prop
  | f {d : D} : DA M d d
  | c {a : Addr} {xs : List D} : M a = some (.lst xs) → DA M (.loc (.ref a)) (.lst xs)
theorem DA.dp {K : Fg} {G H : Hp} {v : V} (S : SO K b M G H) (h : DA M d1 d2) (o : okD d2 = true) (r : Rep K G d1 v) : Dp K H v (toPy d2) := by
  cases h with
  | f => exact r.dp S.gh _ _ o
  | @c a xs hm =>
    obtain ⟨_, ob, ho, vs, rfl, rs⟩ := S.cel a _ hm
    rw [Rep.loc_iff] at r
    subst r
    simp only [toPy]
    exact .lst (SqL.of ho) (Reps.dp S.gh xs vs (by simpa only [okD] using o) rs)
theorem o_eqD {e1 e2 : D} (hu : X.A.units + 64 < cLine) (h1 : DA M d1 e1) (h2 : DA M d2 e2) (o1 : Okd e1) (o2 : Okd e2) : OW X b (compareOp .Eq) M d1 d2 (One M (.bl (deq e1 e2))) := ow_of (op_eqD hu) fun R mR x y H G Q S z r1 r2 k =>
  ⟨_, _, h1.dp S o1.1 r1, h2.dp S o2.1 r2, o1.shaped, o2.shaped, k _ _ _ H ⟨rfl, rfl⟩ ⟨G, S, z, Rep.bl_iff.mpr rfl⟩⟩
theorem o_neD {e1 e2 : D} (hu : X.A.units + 64 < cLine) (h1 : DA M d1 e1) (h2 : DA M d2 e2) (o1 : Okd e1) (o2 : Okd e2) : OW X b (compareOp .NotEq) M d1 d2 (One M (.bl (!deq e1 e2))) := ow_of (op_neD hu) fun R mR x y H G Q S z r1 r2 k =>
  ⟨_, _, h1.dp S o1.1 r1, h2.dp S o2.1 r2, o1.shaped, o2.shaped, k _ _ _ H ⟨rfl, rfl⟩ ⟨G, S, z, Rep.bl_iff.mpr rfl⟩⟩
end
end D4
end

section
set_option maxRecDepth 100000
set_option maxHeartbeats 4000000
/-! D4i: isinstance, enumerate, zip, a text's signs, list(d.values()). -/
namespace D4
open PySem L2
/-- a value's type -/
inductive TyD (M : Mp) : D → String → Prop
  | non : TyD M .non "NoneType"
  | bl {c : Bool} : TyD M (.bl c) "bool"
  | int {i : Int} : TyD M (.int i) "int"
  | str {s : Str} : TyD M (.str s) "str"
  | lst {xs : List D} : TyD M (.lst xs) "list"
  | tup {xs : List D} : TyD M (.tup xs) "tuple"
  | cl {a : Addr} {xs : List D} : M a = some (.lst xs) → TyD M (.loc (.ref a)) "list"
  | cd {a : Addr} {kvs : List (Int × D)} : M a = some (.dI kvs) → TyD M (.loc (.ref a)) "dict"
section
variable {X : Cx} {b : Bs} {δ : Od} {M : Mp} {G H : Hp} {K : Fg} {e o e1 e2 tg iter elt : Expr} {es ts ifs : List Expr} {Φ : Mp → D → Prop} {Ψ : Xs} {d d1 d2 : D} {ds xs ys : List D} {pos p p2 apos cpos tpos : Pos} {a : Addr} {x : Str} {v : V}
theorem TyD.tyx {t : String} (h : TyD M d t) (S : SO K b M G H) (r : Rep K G d v) : TyX K H v (.type t) := by
  cases h with
  | non => rw [Rep.non_iff.mp r]; exact .base .non
  | bl => rw [Rep.bl_iff.mp r]; exact .base (.bl _)
  | int => rw [Rep.int_iff.mp r]; exact .base (.int _)
  | str => rw [Rep.str_iff.mp r]; exact .base (.str _)
  | lst =>
    obtain ⟨a, vs, rfl, ha, rs⟩ := Rep.lst_iff.mp r
    exact .base (.lst (S.gh _ _ ha))
  | tup =>
    obtain ⟨a, vs, rfl, ha, rs⟩ := Rep.tup_iff.mp r
    exact .base (.tup (S.gh _ _ ha))
  | cl hm =>
    obtain ⟨_, ob, ho, vs, rfl, rs⟩ := S.cel _ _ hm
    rw [Rep.loc_iff.mp r]
    exact .base (.lst ho)
  | cd hm =>
    obtain ⟨_, ob, ho, vs, rfl, rs⟩ := S.cel _ _ hm
    rw [Rep.loc_iff.mp r]
    exact .base (.dK ho)
theorem c_isi {t T : String} {c : Bool} (h : TyD M d t) (hk : kitB t T = some c := by decide +kernel) : CW X b (.builtin "isinstance") M [d, .loc (.ty T)] (One M (.bl c)) := cw_of call_isi fun R mR vs H G Q S z r k => by
  obtain ⟨v, w, rfl, r1, r2⟩ := reps2 r
  rw [Rep.loc_iff] at r2
  subst r2
  exact ⟨v, .ty T, .type t, .type T, c, rfl, .ty T, h.tyx S r1, kit_ty hk, k _ _ _ H ⟨rfl, rfl⟩ ⟨G, S, z, Rep.bl_iff.mpr rfl⟩⟩
/-! ### enumerate, zip, signs -/
def enumD : Nat → List D → List D
  | _, [] => []
  | i, x :: xs => .tup [.int (i : Nat), x] :: enumD (i + 1) xs
theorem enumD_len : ∀ (i : Nat) (xs : List D), (enumD i xs).length = xs.length
  | _, [] => rfl
  | i, x :: xs => by show (enumD (i + 1) xs).length + 1 = xs.length + 1; rw [enumD_len]
theorem enumD_get : ∀ (j : Nat) (xs : List D) (i : Nat), (enumD j xs)[i]? = xs[i]?.map fun x => .tup [.int ((j + i : Nat) : Int), x]
  | j, [], i => by simp [enumD]
  | j, x :: xs, 0 => by simp [enumD]
  | j, x :: xs, i + 1 => by
    show (enumD (j + 1) xs)[i]? = xs[i]?.map _
    rw [enumD_get, show j + 1 + i = j + (i + 1) by omega]
theorem iw_enum {elts : List Expr} {kk : Nat} {Φ : Mp → (Mp → Prop) → List D → Prop} (hg : Gl X "enumerate") (hm : X.mg "enumerate" = none) (h : EV X b δ M e (.lst xs)) (hΦ : Φ M (fun _ => True) (enumD 0 xs))
    (hs : starEach [e] X.env = [(false, eval e X.env)] := by rfl) (hs1 : starEach [e] X.env = (false, eval e X.env) :: starEach [] X.env := by rfl) : IW X b δ M (.Tuple elts kk tpos) (.Call (.Name "enumerate" p) [e] [] pos) Φ Ψ := fun R mR σ H Q S k kx => by
  refine wi_of (pi_enum hg hm (pa_cons pe_we pa_nil hs1) hs) ?_
  refine h R mR σ H _ S (fun M1 d v H1 p S1 => ?_) .nx
  obtain ⟨rfl, rfl⟩ := p
  obtain ⟨G, S1, z1, z2, z3⟩ := S1
  obtain ⟨a, vs, rfl, ha, rs⟩ := Rep.lst_iff.mp z3
  refine ⟨a, vs, rfl, SqL.of (S1.gh _ _ ha), ?_⟩
  refine k _ _ _ H1 _ (fun G => R G ∧ G a = some (.lst vs) ∧ Reps X.K G xs vs) hΦ (mR.and (Mono.and (fun G G' e h => e _ _ h) .reps)) (fun G z => z.1) ⟨G, S1, z1, z2, ha, rs⟩ ?_
  refine ⟨_, _, by rw [enumD_len, rs.length]; exact walk_enum (K := X.K) (a := a) (xs := vs), ?ga, ?gb⟩
  case ga => exact fun M' H' _ ⟨G, S', z⟩ => SqL.of (S'.gh _ _ z.2.1)
  case gb =>
    intro i d x M' R' H' H'' mR' hi _ ⟨G, S', r', z⟩ y
    obtain ⟨T, x1, x2, rfl, hT, rfl, hx1, hx2⟩ := y
    rw [enumD_get] at hi
    have hx1 : some (V.int (i : Nat)) = some x1 := hx1
    have hx2 : vs[i]? = some x2 := hx2
    cases hx1
    cases q : xs[i]? with
    | none => rw [q] at hi; cases hi
    | some x =>
      rw [q] at hi
      cases hi
      obtain ⟨w, q1, q2⟩ := z.2.2.get q
      rw [hx2] at q1
      cases q1
      obtain ⟨S2, sg⟩ := S'.frz hT (.tup [.int (i : Nat), x2])
      refine ⟨_, S2, mR' _ _ sg r', (mR.and (Mono.and (fun G G' e h => e _ _ h) .reps)) _ _ sg z, Rep.tup_iff.mpr ⟨T, _, rfl, upd_same, .cons (Rep.int_iff.mpr (by simp)) (.cons (q2.mono sg) .nil)⟩⟩
def zipD : List D → List D → List D
  | x :: xs, y :: ys => .tup [x, y] :: zipD xs ys
  | _, _ => []
theorem zipD_len : ∀ (xs ys : List D), (zipD xs ys).length = min xs.length ys.length
  | [], ys => by simp [zipD]
  | x :: xs, [] => by simp [zipD]
  | x :: xs, y :: ys => by
    show (zipD xs ys).length + 1 = _
    rw [zipD_len, List.length_cons, List.length_cons]; omega
theorem zipD_get : ∀ (xs ys : List D) (i : Nat) (d : D), (zipD xs ys)[i]? = some d → ∃ x y, xs[i]? = some x ∧ ys[i]? = some y ∧ d = .tup [x, y]
  | [], ys, i, d, h => by simp [zipD] at h
  | x :: xs, [], i, d, h => by simp [zipD] at h
  | x :: xs, y :: ys, 0, d, h => ⟨x, y, rfl, rfl, by simpa [zipD] using h.symm⟩
  | x :: xs, y :: ys, i + 1, d, h => zipD_get xs ys i d h
theorem iw_zip {elts : List Expr} {kk : Nat} {Φ : Mp → (Mp → Prop) → List D → Prop} (hg : Gl X "zip") (hm : X.mg "zip" = none) (h1 : EV X b δ M e1 (.lst xs)) (h2 : EV X b δ M e2 (.lst ys)) (hΦ : Φ M (fun _ => True) (zipD xs ys))
    (hs1 : starEach [e1, e2] X.env = (false, eval e1 X.env) :: starEach [e2] X.env := by rfl) (hs2 : starEach [e2] X.env = (false, eval e2 X.env) :: starEach [] X.env := by rfl)
    (hpi : ∀ ta, PA X [e1, e2] ta → PI X (.Tuple elts kk tpos) (.Call (.Name "zip" p) [e1, e2] [] pos) (iZip X.K ta) := by exact fun ta ha => pi_zip (by assumption) (by assumption) ha) : IW X b δ M (.Tuple elts kk tpos) (.Call (.Name "zip" p) [e1, e2] [] pos) Φ Ψ := fun R mR σ H Q S k kx => by
  refine wi_of (hpi _ (pa_cons pe_we (pa_cons pe_we pa_nil hs2) hs1)) ?_
  refine h1 R mR σ H _ S (fun M1 d v H1 p S1 => ?_) .nx
  obtain ⟨rfl, rfl⟩ := p
  refine h2 (fun G => R G ∧ Rep X.K G (.lst xs) v) (mR.and .rep) σ H1 _ S1 (fun M2 d w H2 p2 S2 => ?_) .nx
  obtain ⟨rfl, rfl⟩ := p2
  obtain ⟨G, S3, z1, ⟨z2, z3⟩, z4⟩ := S2
  obtain ⟨a, vs, rfl, ha, rs⟩ := Rep.lst_iff.mp z3
  obtain ⟨c, ws, rfl, hc, rc⟩ := Rep.lst_iff.mp z4
  refine ⟨a, c, vs, ws, rfl, SqL.of (S3.gh _ _ ha), SqL.of (S3.gh _ _ hc), ?_⟩
  refine k _ _ _ H2 _ (fun G => R G ∧ (G a = some (.lst vs) ∧ Reps X.K G xs vs) ∧ (G c = some (.lst ws) ∧ Reps X.K G ys ws)) hΦ (mR.and (Mono.and (Mono.and (fun G G' e h => e _ _ h) .reps) (Mono.and (fun G G' e h => e _ _ h) .reps))) (fun G z => z.1) ⟨G, S3, z1, z2, ⟨ha, rs⟩, ⟨hc, rc⟩⟩ ?_
  refine ⟨_, _, by rw [zipD_len, rs.length, rc.length]; exact walk_zip (K := X.K) (a := a) (b := c) (xs := vs) (ys := ws) rfl, ?ga, ?gb⟩
  case ga => exact fun M' H' _ ⟨G, S', z⟩ => ⟨SqL.of (S'.gh _ _ z.2.1.1), SqL.of (S'.gh _ _ z.2.2.1)⟩
  case gb =>
    intro i d x M' R' H' H'' mR' hi _ ⟨G, S', r', z⟩ y
    obtain ⟨T, x1, x2, rfl, hT, rfl, hx1, hx2⟩ := y
    obtain ⟨y1, y2, q1, q2, rfl⟩ := zipD_get _ _ _ _ hi
    have hx1 : vs[i]? = some x1 := hx1
    have hx2 : ws[i]? = some x2 := hx2
    obtain ⟨w1, p1, p2⟩ := z.2.1.2.get q1
    obtain ⟨w2, p3, p4⟩ := z.2.2.2.get q2
    rw [hx1] at p1
    rw [hx2] at p3
    cases p1; cases p3
    obtain ⟨S2, sg⟩ := S'.frz hT (.tup [x1, x2])
    exact ⟨_, S2, mR' _ _ sg r', (mR.and (Mono.and (Mono.and (fun G G' e h => e _ _ h) .reps) (Mono.and (fun G G' e h => e _ _ h) .reps))) _ _ sg z, Rep.tup_iff.mpr ⟨T, _, rfl, upd_same, .cons (p2.mono sg) (.cons (p4.mono sg) .nil)⟩⟩
/-- a text, sign by sign -/
def signD (z : Str) : List D := z.cps.toList.map fun c => D.str ⟨#[c]⟩
theorem iw_str {z : Str} {Φ : Mp → (Mp → Prop) → List D → Prop} (h : EV X b δ M e (.str z)) (hΦ : Φ M (fun _ => True) (signD z)) : IW X b δ M tg e Φ Ψ := fun R mR σ H Q S k kx => by
  refine wi_of (pi_str pe_we) ?_
  refine h R mR σ H _ S (fun M1 d v H1 p S1 => ?_) .nx
  obtain ⟨rfl, rfl⟩ := p
  obtain ⟨G, S1, z1, z2, z3⟩ := S1
  refine ⟨z, Rep.str_iff.mp z3, ?_⟩
  refine k _ _ _ H1 _ R hΦ mR (fun G z => z) ⟨G, S1, z1, z2⟩ ?_
  refine ⟨_, _, by unfold signD; rw [List.length_map, Array.length_toList]; exact walk_str (z := z), ?ga, ?gb⟩
  case ga => exact fun M' H' _ _ => trivial
  case gb =>
    intro i d x M' R' H' H'' mR' hi _ ⟨G, S', r', z'⟩ y
    obtain ⟨rfl, c, hc, rfl⟩ := y
    unfold signD at hi
    rw [List.getElem?_map, Array.getElem?_toList, hc] at hi
    cases hi
    exact ⟨G, S', r', z', Rep.str_iff.mpr rfl⟩
end
/-! ### list(d.values()) -/
section
variable {X : Cx} {e : Expr} {te : TE} {p pos apos cpos : Pos}
def DictAtL (H : Hp) (d : Addr) (vs : List V) : Prop := (∃ kvs, Rd H d (.dK kvs) ∧ vs = kvs.map (·.2)) ∨ ∃ kvs, Rd H d (.dT kvs) ∧ vs = kvs.map (·.2)
def tListVals (te : TE) : TE := fun σ H Q => te σ H fun x H1 => ∃ d vs, x = .ref d ∧ DictAtL H1 d vs ∧ ∀ q, H1 q = none → Q (.ref q) (upd H1 q (.lst vs))
theorem kv_raw {pins : List (Addr × Obj)} {σ : L2.St} {H : Hp} {s : Shared} {d : Addr} {vs : List V} (I : Inv X pins σ H s) (h : DictAtL H d vs) :
    (d == sysModules) = false ∧ vs.length ≤ sizeLine ∧ ∃ es ep, s.heap.DictRaw d es ep ∧ es.size = vs.length ∧ ∀ i (hi : i < es.size) (v : V), vs[i]? = some v → RelV v es[i].val := by
  rcases h with ⟨kvs, hr, rfl⟩ | ⟨kvs, hr, rfl⟩
  · obtain ⟨z, lo, ws, rk, hd⟩ := dk_rd I.hok hr
    obtain ⟨es, ep, h1, h2, h3⟩ := hd.raw
    refine ⟨lo, by rw [List.length_map]; exact z, es, ep, h1, by rw [List.length_map, h2]; exact (Paired.length rk).symm, fun i hi v hv => ?_⟩
    rw [List.getElem?_map] at hv
    cases q : kvs[i]? with
    | none => rw [q] at hv; cases hv
    | some kv =>
      rw [q] at hv
      cases hv
      obtain ⟨u, q1, q2⟩ := kv_get rk (k := kv.1) (v := kv.2) q
      rw [(h3 i hi _ _ q1).2]
      exact q2
  · obtain ⟨z, lo, xs, rk, o, es, ep, h1, h2, h3, h4, _⟩ := (show ObjOk X.prog X.w H s.heap d (.dT kvs) from hr.ok I.hok)
    have hlen : kvs.length = xs.length := Paired.length rk
    have he : es.size = xs.length := by
      have := congrArg List.length h4
      rw [List.length_map, Array.length_toList] at this
      exact this
    refine ⟨lo, by rw [List.length_map]; exact z, es, ep, ⟨o, h1, h2, h3⟩, by rw [List.length_map, he, hlen], fun i hi v hv => ?_⟩
    rw [List.getElem?_map] at hv
    cases q : kvs[i]? with
    | none => rw [q] at hv; cases hv
    | some kv =>
      rw [q] at hv
      cases hv
      obtain ⟨y, q1, q2⟩ := paired_get rk q
      have e1 : es.toList[i]? = some (entryOfKey (tupleKind (mixKind X.prog X.w)) y) := by rw [h4, List.getElem?_map, q1] <;> rfl
      have e2 : es[i] = entryOfKey (tupleKind (mixKind X.prog X.w)) y := by
        rw [Array.getElem?_toList, Array.getElem?_eq_getElem hi] at e1
        exact Option.some.inj e1
      rw [e2]
      exact q2.2.2
theorem pe_listVals (hc : X.calm = true) (he : PE X e te) (hg : Gl X "list") (hm : X.mg "list" = none) (hv : bootBuiltins "list" = some (.type "list")) (hbase : attributeBase e "values" X.env (eval e X.env) = eval e X.env := by rfl) (hline : (apos.endLine == cpos.line) = true := by rfl)
    (hs : starEach [.Call (.Attribute e "values" apos) [] [] cpos] X.env = (false, eval (.Call (.Attribute e "values" apos) [] [] cpos) X.env) :: starEach [] X.env := by rfl) :
    PE X (.Call (.Name "list" p) [.Call (.Attribute e "values" apos) [] [] cpos] [] pos) (tListVals te) := by
  refine ⟨fun pins s σ H Q I hq => ?_⟩
  refine wpAny_Call_Name_kw (ld_blt I hg hm hv ?_)
  refine PyProof.Rows.callWith_type1 ?_ hs rfl
  rw [hs]
  show wpAny _ _ (spliced ((false, eval (.Call (.Attribute e "values" apos) [] [] cpos) X.env) :: backTo pos (starEach [] X.env))) _ _ s
  refine Calls.spliced_cons ?_
  refine wpAny_Call_method (T := "dict") (id := "dict.values") hbase rfl hline F.plainAttrs_dict F.slot_dict_values F.type_dict_values (thn (he.run pins s σ H _ I hq) fun u s1 ⟨x, H1, I1, rx, d, vs, ex, hd, q⟩ => ?_)
  subst ex
  obtain rfl : u = Value.ref d := rx
  obtain ⟨lo, hz, es, ep, hraw, hsz, hval⟩ := kv_raw I1 hd
  have I2 : Inv X pins σ H1 { s1 with heap := s1.heap.push { cls := .type "dict_values", data := .fields #[.ref d] } } := I1.kept (t' := s1.toks) fun b ob q => Heap.get?_push_of_some _ q
  obtain ⟨o, ho, hex, hdat⟩ := id hraw
  refine ⟨hraw.typeIs, (fun a ea => by cases ea; exact ⟨o, ho, hex.2.1⟩), ?_⟩
  show wpAny _ _ (callWith cpos (.builtin "dict.values") [.ref d] [] []) _ X.xe s1
  refine method_meetsIn F.slot_dict_values F.entry_dict_values rfl (PySem.evalArgs_none ⟨rfl, hraw.typeIs, F.args_dict_values_1 _, _, meets_dict_values_raw d lo, ⟨es, ep, hraw⟩, ?_⟩)
  refine Calls.spliced_nil ?_
  have hraw2 : (s1.heap.push { cls := .type "dict_values", data := .fields #[.ref d] }).DictRaw d es ep := hraw.push _
  refine PySem.W.kdl_call (KdlSrc.rawValues (prog := X.prog) (w := X.w) (r := s1.heap.objs.size) (d := d) (es := es) (ep := ep)) (I1.ok.hd hc) ⟨⟨_, Heap.get?_push_size _ rfl, rfl, rfl⟩, hraw2⟩ (by rw [hsz]; exact hz) fun h' tk acc' c' hkeep hS hacc => ?_
  refine ⟨.ref _, _, I2.laid (o := .lst vs) hkeep (Nat.le_refl _) (show ObjOk X.prog X.w _ _ _ (.lst vs) from ⟨hz, acc'.toList, c', ?_, ?_⟩), rfl, q _ (I2.hok.fresh (Nat.le_refl _))⟩
  · have el : acc'.toList.length = acc'.size := by simp
    refine vals_of_at (by rw [el, hacc.1, hsz]) fun j x w h1 h2 => ?_
    obtain ⟨hi, e⟩ := hacc.2 j w (by rw [← Array.getElem?_toList]; exact h2)
    rw [e]
    exact hval j hi x h1
  · rw [Array.toArray_toList]; exact hS
end
/-- the values of a dict cell -/
inductive ValsA (M : Mp) (a : Addr) : List D → Prop
  | i {kvs : List (Int × D)} : DkI M a kvs → ValsA M a (kvs.map (·.2))
  | t {kvs : List (List Int × D)} : M a = some (.dT kvs) → ValsA M a (kvs.map (·.2))
section
variable {X : Cx} {b : Bs} {δ : Od} {M : Mp} {e : Expr} {Φ : Mp → D → Prop} {Ψ : Xs} {pos p apos cpos : Pos} {a : Addr}
theorem ew_listVals (hc : X.calm = true) (hg : Gl X "list") (hm : X.mg "list" = none) (h : EW X b δ M e (fun M1 d => ∃ a vs, d = .loc (.ref a) ∧ ValsA M1 a vs ∧ Φ M1 (.lst vs)) Ψ) (hbase : attributeBase e "values" X.env (eval e X.env) = eval e X.env := by rfl) (hline : (apos.endLine == cpos.line) = true := by rfl)
    (hs : starEach [.Call (.Attribute e "values" apos) [] [] cpos] X.env = (false, eval (.Call (.Attribute e "values" apos) [] [] cpos) X.env) :: starEach [] X.env := by rfl) : EW X b δ M (.Call (.Name "list" p) [.Call (.Attribute e "values" apos) [] [] cpos] [] pos) Φ Ψ := fun R mR σ H Q S k kx => by
  refine we_of (pe_listVals hc pe_we hg hm (by decide +kernel) hbase hline hs) ?_
  refine h R mR σ H _ S (fun M1 d v H1 p1 S1 => ?_) kx
  obtain ⟨a, vs, rfl, hv, hΦ⟩ := p1
  obtain ⟨G, S1, z1, z2, z3⟩ := S1
  have hd : ∃ ws, DictAtL H1 a ws ∧ Reps X.K G vs ws := by
    cases hv with
    | i h => obtain ⟨ws, h1, h2⟩ := S1.dk h; exact ⟨_, .inl ⟨ws, h1, rfl⟩, RepK.vals (f := keyI) h2⟩
    | t h => obtain ⟨ws, h1, h2⟩ := S1.dt h; exact ⟨_, .inr ⟨ws, .inl h1, rfl⟩, RepK.vals (f := keyT) h2⟩
  obtain ⟨ws, h1, h2⟩ := hd
  refine ⟨a, ws, Rep.loc_iff.mp z3, h1, fun q hq => ?_⟩
  obtain ⟨S2, sg⟩ := S1.frz hq (.lst ws)
  exact k _ _ _ _ hΦ ⟨_, S2, Mono.env _ _ sg z1, mR _ _ sg z2, Rep.lst_iff.mpr ⟨q, ws, rfl, upd_same, h2.mono sg⟩⟩
end
end D4
end

section
set_option maxRecDepth 100000
set_option maxHeartbeats 4000000
namespace D4
open PySem L2
theorem b_len : bootBuiltins "len" = some (.builtin "len") := by decide +kernel
theorem b_max : bootBuiltins "max" = some (.builtin "max") := by decide +kernel
theorem b_min : bootBuiltins "min" = some (.builtin "min") := by decide +kernel
theorem b_all : bootBuiltins "all" = some (.builtin "all") := by decide +kernel
theorem b_sorted : bootBuiltins "sorted" = some (.builtin "sorted") := by decide +kernel
theorem b_isinstance : bootBuiltins "isinstance" = some (.builtin "isinstance") := by decide +kernel
theorem b_list : bootBuiltins "list" = some (.type "list") := by decide +kernel
theorem b_int : bootBuiltins "int" = some (.type "int") := by decide +kernel
theorem b_str : bootBuiltins "str" = some (.type "str") := by decide +kernel
theorem b_dict : bootBuiltins "dict" = some (.type "dict") := by decide +kernel
theorem b_tuple : bootBuiltins "tuple" = some (.type "tuple") := by decide +kernel
theorem b_set : bootBuiltins "set" = some (.type "set") := by decide +kernel
theorem b_bool : bootBuiltins "bool" = some (.type "bool") := by decide +kernel
theorem b_ValueError : bootBuiltins "ValueError" = some (.type "ValueError") := by decide +kernel
theorem b_range : bootBuiltins "range" = some (.type "range") := by decide +kernel
section
variable (P : Program) (w : World) (K : Fg) (mg : Str → Option Value) (base : Heap)
/-- a def of the text, found by its name -/
def FdOk (x : Str) (ps : List Str) (st : Stmt) : Prop := ∃ f fd, Fun K x x st f fd ∧ mg x = some (.ref f) ∧ Binds K fd ps []
/-- it keeps its promise -/
def OkF (x : Str) (ps : List Str) (k : Nat) (S : FSp) : Prop := ∃ f fd, FnOk P w K mg base (L2.CX P w) k f fd ps (spD K S) ∧ mg x = some (.ref f) ∧ PySem.W.keepIn K (.ref f) = true ∧ Binds K fd ps []
end
section
variable {P : Program} {w : World} {K : Fg} {mg : Str → Option Value} {base : Heap}
theorem fnO {x : Str} {st : Stmt} {N ps : List Str} {k : Nat} {S : FSp} (F : FdOk K mg x ps st) (sc : FnScope N ps (defScope st)) (len : ∀ own fr M ds Φ Ψ, S own fr M ds Φ Ψ → ds.length = ps.length)
    (hbody : ∀ (f : Addr) (cdv : Value) (A : Around) (outer : List PySem.Env) (s : Shared) (H : Hp) (E : XK), Room k (cxOf (L2.CX P w) P w K mg base N x (defScope st) f cdv A outer s H E).A →
      ∀ (b : Bs) (M : Mp) (ds : List D) (Φ : Mp → D → Prop) (Ψ : Xs) (fr : Addr → Prop), (∀ p, fr p ↔ Nw b p) → S b.own fr M ds Φ Ψ →
        SWs (cxOf (L2.CX P w) P w K mg base N x (defScope st) f cdv A outer s H E) b (ds.map some ++ List.replicate (N.length - ds.length) none) M (defBody st) ⟨fun M _ => Φ M .non, Φ, fun _ _ => False, fun _ _ => False, fun c M _ => Ψ c M⟩) :
    OkF P w K mg base x ps (k + 1) S := by
  obtain ⟨f, fd, F, g, bd⟩ := F
  exact ⟨f, fd, fnD F sc len (hbody f), g, F.kp, bd⟩
end
section
variable {X : Cx} {b : Bs} {δ : Od} {M : Mp} {e o k e1 e2 tg elt : Expr} {es ifs : List Expr} {Φ : Mp → D → Prop} {Ψ : Xs} {d d1 d2 : D} {ds : List D} {pos p p2 : Pos} {x : Str} {ps : List Str} {j l : Nat} {S : FSp}
theorem ew_callO (G : OkF X.prog X.w X.K X.mg X.base x ps j S) (hr : Room l X.A) (hg : Gl X x) (h : EWs X b δ M (e :: es) (fun M1 ds => CallS b S M1 ds Φ Ψ) Ψ) (hj : j ≤ l := by decide) (hdb : (x == ("__debug__" : Str)) = false := by decide) (he : starEach (e :: es) X.env = (false, eval e X.env) :: starEach es X.env := by rfl) (hpl : (backTo pos (starEach es X.env)).any (·.1) = false := by rfl) :
    EW X b δ M (.Call (.Name x p) (e :: es) [] pos) Φ Ψ := by
  obtain ⟨f, fd, F, g, kp, bd⟩ := G
  exact ew_call F (hr.mono hj) hg g kp bd h hdb he hpl
theorem ev_callO {Pr : Mp → List D → D → Prop} (G : OkF X.prog X.w X.K X.mg X.base x ps j (PureS Pr)) (hr : Room l X.A) (hg : Gl X x) (h : EVs X b δ M (e :: es) ds) (hP : Pr M ds d) (hj : j ≤ l := by decide) (hdb : (x == ("__debug__" : Str)) = false := by decide) (he : starEach (e :: es) X.env = (false, eval e X.env) :: starEach es X.env := by rfl) (hpl : (backTo pos (starEach es X.env)).any (·.1) = false := by rfl) :
    EV X b δ M (.Call (.Name x p) (e :: es) [] pos) d := ew_callO G hr hg (h.to (.pure hP ⟨rfl, rfl⟩)) hj hdb he hpl
/-! ### comprehensions over a list, a range -/
theorem turn0 {scope : Scope} {t : Bool} {f : D} (ht : t = true) (h : ∀ s' H' Cc cl fp, EV (Blk X scope s' H' Cc cl fp) b δ M elt f) : TurnP X scope b δ M [] elt t f := ⟨ht, h⟩
theorem turn1 {scope : Scope} {c : Expr} {t : Bool} {f : D} (ht : ∀ s' H' Cc cl fp, TV (Blk X scope s' H' Cc cl fp) b δ M c t) (h : t = true → ∀ s' H' Cc cl fp, EV (Blk X scope s' H' Cc cl fp) b δ M elt f) : TurnP X scope b δ M [c] elt t f := ⟨ht, h⟩
theorem filter_all {α : Type} {xs : List α} {t : α → Bool} (h : ∀ x, t x = true) : xs.filter t = xs := List.filter_eq_self.mpr fun x _ => h x
section
variable {scope : Scope} {own : List (Str × Nat)} {α : Type} {xs : List α} {enc : α → D} {t : α → Bool} {f : α → D} {js : List Nat} {g : α → List D} {iter : Expr}
theorem lcp_lst {Φ : Mp → List D → Prop} (h : EV X b δ M iter (.lst (xs.map enc))) (hl : xs.length ≤ 100000) (htg : ∀ x ∈ xs, ∀ s' H' Cc cl fp, GS (Blk X scope s' H' Cc cl fp) tg (enc x) js (g x))
    (hturn : ∀ x ∈ xs, ∀ M2, Sub M M2 → TurnP X scope b (setD (wD δ (own.map (·.2))) js (g x)) M2 ifs elt (t x) (f x)) (q : Φ M ((xs.filter t).map f)) : LcP X b δ M scope own tg iter ifs elt xs enc t f js g Φ Ψ :=
  iw_lst (h.to ⟨_, rfl, rfl, hl, fun _ _ => trivial, htg, hturn, q⟩)
theorem ev_lcL (own : List (Str × Nat)) (js : List Nat) (t : α → Bool) (f : α → D) (g : α → List D) (hc : X.calm = true) (hN : X.N.Nodup) (h : EV X b δ M iter (.lst (xs.map enc))) (hl : xs.length ≤ 100000) (htg : ∀ x ∈ xs, ∀ s' H' Cc cl fp, GS (Blk X scope s' H' Cc cl fp) tg (enc x) js (g x))
    (hturn : ∀ x ∈ xs, ∀ M2, Sub M M2 → TurnP X scope b (setD (wD δ (own.map (·.2))) js (g x)) M2 ifs elt (t x) (f x)) (ok : BlkOk X.N X.env.scope scope own := by exact blkOk_by (by dsimp only [L2.cxOf, PyProof.Rows.envOfC]; decide +kernel)) (hif : ifs.length ≤ 1 := by decide) (hjs : ∀ j ∈ js, j ∈ own.map (·.2) := by decide) (hs : ∀ x, foldedSetIterable iter X.env x = pure x := by exact fun _ => rfl) : EV X b δ M (.ListComp elt [⟨tg, iter, ifs, 0⟩] scope pos) (.lst ((xs.filter t).map f)) :=
  ew_lc hc hN ok (lcp_lst h hl htg hturn ⟨rfl, rfl⟩) hif hjs hs
theorem sw_setL (i : Nat) (own : List (Str × Nat)) (js : List Nat) (t : α → Bool) (f : α → D) (g : α → List D) {E : DE} {y : Str} {py spos : Pos} (hc : X.calm = true) (hN : X.N.Nodup) (h : EV X b δ M iter (.lst (xs.map enc))) (hl : xs.length ≤ 100000) (htg : ∀ x ∈ xs, ∀ s' H' Cc cl fp, GS (Blk X scope s' H' Cc cl fp) tg (enc x) js (g x))
    (hturn : ∀ x ∈ xs, ∀ M2, Sub M M2 → TurnP X scope b (setD (wD δ (own.map (·.2))) js (g x)) M2 ifs elt (t x) (f x)) (q : E.nx M (δ.set i (some (.lst ((xs.filter t).map f))))) (ok : BlkOk X.N X.env.scope scope own := by exact blkOk_by (by dsimp only [L2.cxOf, PyProof.Rows.envOfC]; decide +kernel)) (hy : X.N[i]? = some y := by rfl) (hyl : X.env.scope.names.lookup y = some .local := by rfl)
    (hsw : swapsWith (.ListComp elt [⟨tg, iter, ifs, 0⟩] scope pos) (some (.Name y py)) spos.line X.env = pure true := by exact sw_true rfl rfl rfl (by decide +kernel)) (hif : ifs.length ≤ 1 := by decide) (hjs : ∀ j ∈ js, j ∈ own.map (·.2) := by decide) (hs : ∀ x, foldedSetIterable iter X.env x = pure x := by exact fun _ => rfl) : SW X b δ M (.Assign [.Name y py] (.ListComp elt [⟨tg, iter, ifs, 0⟩] scope pos) spos) E :=
  sw_setLc i hc hN ok (lcp_lst h hl htg hturn q) hy hyl hsw hif hjs hs
end
section
variable {scope : Scope} {t : Nat → Bool} {f : Nat → D} {js : List Nat} {g : Nat → List D} {n : Int} {pr : Pos}
theorem lcp_rng {own : List (Str × Nat)} {Φ : Mp → List D → Prop} (hg : Gl X "range") (hm : X.mg "range" = none) (h : EV X b δ M e (.int n)) (h0 : -1000000 ≤ n) (h1 : n ≤ 100000) (htg : ∀ i : Nat, (i : Int) < n → ∀ s' H' Cc cl fp, GS (Blk X scope s' H' Cc cl fp) tg (.int (i : Nat)) js (g i))
    (hturn : ∀ i : Nat, (i : Int) < n → ∀ M2, Sub M M2 → TurnP X scope b (setD (wD δ (own.map (·.2))) js (g i)) M2 ifs elt (t i) (f i)) (q : Φ M (((List.range n.toNat).filter t).map f))
    (hs : starEach [e] X.env = [(false, eval e X.env)] := by rfl) (hs1 : starEach [e] X.env = (false, eval e X.env) :: starEach [] X.env := by rfl) : LcP X b δ M scope own tg (.Call (.Name "range" p) [e] [] pr) ifs elt (List.range n.toNat) (fun i => .int (i : Nat)) t f js g Φ Ψ :=
  iw_range1 hg hm (h.to ⟨n, rfl, h0, by omega, rfl, by rw [List.length_range]; omega, fun _ _ => trivial, fun i hi => htg i (by have := List.mem_range.mp hi; omega), fun i hi => hturn i (by have := List.mem_range.mp hi; omega), q⟩) hs hs1
theorem ev_lcR (own : List (Str × Nat)) (js : List Nat) (t : Nat → Bool) (f : Nat → D) (g : Nat → List D) (hc : X.calm = true) (hN : X.N.Nodup) (hg : Gl X "range") (hm : X.mg "range" = none) (h : EV X b δ M e (.int n)) (h0 : -1000000 ≤ n) (h1 : n ≤ 100000) (htg : ∀ i : Nat, (i : Int) < n → ∀ s' H' Cc cl fp, GS (Blk X scope s' H' Cc cl fp) tg (.int (i : Nat)) js (g i))
    (hturn : ∀ i : Nat, (i : Int) < n → ∀ M2, Sub M M2 → TurnP X scope b (setD (wD δ (own.map (·.2))) js (g i)) M2 ifs elt (t i) (f i)) (ok : BlkOk X.N X.env.scope scope own := by exact blkOk_by (by dsimp only [L2.cxOf, PyProof.Rows.envOfC]; decide +kernel)) (hif : ifs.length ≤ 1 := by decide) (hjs : ∀ j ∈ js, j ∈ own.map (·.2) := by decide)
    (hs : starEach [e] X.env = [(false, eval e X.env)] := by rfl) (hs1 : starEach [e] X.env = (false, eval e X.env) :: starEach [] X.env := by rfl) : EV X b δ M (.ListComp elt [⟨tg, .Call (.Name "range" p) [e] [] pr, ifs, 0⟩] scope pos) (.lst (((List.range n.toNat).filter t).map f)) :=
  ew_lc hc hN ok (lcp_rng hg hm h h0 h1 htg hturn ⟨rfl, rfl⟩ hs hs1) hif hjs (fun _ => rfl)
end
end
/-- an item at an open place -/
theorem at_open {α : Type} {xs : List α} {i : Int} (dflt : α) (h0 : 0 ≤ i) (h1 : i < xs.length) : atI xs i = some (xs.getD i.toNat dflt) := by
  have hi : i.toNat < xs.length := by omega
  have e : (i.toNat : Int) = i := by omega
  have := atI_nat (xs := xs) (j := i.toNat) (v := xs.getD i.toNat dflt) (by rw [List.getD_eq_getElem?_getD]; simp [hi])
  exact e ▸ this
theorem at_map {α β : Type} {xs : List α} {f : α → β} {i : Int} {x : α} (h : atI xs i = some x) : atI (xs.map f) i = some (f x) := by
  unfold atI at h ⊢
  rw [List.length_map]
  cases e : ixN xs.length i with
  | none => rw [e] at h; cases h
  | some j =>
    rw [e] at h
    show (xs.map f)[j]? = _
    rw [List.getElem?_map, show xs[j]? = some x from h]; rfl
theorem o_isB {X : Cx} {b : Bs} {M : Mp} {i j : Bool} : OW X b (compareOp .Is) M (.bl i) (.bl j) (One M (.bl (decide (i = j)))) :=
  ow_of op_isBl fun R mR x y H G Q S z r1 r2 k => ⟨i, j, Rep.bl_iff.mp r1, Rep.bl_iff.mp r2, k M _ _ H ⟨rfl, rfl⟩ ⟨G, S, z, Rep.bl_iff.mpr rfl⟩⟩
end D4
end

section
set_option maxHeartbeats 1000000
/-! M1: plain law of the counts of ends. -/
namespace D4
open PySem L2

def numD : D → Int
  | .int n => n
  | _ => 0
def incD (acc : List (Int × D)) (k : Int) : List (Int × D) := putD acc k (.int (numD ((lookD acc k).getD (.int 0)) + 1))
def fullsD (ks : List Int) : List (Int × D) := ks.foldl incD []
theorem lookD_map {κ : Type} [DecidableEq κ] (g : κ → D) (k : κ) : ∀ l : List κ, lookD (l.map fun x => (x, g x)) k = if k ∈ l then some (g k) else none
  | [] => rfl
  | x :: l => by
    by_cases e : x = k
    · subst e; simp [lookD]
    · have : lookD ((x :: l).map fun x => (x, g x)) k = lookD (l.map fun x => (x, g x)) k := by simp [lookD, List.find?_cons, e]
      rw [this, lookD_map g k l]
      by_cases h : k ∈ l
      · rw [if_pos h, if_pos (List.mem_cons_of_mem _ h)]
      · rw [if_neg h, if_neg (by simp [h, Ne.symm e])]
theorem putD_map {κ : Type} [DecidableEq κ] (g g' : κ → D) (k : κ) (l : List κ) (hg : ∀ x ∈ l, x ≠ k → g' x = g x) : putD (l.map fun x => (x, g x)) k (g' k) = (if k ∈ l then l else l ++ [k]).map fun x => (x, g' x) := by
  unfold putD
  have ha : ((l.map fun x => (x, g x)).any fun kv => decide (kv.1 = k)) = decide (k ∈ l) := by
    rw [List.any_map]
    induction l with
    | nil => rfl
    | cons x l ih =>
      rw [List.any_cons, ih (fun y h => hg y (List.mem_cons_of_mem _ h))]
      by_cases e : x = k
      · subst e; simp
      · simp [e, Ne.symm e]
  rw [ha]
  by_cases h : k ∈ l
  · rw [if_pos (decide_eq_true h), if_pos h, List.map_map]
    refine List.map_congr_left fun x hx => ?_
    show (if x = k then (x, g' k) else (x, g x)) = (x, g' x)
    by_cases e : x = k
    · subst e; rw [if_pos rfl]
    · rw [if_neg e, hg x hx e]
  · rw [if_neg (by simp [h]), if_neg h, List.map_append]
    congr 1
    refine List.map_congr_left fun x hx => ?_
    rw [hg x hx (fun e => h (e ▸ hx))]
theorem fulls_go (ks pre l : List Int) (hn : l.Nodup) (hm : ∀ k, k ∈ l ↔ k ∈ pre) :
    ∃ l' : List Int, l'.Nodup ∧ (∀ k, k ∈ l' ↔ k ∈ pre ++ ks) ∧ ks.foldl incD (l.map fun k => (k, D.int (pre.count k : Nat))) = l'.map fun k => (k, D.int ((pre ++ ks).count k : Nat)) := by
  induction ks generalizing pre l with
  | nil => exact ⟨l, hn, by simpa using hm, by simp⟩
  | cons k ks ih =>
    have step : incD (l.map fun k => (k, D.int (pre.count k : Nat))) k = (if k ∈ l then l else l ++ [k]).map fun x => (x, D.int ((pre ++ [k]).count x : Nat)) := by
      unfold incD
      rw [lookD_map]
      have e : numD ((if k ∈ l then some (D.int (pre.count k : Nat)) else none).getD (.int 0)) = (pre.count k : Nat) := by
        by_cases h : k ∈ l
        · rw [if_pos h]; rfl
        · rw [if_neg h, List.count_eq_zero_of_not_mem (fun z => h ((hm k).mpr z))]; rfl
      rw [e]
      have e2 : D.int ((pre.count k : Nat) + 1) = (fun x => D.int ((pre ++ [k]).count x : Nat)) k := by
        show _ = D.int ((pre ++ [k]).count k : Nat)
        rw [List.count_append, List.count_singleton_self]; rfl
      rw [e2]
      refine putD_map _ (fun x => D.int ((pre ++ [k]).count x : Nat)) k l fun x _ hx => ?_
      show D.int ((pre ++ [k]).count x : Nat) = D.int (pre.count x : Nat)
      rw [List.count_append, List.count_singleton, if_neg (by simpa using Ne.symm hx)]; rfl
    rw [List.foldl_cons, step]
    obtain ⟨l', h1, h2, h3⟩ := ih (pre ++ [k]) (if k ∈ l then l else l ++ [k]) (by
      by_cases h : k ∈ l
      · rw [if_pos h]; exact hn
      · rw [if_neg h, List.nodup_append]
        exact ⟨hn, by simp, by intro a ha b hb e; simp at hb; subst hb; subst e; exact h ha⟩) (by
      intro x
      by_cases h : k ∈ l
      · rw [if_pos h, hm x, List.mem_append]
        constructor
        · exact fun z => .inl z
        · rintro (z | z)
          · exact z
          · simp at z; subst z; exact (hm x).mp h
      · rw [if_neg h, List.mem_append, List.mem_append, hm x])
    exact ⟨l', h1, by simpa using h2, by simpa using h3⟩
theorem fulls_eq (ks : List Int) : ∃ l : List Int, l.Nodup ∧ (∀ k, k ∈ l ↔ k ∈ ks) ∧ fullsD ks = l.map fun k => (k, D.int (ks.count k : Nat)) := by
  obtain ⟨l, h1, h2, h3⟩ := fulls_go ks [] [] (by simp) (by simp)
  exact ⟨l, h1, by simpa using h2, by simpa [fullsD] using h3⟩
theorem fulls_look (ks : List Int) (k : Int) : lookD (fullsD ks) k = if k ∈ ks then some (D.int (ks.count k : Nat)) else none := by
  obtain ⟨l, h1, h2, h3⟩ := fulls_eq ks
  rw [h3, lookD_map (fun k => D.int (ks.count k : Nat))]
  by_cases h : k ∈ ks
  · rw [if_pos h, if_pos ((h2 k).mpr h)]
  · rw [if_neg h, if_neg (fun z => h ((h2 k).mp z))]
theorem fulls_get (ks : List Int) (k : Int) : (lookD (fullsD ks) k).getD (.int 0) = D.int (ks.count k : Nat) := by
  rw [fulls_look]
  by_cases h : k ∈ ks
  · rw [if_pos h]; rfl
  · rw [if_neg h, List.count_eq_zero_of_not_mem h]; rfl
theorem fulls_snoc (ks : List Int) (k : Int) : fullsD (ks ++ [k]) = putD (fullsD ks) k (.int ((ks.count k : Nat) + 1)) := by
  unfold fullsD
  rw [List.foldl_append]
  show incD (fullsD ks) k = _
  unfold incD
  rw [fulls_get]
  rfl
theorem nodup_len {α : Type} [DecidableEq α] : ∀ {l m : List α}, l.Nodup → (∀ x ∈ l, x ∈ m) → l.length ≤ m.length
  | [], m, _, _ => Nat.zero_le _
  | x :: l, m, hn, h => by
    have hx : x ∈ m := h x List.mem_cons_self
    have h2 := nodup_len (l := l) (m := m.erase x) (List.nodup_cons.mp hn).2 (fun y hy => by
      refine (List.mem_erase_of_ne (fun e => ?_)).mpr (h y (List.mem_cons_of_mem _ hy))
      subst e; exact (List.nodup_cons.mp hn).1 hy)
    rw [List.length_erase_of_mem hx] at h2
    have := List.length_pos_of_mem hx
    rw [List.length_cons]; omega
theorem fulls_len (ks : List Int) : (fullsD ks).length ≤ ks.length := by
  obtain ⟨l, h1, h2, h3⟩ := fulls_eq ks
  rw [h3, List.length_map]
  exact nodup_len h1 (fun k h => (h2 k).mp h)
/-- how full the fullest of these ends is -/
def deg (ks : List Int) : Nat := (ks.map fun k => ks.count k).foldl max 0
theorem foldl_max_le {l : List Nat} {a n : Nat} (ha : a ≤ n) (h : ∀ x ∈ l, x ≤ n) : l.foldl max a ≤ n := by
  induction l generalizing a with
  | nil => exact ha
  | cons x l ih => exact ih (Nat.max_le.mpr ⟨ha, h x List.mem_cons_self⟩) fun y hy => h y (List.mem_cons_of_mem _ hy)
theorem le_foldl_max {l : List Nat} {a : Nat} : a ≤ l.foldl max a := by
  induction l generalizing a with
  | nil => exact Nat.le_refl _
  | cons x l ih => exact Nat.le_trans (Nat.le_max_left _ _) ih
theorem mem_le_foldl_max {l : List Nat} {a x : Nat} (h : x ∈ l) : x ≤ l.foldl max a := by
  induction l generalizing a with
  | nil => cases h
  | cons y l ih =>
    rcases List.mem_cons.mp h with e | h
    · subst e; exact Nat.le_trans (Nat.le_max_right _ _) le_foldl_max
    · exact ih h
theorem foldl_max_mem (l : List Nat) (a : Nat) : l.foldl max a = a ∨ l.foldl max a ∈ l := by
  induction l generalizing a with
  | nil => exact .inl rfl
  | cons x l ih =>
    rcases ih (max a x) with e | e
    · rw [List.foldl_cons, e]
      rcases Nat.le_total a x with h | h
      · rw [Nat.max_eq_right h]; exact .inr List.mem_cons_self
      · rw [Nat.max_eq_left h]; exact .inl rfl
    · exact .inr (List.mem_cons_of_mem _ e)
theorem count_le_deg (ks : List Int) (k : Int) : ks.count k ≤ deg ks := by
  by_cases h : k ∈ ks
  · exact mem_le_foldl_max (List.mem_map.mpr ⟨k, h, rfl⟩)
  · rw [List.count_eq_zero_of_not_mem h]; exact Nat.zero_le _
theorem deg_mem (ks : List Int) : deg ks = 0 ∨ ∃ k ∈ ks, deg ks = ks.count k := by
  rcases foldl_max_mem (ks.map fun k => ks.count k) 0 with h | h
  · exact .inl h
  · obtain ⟨k, h1, h2⟩ := List.mem_map.mp h
    exact .inr ⟨k, h1, h2.symm⟩
theorem deg_le_len (ks : List Int) : deg ks ≤ ks.length := foldl_max_le (Nat.zero_le _) fun x hx => by
  obtain ⟨k, _, rfl⟩ := List.mem_map.mp hx
  exact List.count_le_length
/-- the count of rows with these ends -/
def cntOf (ls rs : List Int) : Nat := max (deg ls) (deg rs)
theorem cnt_max (ls rs : List Int) : ∃ ns : List Int, (([D.int 0] ++ (fullsD ls).map (·.2)) ++ (fullsD rs).map (·.2)) = ns.map D.int ∧ ((cntOf ls rs : Nat) : Int) ∈ ns ∧ ∀ y ∈ ns, y ≤ ((cntOf ls rs : Nat) : Int) := by
  obtain ⟨l1, a1, a2, a3⟩ := fulls_eq ls
  obtain ⟨l2, b1, b2, b3⟩ := fulls_eq rs
  refine ⟨[0] ++ l1.map (fun k => ((ls.count k : Nat) : Int)) ++ l2.map (fun k => ((rs.count k : Nat) : Int)), by rw [a3, b3]; simp [List.map_append, List.map_map, Function.comp_def], ?_, ?_⟩
  · unfold cntOf
    rcases Nat.le_total (deg ls) (deg rs) with h | h
    · rw [Nat.max_eq_right h]
      rcases deg_mem rs with e | ⟨k, hk, e⟩
      · rw [e]; simp
      · rw [e]; simp only [List.mem_append, List.mem_map]; exact .inr ⟨k, (b2 k).mpr hk, rfl⟩
    · rw [Nat.max_eq_left h]
      rcases deg_mem ls with e | ⟨k, hk, e⟩
      · rw [e]; simp
      · rw [e]; simp only [List.mem_append, List.mem_map]; exact .inl (.inr ⟨k, (a2 k).mpr hk, rfl⟩)
  · intro y hy
    have c1 := count_le_deg ls
    have c2 := count_le_deg rs
    have d1 : deg ls ≤ cntOf ls rs := Nat.le_max_left _ _
    have d2 : deg rs ≤ cntOf ls rs := Nat.le_max_right _ _
    simp only [List.mem_append, List.mem_map, List.mem_singleton] at hy
    rcases hy with (e | ⟨k, _, e⟩) | ⟨k, _, e⟩
    · omega
    · have := c1 k; omega
    · have := c2 k; omega
theorem cnt_le_len (ls rs : List Int) (h : ls.length = rs.length) : cntOf ls rs ≤ ls.length := Nat.max_le.mpr ⟨deg_le_len ls, by rw [h]; exact deg_le_len rs⟩
/-- rows, tuples that have an int at that place -/
abbrev Keyed (side : Int) (rs : List D) (ks : List Int) : Prop := Paired (fun r k => ∃ fs, r = D.tup fs ∧ atI fs side = some (.int k)) rs ks
theorem Keyed.get {side : Int} {rs : List D} {ks : List Int} (h : Keyed side rs ks) : ∀ {i : Nat} {r : D}, rs[i]? = some r → ∃ fs k, r = .tup fs ∧ atI fs side = some (.int k) ∧ ks[i]? = some k := by
  induction h with
  | nil => intro i r e; simp at e
  | @cons r k l l' h t ih =>
    intro i r' e
    cases i with
    | zero =>
      have e : r = r' := by simpa using e
      subst e
      obtain ⟨fs, h1, h2⟩ := h
      exact ⟨fs, k, h1, h2, rfl⟩
    | succ i => simpa using ih (by simpa using e)
theorem Keyed.len {side : Int} {rs : List D} {ks : List Int} (h : Keyed side rs ks) : rs.length = ks.length := Paired.length h
theorem Keyed.of {α : Type} {side : Int} (enc : α → List D) (k : α → Int) (h : ∀ x, atI (enc x) side = some (.int (k x))) : ∀ xs : List α, Keyed side (xs.map fun x => .tup (enc x)) (xs.map k)
  | [] => .nil
  | x :: xs => .cons ⟨_, rfl, h x⟩ (Keyed.of enc k h xs)
end D4
end

section
set_option maxRecDepth 100000
set_option maxHeartbeats 4000000
/-! D4u: walks over lists that are cells; comprehensions over them. -/
namespace D4
open PySem L2
theorem walk_listV {K : Fg} {a : Addr} {n : Nat} : Walk (Itl K a) n (fun H => ∃ vs, SqL K H a vs ∧ vs.length = n) (fun i H x H' => H' = H ∧ ∀ vs, SqL K H a vs → vs[i]? = some x) :=
  ⟨fun i _ hi ⟨vs, q, e⟩ => ⟨vs, vs[i]'(by omega), q, by simp [show i < vs.length by omega]⟩, fun _ ⟨vs, q, e⟩ => ⟨vs, q, by omega⟩, fun _ _ _ _ _ _ y => y⟩
theorem LA.sub {M M' : Mp} {d : D} {xs : List D} (h : LA M d xs) (s : Sub M M') : LA M' d xs := by
  cases h with
  | l => exact .l
  | c h => exact .c (s _ _ h)
theorem DkI.sub {M M' : Mp} {a : Addr} {kvs : List (Int × D)} (h : DkI M a kvs) (s : Sub M M') : DkI M' a kvs := by
  rcases h with h | ⟨od, ws, h⟩
  · exact .inl (s _ _ h)
  · exact .inr ⟨od, ws, s _ _ h⟩
section
variable {X : Cx} {b : Bs} {δ : Od} {M : Mp} {e o k e1 e2 tg elt iter : Expr} {es ifs : List Expr} {Φ : Mp → D → Prop} {Ψ : Xs} {d d1 d2 : D} {ds xs : List D} {pos p p2 : Pos} {x : Str} {ps : List Str} {j l : Nat} {a : Addr}
theorem iw_cell {Φ : Mp → (Mp → Prop) → List D → Prop} {Ψ : Xs} (h : EW X b δ M iter (fun M1 d => ∃ a ds, d = .loc (.ref a) ∧ M1 a = some (.lst ds) ∧ Φ M1 (fun M' => M' a = some (.lst ds)) ds) Ψ) : IW X b δ M tg iter Φ Ψ := fun R mR σ H Q S k kx => by
  refine wi_of (pi_list pe_we) ?_
  refine h R mR σ H _ S (fun M1 d v H1 p S1 => ?_) kx
  obtain ⟨a, ds, rfl, hm, p⟩ := p
  obtain ⟨G, S1, z1, z2, z3⟩ := S1
  have e := Rep.loc_iff.mp z3
  obtain ⟨_, o, ho, vs, rfl, rs⟩ := S1.cel a _ hm
  refine ⟨a, e, ⟨vs, SqL.of ho⟩, ?_⟩
  refine k M1 _ ds H1 _ R p mR (fun G z => z) ⟨G, S1, z1, z2⟩ ?_
  refine ⟨_, _, walk_listV (K := X.K) (a := a), fun M' H' hm' ⟨G, S', z⟩ => ?_, fun i d x M' R' H' H'' mR' hi hm' ⟨G, S', r', z⟩ y => ?_⟩
  · obtain ⟨_, o, ho, ws, rfl, rs⟩ := S'.cel a _ hm'
    exact ⟨ws, SqL.of ho, rs.length.symm⟩
  · obtain ⟨_, o, ho, ws, rfl, rs⟩ := S'.cel a _ hm'
    obtain ⟨rfl, hx⟩ := y
    obtain ⟨v, hv, rv⟩ := rs.get hi
    rw [hx ws (SqL.of ho)] at hv; cases hv
    exact ⟨G, S', r', z, rv⟩
theorem iw_la {Φ : Mp → (Mp → Prop) → List D → Prop} {Ψ : Xs} (h : EV X b δ M iter d) (hl : LA M d xs) (q : Φ M (fun M' => LA M' d xs) xs) (hmono : ∀ CM CM' : Mp → Prop, (∀ M', CM M' → CM' M') → Φ M CM xs → Φ M CM' xs) : IW X b δ M tg iter Φ Ψ := by
  cases hl with
  | l => exact iw_lst (h.to ⟨xs, rfl, hmono _ _ (fun _ _ => trivial) q⟩)
  | c hm => exact iw_cell (h.to ⟨_, xs, rfl, hm, hmono _ _ (fun _ h => by cases h with | c h => exact h) q⟩)
/-- a for over a list, frozen or cell -/
theorem sw_forL {E : DE} {body : List Stmt} (I : Nat → Mp → Od → Prop) (hp : PassesOwn (model X.prog X.w) X.A X.env X.xe) (hc : X.calm = true) (h : EV X b δ M iter d) (hl : LA M d xs) (h0 : I 0 M δ) (hI : ∀ i M' δ', I i M' δ' → LA M' d xs)
    (hst : ∀ i x M' δ', xs[i]? = some x → I i M' δ' → GW X b δ' M' tg x fun M2 δ2 => SWs X b δ2 M2 body { E with nx := I (i + 1), ct := I (i + 1), bk := E.nx }) (hE : ∀ M' δ', I xs.length M' δ' → E.nx M' δ') (hs : ∀ x, foldedSetIterable iter X.env x = pure x := by exact fun _ => rfl) : SW X b δ M (.For tg iter body [] pos) E :=
  sw_for hp hc (iw_la h hl ⟨I, h0, hI, hst, hE⟩ fun CM CM' f ⟨I, a1, a2, a3⟩ => ⟨I, a1, fun i M' δ' z => f _ (a2 i M' δ' z), a3⟩) hs
/-- a for over range(n) -/
theorem sw_forR {E : DE} {body : List Stmt} {n : Int} (I : Nat → Mp → Od → Prop) (hp : PassesOwn (model X.prog X.w) X.A X.env X.xe) (hc : X.calm = true) (hg : Gl X "range") (hm : X.mg "range" = none) (h : EV X b δ M e (.int n)) (hn0 : -1000000 ≤ n) (hn1 : n ≤ 1000000) (h0 : I 0 M δ)
    (hst : ∀ (i : Nat) M' δ', (i : Int) < n → I i M' δ' → GW X b δ' M' tg (.int (i : Nat)) fun M2 δ2 => SWs X b δ2 M2 body { E with nx := I (i + 1), ct := I (i + 1), bk := E.nx }) (hE : ∀ M' δ', I n.toNat M' δ' → E.nx M' δ') 
    (hs : starEach [e] X.env = [(false, eval e X.env)] := by rfl) (hs1 : starEach [e] X.env = (false, eval e X.env) :: starEach [] X.env := by rfl) (hs2 : ∀ x, foldedSetIterable (.Call (.Name "range" p) [e] [] p2) X.env x = pure x := by exact fun _ => rfl) : SW X b δ M (.For tg (.Call (.Name "range" p) [e] [] p2) body [] pos) E :=
  sw_for hp hc (iw_range1 hg hm (h.to ⟨n, rfl, hn0, hn1, I, h0, fun _ _ _ _ => trivial, fun i d M' δ' hi hI => by
    unfold rngD at hi
    rw [List.getElem?_map] at hi
    cases q : (List.range n.toNat)[i]? with
    | none => rw [q] at hi; cases hi
    | some j =>
      rw [q] at hi; cases hi
      obtain ⟨hl, hj⟩ := List.getElem?_eq_some_iff.mp q
      rw [List.getElem_range] at hj
      subst hj
      rw [List.length_range] at hl
      exact hst i M' δ' (by omega) hI, by unfold rngD; rw [List.length_map, List.length_range]; exact hE⟩) hs hs1) hs2
section
variable {scope : Scope} {own : List (Str × Nat)} {α : Type} {xs : List α} {enc : α → D} {t : α → Bool} {f : α → D} {js : List Nat} {g : α → List D} {iter : Expr}
theorem lcp_la {Φ : Mp → List D → Prop} (h : EV X b δ M iter d) (la : LA M d (xs.map enc)) (hl : xs.length ≤ 100000) (htg : ∀ x ∈ xs, ∀ s' H' Cc cl fp, GS (Blk X scope s' H' Cc cl fp) tg (enc x) js (g x))
    (hturn : ∀ x ∈ xs, ∀ M2, Sub M M2 → TurnP X scope b (setD (wD δ (own.map (·.2))) js (g x)) M2 ifs elt (t x) (f x)) (q : Φ M ((xs.filter t).map f)) : LcP X b δ M scope own tg iter ifs elt xs enc t f js g Φ Ψ :=
  iw_la h la ⟨rfl, hl, fun M2 s => la.sub s, htg, hturn, q⟩ fun CM CM' f ⟨a1, a2, a3, a4⟩ => ⟨a1, a2, fun M2 s => f _ (a3 M2 s), a4⟩
theorem ev_lcA (own : List (Str × Nat)) (js : List Nat) (t : α → Bool) (f : α → D) (g : α → List D) (hc : X.calm = true) (hN : X.N.Nodup) (h : EV X b δ M iter d) (la : LA M d (xs.map enc)) (hl : xs.length ≤ 100000) (htg : ∀ x ∈ xs, ∀ s' H' Cc cl fp, GS (Blk X scope s' H' Cc cl fp) tg (enc x) js (g x))
    (hturn : ∀ x ∈ xs, ∀ M2, Sub M M2 → TurnP X scope b (setD (wD δ (own.map (·.2))) js (g x)) M2 ifs elt (t x) (f x)) (ok : BlkOk X.N X.env.scope scope own := by exact blkOk_by (by dsimp only [L2.cxOf, PyProof.Rows.envOfC]; decide +kernel)) (hif : ifs.length ≤ 1 := by decide) (hjs : ∀ j ∈ js, j ∈ own.map (·.2) := by decide) (hs : ∀ x, foldedSetIterable iter X.env x = pure x := by exact fun _ => rfl) : EV X b δ M (.ListComp elt [⟨tg, iter, ifs, 0⟩] scope pos) (.lst ((xs.filter t).map f)) :=
  ew_lc hc hN ok (lcp_la h la hl htg hturn ⟨rfl, rfl⟩) hif hjs hs
theorem sw_setA (i : Nat) (own : List (Str × Nat)) (js : List Nat) (t : α → Bool) (f : α → D) (g : α → List D) {E : DE} {y : Str} {py spos : Pos} (hc : X.calm = true) (hN : X.N.Nodup) (h : EV X b δ M iter d) (la : LA M d (xs.map enc)) (hl : xs.length ≤ 100000) (htg : ∀ x ∈ xs, ∀ s' H' Cc cl fp, GS (Blk X scope s' H' Cc cl fp) tg (enc x) js (g x))
    (hturn : ∀ x ∈ xs, ∀ M2, Sub M M2 → TurnP X scope b (setD (wD δ (own.map (·.2))) js (g x)) M2 ifs elt (t x) (f x)) (q : E.nx M (δ.set i (some (.lst ((xs.filter t).map f))))) (ok : BlkOk X.N X.env.scope scope own := by exact blkOk_by (by dsimp only [L2.cxOf, PyProof.Rows.envOfC]; decide +kernel)) (hy : X.N[i]? = some y := by rfl) (hyl : X.env.scope.names.lookup y = some .local := by rfl)
    (hsw : swapsWith (.ListComp elt [⟨tg, iter, ifs, 0⟩] scope pos) (some (.Name y py)) spos.line X.env = pure true := by exact sw_true rfl rfl rfl (by decide +kernel)) (hif : ifs.length ≤ 1 := by decide) (hjs : ∀ j ∈ js, j ∈ own.map (·.2) := by decide) (hs : ∀ x, foldedSetIterable iter X.env x = pure x := by exact fun _ => rfl) : SW X b δ M (.Assign [.Name y py] (.ListComp elt [⟨tg, iter, ifs, 0⟩] scope pos) spos) E :=
  sw_setLc i hc hN ok (lcp_la h la hl htg hturn q) hy hyl hsw hif hjs hs
end
end
end D4
end

section
set_option maxRecDepth 100000
set_option maxHeartbeats 4000000
/-! D4v: small laws of lists and calls. -/
namespace D4
open PySem L2
theorem at_ints {ns : List Int} {i : Int} (h0 : 0 ≤ i) (h1 : i < ns.length) : ∃ n ∈ ns, atI (ns.map D.int) i = some (D.int n) := by
  have hi : i.toNat < ns.length := by omega
  refine ⟨ns[i.toNat], List.getElem_mem hi, ?_⟩
  have e : (i.toNat : Int) = i := by omega
  have := atI_nat (xs := ns.map D.int) (j := i.toNat) (v := D.int ns[i.toNat]) (by simp [hi])
  rw [e] at this; exact this
theorem CallS.of {b : Bs} {S : FSp} {M : Mp} {ds : List D} {Φ : Mp → D → Prop} {Ψ : Xs} (h : ∀ fr, (∀ p, fr p → M p = none ∧ Nw b p) → S (fun _ => False) fr M ds Φ Ψ) : CallS b S M ds Φ Ψ := ⟨fun _ => False, fun _ z => z.elim, h⟩
theorem Okd.lst {ds : List D} (h : ∀ d ∈ ds, okD d = true ∧ depD d ≤ 50) : Okd (.lst ds) := by
  refine ⟨by show okDs ds = true; exact (okDs_iff ds).mpr fun d hd => (h d hd).1, ?_⟩
  show depDs ds + 1 ≤ 60
  have := depDs_le (n := 50) ds fun d hd => (h d hd).2
  omega
theorem cutD_map {α : Type} (f : α → D) (xs : List α) (lo hi : Option Int) : ∃ ys : List α, cutD (xs.map f) lo hi = ys.map f ∧ ys.length ≤ xs.length ∧ ∀ y ∈ ys, y ∈ xs := by
  refine ⟨(xs.drop (HT.sIx (xs.map f).length 0 lo)).take (HT.sIx (xs.map f).length (xs.map f).length hi - HT.sIx (xs.map f).length 0 lo), ?_, ?_, ?_⟩
  · unfold cutD; rw [List.map_take, List.map_drop]
  · rw [List.length_take, List.length_drop]; omega
  · intro y hy; exact List.mem_of_mem_drop (List.mem_of_mem_take hy)
theorem cutD_take (xs : List D) (k : Nat) : cutD xs none (some (k : Int)) = xs.take k := by
  unfold cutD
  rw [HT.sIx_none, HT.sIx_nat, List.drop_zero, Nat.sub_zero]
  by_cases h : k ≤ xs.length
  · rw [Nat.min_eq_left h]
  · rw [Nat.min_eq_right (by omega), List.take_length, List.take_of_length_le (by omega)]
theorem cutD_drop (xs : List D) (k : Nat) : cutD xs (some (k : Int)) none = xs.drop k := by
  unfold cutD
  rw [HT.sIx_none, HT.sIx_nat]
  by_cases h : k ≤ xs.length
  · rw [Nat.min_eq_left h, List.take_of_length_le (by rw [List.length_drop]; omega)]
  · rw [Nat.min_eq_right (by omega), Nat.sub_self, List.take_zero, List.drop_of_length_le (by omega)]
theorem enumD_map {α : Type} (f : α → D) : ∀ (j : Nat) (xs : List α) (i : Nat) (d : D), (enumD j (xs.map f))[i]? = some d → ∃ x, xs[i]? = some x ∧ d = .tup [.int ((j + i : Nat) : Int), f x] := fun j xs i d h => by
  rw [enumD_get, List.getElem?_map] at h
  cases q : xs[i]? with
  | none => rw [q] at h; cases h
  | some x => rw [q] at h; cases h; exact ⟨x, rfl, rfl⟩
/-- some number below n+1 that is not in a list of n -/
theorem free_num (ts : List Int) (n : Nat) (h : ts.length ≤ n) : ∃ m : Int, m ∈ ((List.range (n + 1)).filter fun i : Nat => !decide ((i : Int) ∈ ts)).map (fun i : Nat => (i : Int)) ∧ ∀ y ∈ ((List.range (n + 1)).filter fun i : Nat => !decide ((i : Int) ∈ ts)).map (fun i : Nat => (i : Int)), m ≤ y := by
  have hne : (List.range (n + 1)).filter (fun i : Nat => !decide ((i : Int) ∈ ts)) ≠ [] := fun he => by
    rw [List.filter_eq_nil_iff] at he
    have h1 : ((List.range (n + 1)).map fun i : Nat => (i : Int)).Nodup := by
      unfold List.Nodup
      rw [List.pairwise_map]
      exact List.Pairwise.imp (fun {a b} (h : a ≠ b) e => h (Int.ofNat_inj.mp e)) List.nodup_range
    have h2 := nodup_len h1 (m := ts) fun x hx => by
      obtain ⟨i, hi, rfl⟩ := List.mem_map.mp hx
      have := he i hi
      simpa using this
    rw [List.length_map, List.length_range] at h2
    omega
  generalize hL : (List.range (n + 1)).filter (fun i : Nat => !decide ((i : Int) ∈ ts)) = L at hne
  clear hL
  cases L with
  | nil => exact absurd rfl hne
  | cons a L =>
    clear hne
    induction L generalizing a with
    | nil => exact ⟨a, by simp, by simp⟩
    | cons c L ih =>
      obtain ⟨m, hm, hle⟩ := ih (min a c)
      refine ⟨m, ?_, ?_⟩
      · simp only [List.map_cons, List.mem_cons] at hm ⊢
        rcases hm with e | hm
        · rcases (show min a c = a ∨ min a c = c by omega) with h | h
          · exact .inl (by rw [e, h])
          · exact .inr (.inl (by rw [e, h]))
        · exact .inr (.inr hm)
      · intro y hy
        simp only [List.map_cons, List.mem_cons] at hy hle
        rcases hy with e | e | hy
        · have := hle _ (.inl rfl); omega
        · have := hle _ (.inl rfl); omega
        · exact hle y (.inr hy)
end D4
end

section
set_option maxRecDepth 100000
set_option maxHeartbeats 4000000
/-! D4w: from the law's promise to the row's end. -/
namespace D4
open PySem L2
theorem SO.top {K : Fg} {H : Hp} {own : Addr → Prop} : SO K ⟨H, H, own⟩ (fun _ => none) H H :=
  ⟨fun _ _ h => h, fun _ _ h => h, fun _ h1 h2 => absurd h1 h2, fun _ _ h => (by cases h), fun _ _ h _ => h, fun _ h => h⟩
theorem spD_law {K : Fg} {P : Mp → List D → D → Prop} {H : Hp} {a : Addr} {ns : List Int} (hS : SqL K H a (ns.map V.int)) (h : P (fun _ => none) [.scr ns] (.bl true)) : spD K (PureS P) [.ref a] H (fun v _ => v = .bl true) fun _ _ _ => False := by
  refine ⟨H, fun _ => none, [.scr ns], fun _ => False, fun _ d => d = .bl true, fun _ _ => False, SO.top, Reps.cons (Rep.scr_iff.mpr ⟨a, rfl, hS⟩) .nil, ⟨_, h, rfl⟩, ?_, fun _ _ _ z => z.elim⟩
  rintro M' d v H' rfl ⟨G, _, r⟩
  exact Rep.bl_iff.mp r
theorem cx_no {P : Program} {w : World} {H : Hp} {s : Shared} {e : Value} {s' : Shared} (h : L2.CX P w [] H s (fun _ _ _ => False) e s') : False := by
  obtain ⟨a, B, H', cls, d, _, _, _, _, _, _, _, z⟩ := h
  exact z
theorem law_end {l : PySem.W.OpenLaw} {q : Program} {loose : List Str} {XP : (Str → Option Value) → Heap → Prop} {YP : World → Heap → Prop} {d : DefRec} {K : Params → PySem.W.Frag} {k : Nat} {P : Mp → List D → D → Prop} {x : Str} (hn : l.most = some 63) (hdf : d.params.defaults = []) (hr : Room k callerA)
    (hP : ∀ (ns : List Int), ns.length ≤ 63 → P (fun _ => none) [.scr ns] (.bl true))
    (hY : ∀ (w : World) (h : Heap), YP w h → (K w.params).In h)
    (F : ∀ (w : World) (mg : Str → Option Value) (fa : Addr) (h : Heap), (K w.params).In h → h.Ns mainGlobals mg → mg d.name = some (.ref fa) →
      ∃ fd : FuncData, (∀ (s : Shared) (u : Value), BindsTo s fd ⟨[u], []⟩ [(x, u)]) ∧ ∀ base : Heap, (K w.params).In base → base.Ns mainGlobals mg → FnOk l.prog w (K w.params) mg base (L2.CX l.prog w) k fa fd [x] (spD (K w.params) (PureS P))) :
    PySem.W.WalkO q loose XP YP l.row.toRowW d [] (fun f vs => PySem.call f vs) :=
  L2.walk_of (n := 63) (k := k) (x := x) (CX := fun w => L2.CX l.prog w) (sp := fun w => spD (K w.params) (PureS P)) hn (by decide) hdf hr hY F (fun _ _ a ns hl _ hS => spD_law hS (hP ns hl)) fun _ _ _ _ _ z => cx_no z
end D4
end

section
set_option maxRecDepth 100000
set_option maxHeartbeats 4000000
namespace K8
open PySem L2
def topS (i : Nat) : Stmt := PySem.Challenge.pw_pairhues_k08_rows_looked_at.main.body.getD i (.Pass ⟨0, 0, 0, 0⟩)
abbrev s_fulls : Stmt := topS 1
theorem sc_fulls : FnScope ["rows", "side", "found", "row"] ["rows", "side"] (defScope s_fulls) := ⟨rfl, rfl, rfl, by decide +kernel, rfl, by decide +kernel, by decide +kernel⟩
abbrev s_count_of : Stmt := topS 2
theorem sc_count_of : FnScope ["rows"] ["rows"] (defScope s_count_of) := ⟨rfl, rfl, rfl, by decide +kernel, rfl, by decide +kernel, by decide +kernel⟩
abbrev s_is_good : Stmt := topS 3
theorem sc_is_good : FnScope ["rows", "side", "met", "row"] ["rows"] (defScope s_is_good) := ⟨rfl, rfl, rfl, by decide +kernel, rfl, by decide +kernel, by decide +kernel⟩
abbrev s_law_cell_at : Stmt := topS 5
theorem sc_law_cell_at : FnScope ["_law_script", "_law_k"] ["_law_script", "_law_k"] (defScope s_law_cell_at) := ⟨rfl, rfl, rfl, by decide +kernel, rfl, by decide +kernel, by decide +kernel⟩
abbrev s_law_mixed : Stmt := topS 6
theorem sc_law_mixed : FnScope ["_law_cell", "_law_k"] ["_law_cell", "_law_k"] (defScope s_law_mixed) := ⟨rfl, rfl, rfl, by decide +kernel, rfl, by decide +kernel, by decide +kernel⟩
abbrev s_law_whole : Stmt := topS 7
theorem sc_law_whole : FnScope ["_law_found"] ["_law_found"] (defScope s_law_whole) := ⟨rfl, rfl, rfl, by decide +kernel, rfl, by decide +kernel, by decide +kernel⟩
abbrev s_law_rows : Stmt := topS 8
theorem sc_law_rows : FnScope ["_law_script", "_law_rows_here", "_law_wide", "_law_far", "_law_k", "_law_cell", "_law_mixed_here", "_law_left", "_law_right", "_law_taken", "_law_row", "_law_hue"] ["_law_script"] (defScope s_law_rows) := ⟨rfl, rfl, rfl, by decide +kernel, rfl, by decide +kernel, by decide +kernel⟩
abbrev s_law_spoilt : Stmt := topS 9
theorem sc_law_spoilt : FnScope ["_law_rows_here", "_law_cell", "_law_at", "_law_left", "_law_right", "_law_hue"] ["_law_rows_here", "_law_cell"] (defScope s_law_spoilt) := ⟨rfl, rfl, rfl, by decide +kernel, rfl, by decide +kernel, by decide +kernel⟩
abbrev s_law_many : Stmt := topS 10
theorem sc_law_many : FnScope ["_law_rows_here", "_law_found", "_law_side", "_law_ends", "_law_row", "_law_end"] ["_law_rows_here"] (defScope s_law_many) := ⟨rfl, rfl, rfl, by decide +kernel, rfl, by decide +kernel, by decide +kernel⟩
abbrev s_law_due : Stmt := topS 11
theorem sc_law_due : FnScope ["_law_rows_here", "_law_k", "_law_other", "_law_row"] ["_law_rows_here"] (defScope s_law_due) := ⟨rfl, rfl, rfl, by decide +kernel, rfl, by decide +kernel, by decide +kernel⟩
abbrev s_law : Stmt := topS 12
theorem sc_law : FnScope ["_law_script", "_law_rows_here", "_law_handed", "_law_turn", "_law_found", "_law_row"] ["_law_script"] (defScope s_law) := ⟨rfl, rfl, rfl, by decide +kernel, rfl, by decide +kernel, by decide +kernel⟩
end K8
end

section
set_option maxRecDepth 100000
set_option maxHeartbeats 4000000
/-! M8: rows of three, plain mathematics. -/
namespace K8
open PySem L2 D4
abbrev Row := Int × Int × Int
def enc3 (x : Row) : List D := [.int x.1, .int x.2.1, .int x.2.2]
def enc2 (x : Row) : List D := [.int x.1, .int x.2.1]
def endOf (s : Nat) (x : Row) : Int := if s = 0 then x.1 else x.2.1
def encs (xs : List Row) : List D := xs.map fun x => .tup (enc3 x)
def keyOf (s : Nat) (x : Row) : List Int := [endOf s x, x.2.2]
def cntR (xs : List Row) : Nat := cntOf (xs.map (endOf 0)) (xs.map (endOf 1))
def sideOk (s : Nat) (xs : List Row) : Prop := (xs.map (keyOf s)).Nodup
instance (s : Nat) (xs : List Row) : Decidable (sideOk s xs) := inferInstanceAs (Decidable (List.Nodup _))
def goodB (xs : List Row) : Bool := decide (sideOk 0 xs) && decide (sideOk 1 xs) && xs.all fun x => decide (x.2.2 < cntR xs)
def clash (a b : Row) : Bool := decide (a.2.2 = b.2.2) && (decide (a.1 = b.1) || decide (a.2.1 = b.2.1))
def dueB (xs : List Row) : Bool := decide (xs.Pairwise fun a b => clash a b = false) && decide ((xs.filter fun x => decide ((cntR xs : Int) ≤ x.2.2)) = [])
theorem good_due (xs : List Row) : goodB xs = dueB xs := by
  have h1 : (sideOk 0 xs ∧ sideOk 1 xs) ↔ xs.Pairwise fun a b => clash a b = false := by
    unfold sideOk List.Nodup
    rw [List.pairwise_map, List.pairwise_map, ← List.pairwise_and_iff]
    refine List.Pairwise.iff_of_mem fun {a b} _ _ => ?_
    obtain ⟨a1, a2, a3⟩ := a
    obtain ⟨b1, b2, b3⟩ := b
    simp only [keyOf, endOf, clash, ne_eq, List.cons.injEq, and_true, if_pos, Nat.one_ne_zero, if_false, Bool.and_eq_false_iff, decide_eq_false_iff_not, Bool.or_eq_false_iff]
    constructor
    · rintro ⟨h1, h2⟩
      by_cases h : a3 = b3
      · exact .inr ⟨fun e => h1 ⟨e, h⟩, fun e => h2 ⟨e, h⟩⟩
      · exact .inl h
    · rintro (h | ⟨h1, h2⟩)
      · exact ⟨fun e => h e.2, fun e => h e.2⟩
      · exact ⟨fun e => h1 e.1, fun e => h2 e.1⟩
  have h2 : (xs.all fun x => decide (x.2.2 < cntR xs)) = decide ((xs.filter fun x => decide ((cntR xs : Int) ≤ x.2.2)) = []) := by
    rw [Bool.eq_iff_iff]
    simp only [List.all_eq_true, decide_eq_true_eq, List.filter_eq_nil_iff]
    exact ⟨fun h a ha => by have := h a ha; omega, fun h a ha => by have := h a ha; omega⟩
  unfold goodB dueB
  rw [h2, ← Bool.decide_and, decide_eq_decide.mpr h1]
theorem keyed (s : Nat) (hs : s < 2) (xs : List Row) : Keyed (s : Nat) (encs xs) (xs.map (endOf s)) := by
  refine Keyed.of enc3 (endOf s) (fun x => ?_) xs
  rcases (show s = 0 ∨ s = 1 by omega) with rfl | rfl <;> rfl
theorem keyed2 (s : Nat) (hs : s < 2) (xs : List Row) : Keyed (s : Nat) (xs.map fun x => .tup (enc2 x)) (xs.map (endOf s)) := by
  refine Keyed.of enc2 (endOf s) (fun x => ?_) xs
  rcases (show s = 0 ∨ s = 1 by omega) with rfl | rfl <;> rfl
theorem encs_len (xs : List Row) : (encs xs).length = xs.length := List.length_map _
theorem encs_get {xs : List Row} {i : Nat} {d : D} (h : (encs xs)[i]? = some d) : ∃ x, xs[i]? = some x ∧ d = .tup (enc3 x) := by
  unfold encs at h
  rw [List.getElem?_map] at h
  cases q : xs[i]? with
  | none => rw [q] at h; cases h
  | some x => rw [q] at h; cases h; exact ⟨x, rfl, rfl⟩
/-- the law's many: the greatest count of an end -/
def manyGo (f : Int) (ks : List Int) : Int := (ks.map fun k => ((ks.count k : Nat) : Int)).foldl max f
theorem manyGo_nat (f : Nat) (ks : List Int) : manyGo f ks = ((ks.map fun k => ks.count k).foldl max f : Nat) := by
  unfold manyGo
  suffices h : ∀ (l : List Int) (f : Nat), (l.map fun k => ((ks.count k : Nat) : Int)).foldl max (f : Int) = ((l.map fun k => ks.count k).foldl max f : Nat) from h ks f
  intro l
  induction l with
  | nil => intro f; rfl
  | cons a l ih => intro f; simp only [List.map_cons, List.foldl_cons]; rw [show max (f : Int) (ks.count a : Nat) = ((max f (ks.count a) : Nat) : Int) by omega]; exact ih _
theorem foldl_max0 (l : List Nat) (f : Nat) : l.foldl max f = max f (l.foldl max 0) := by
  induction l generalizing f with
  | nil => simp
  | cons a l ih => simp only [List.foldl_cons]; rw [ih (max f a), ih (max 0 a)]; omega
theorem many_eq (ls rs : List Int) : manyGo (manyGo 0 ls) rs = cntOf ls rs := by
  have h1 : manyGo 0 ls = ((deg ls : Nat) : Int) := manyGo_nat 0 ls
  rw [h1, manyGo_nat, foldl_max0]
  rfl
theorem look_isSome {α κ : Type} [DecidableEq κ] (f : α → κ) (d : D) (k : κ) (xs : List α) : (lookD (xs.map fun x => (f x, d)) k).isSome = true ↔ k ∈ xs.map f := by
  unfold lookD
  rw [Option.isSome_map, List.find?_isSome]
  simp only [List.mem_map, decide_eq_true_eq]
  constructor
  · rintro ⟨_, ⟨a, ha, rfl⟩, e⟩; exact ⟨a, ha, e⟩
  · rintro ⟨a, ha, e⟩; exact ⟨_, ⟨a, ha, rfl⟩, e⟩
theorem max_go (acc : Int) : ∀ l : List Int, l.foldl max acc ∈ acc :: l ∧ ∀ y ∈ acc :: l, y ≤ l.foldl max acc := fun l => by
  induction l generalizing acc with
  | nil => exact ⟨by simp, by simp⟩
  | cons a l ih =>
    obtain ⟨h1, h2⟩ := ih (max acc a)
    rw [List.foldl_cons]
    refine ⟨?_, ?_⟩
    · rcases List.mem_cons.mp h1 with h | h
      · rcases (show max acc a = acc ∨ max acc a = a by omega) with e | e
        · rw [h, e]; simp
        · rw [h, e]; simp
      · exact List.mem_cons_of_mem _ (List.mem_cons_of_mem _ h)
    · intro y hy
      have h0 := h2 (max acc a) List.mem_cons_self
      rcases List.mem_cons.mp hy with h | h
      · omega
      · rcases List.mem_cons.mp h with h | h
        · omega
        · exact h2 y (List.mem_cons_of_mem _ h)
end K8
end

section
set_option maxRecDepth 100000
set_option maxHeartbeats 4000000
open PySem L2 D4
local macro_rules | `(tactic| walk_at "op") => `(tactic| first
  | exact o_add | exact o_sub | exact o_mul (Or.inr ⟨by decide, by decide⟩) | exact o_mul (Or.inl ⟨by decide, by decide⟩) | exact o_div ⟨by decide, by decide⟩ | exact o_mod (by decide) | exact o_lt | exact o_le | exact o_gt | exact o_ge
  | exact o_eqI | exact o_neI | exact o_eqS | exact o_neS | exact o_eqB | exact o_neB | exact o_isN | exact o_notN)
local macro_rules | `(tactic| walk_at "la") => `(tactic| first | exact LA.l | exact LA.c (by assumption) | exact LA.c um_same | exact LA.c (by walk_at "m"))
local macro_rules | `(tactic| walk_at "ix") => `(tactic| first | exact x_tup rfl | exact x_tup (by assumption) | exact x_scr (by assumption) | exact x_la (by walk_at "la") (by assumption) | exact x_la (by walk_at "la") rfl)
local macro_rules | `(tactic| walk_at "m") => `(tactic| first | assumption | exact um_same | exact um_old (by assumption) (by assumption))
local macro_rules | `(tactic| walk_at "w") => `(tactic| first | assumption | exact Nw.wr (by assumption) | exact Or.inl (by assumption))
local macro_rules | `(tactic| walk_at "dk") => `(tactic| first | exact Or.inl (by walk_at "m") | exact Or.inr ⟨_, _, by walk_at "m"⟩)
local macro_rules | `(tactic| walk_at "key") => `(tactic| first | exact IsKey.i (by walk_at "dk") | exact IsKey.t (by walk_at "m"))
local macro_rules | `(tactic| walk_at "ty") => `(tactic| first | exact TyD.int | exact TyD.bl | exact TyD.str | exact TyD.lst | exact TyD.tup | exact TyD.non | exact TyD.cl (by walk_at "m") | exact TyD.cd (by walk_at "m"))
local macro_rules | `(tactic| walk_at "call") => `(tactic| first
  | exact c_lenA (by walk_at "la") | exact c_len_scr | exact c_len_tup | exact c_len_dk (by walk_at "dk") | exact c_isi (c := true) (by walk_at "ty") | exact c_isi (c := false) (by walk_at "ty")
  | exact c_int_bl | exact c_all rfl | exact c_list_lst | exact c_tuple_lst | exact c_max2 rfl | exact c_min2 rfl)

namespace K8
open PySem L2 D4
section
variable {P : Program} {w : World} {K : Fg} {mg : Str → Option Value} {base : Heap}
/-- a cell of the script, 0 beyond its end -/
def cellAt (ns : List Int) (k : Nat) : Int := ns.getD k 0
def S_cell_at : FSp := PureS fun _ ds d => ∃ (ns : List Int) (k : Nat), ds = [.scr ns, .int (k : Int)] ∧ d = .int (cellAt ns k)
theorem ok_cell_at (F : FdOk K mg "_law_cell_at" ["_law_script", "_law_k"] s_law_cell_at) (n_len : mg "len" = none) : OkF P w K mg base "_law_cell_at" ["_law_script", "_law_k"] 1 S_cell_at := by
  refine fnO F sc_law_cell_at (fun own fr M ds Φ Ψ h => ?_) (fun f cdv A outer s H E hr b M ds Φ Ψ fr hfr h => ?_)
  · obtain ⟨d, ⟨ns, k, rfl, rfl⟩, _⟩ := h
    rfl
  · obtain ⟨d, ⟨ns, k, rfl, rfl⟩, hΦ⟩ := h
    refine sws_cons (sw_if (TW.to (tv_cmp (ev_var 1 rfl) (ev_cb rfl n_len b_len (evs_cons (ev_var 0 rfl) evs_nil) (by walk_at "call")) (by walk_at "op")) ⟨fun hc => ?_, fun hc => ?_⟩))
    · have hlt : k < ns.length := by simpa using hc
      have hat : atI ns (k : Int) = some (cellAt ns k) := atI_nat (by unfold cellAt; simp [hlt])
      exact sws_cons (sw_ret (EW.to (ev_ix (ev_var 0 rfl) (ev_var 1 rfl) (by walk_at "ix")) hΦ))
    · refine sws_nil ?_
      have hlt : ¬ k < ns.length := by simpa using hc
      have e : cellAt ns k = 0 := by unfold cellAt; simp [Nat.le_of_not_lt hlt]
      rw [e] at hΦ
      exact sws_cons (sw_ret (EW.to ev_int hΦ))
def mixed (c k : Int) : Int := (c * 48271 + 7919 * k * k + 31 * k) % 2147483647 / 7
def S_mixed : FSp := PureS fun _ ds d => ∃ (c k : Int), ds = [.int c, .int k] ∧ -1000000 ≤ k ∧ k ≤ 1000000 ∧ d = .int (mixed c k)
theorem ok_mixed (F : FdOk K mg "_law_mixed" ["_law_cell", "_law_k"] s_law_mixed) : OkF P w K mg base "_law_mixed" ["_law_cell", "_law_k"] 1 S_mixed := by
  refine fnO F sc_law_mixed (fun own fr M ds Φ Ψ h => ?_) (fun f cdv A outer s H E hr b M ds Φ Ψ fr hfr h => ?_)
  · obtain ⟨d, ⟨ns, k, rfl, _⟩, _⟩ := h
    rfl
  · obtain ⟨d, ⟨c, k, rfl, k1, k2, rfl⟩, hΦ⟩ := h
    have hk : CMul (7919 * k) k := Or.inr ⟨by omega, by omega⟩
    exact sws_cons (sw_ret (EW.to (ev_bin (ev_bin (ev_bin (ev_bin (ev_bin (ev_var 0 rfl) ev_int (by walk_at "op")) (ev_bin (ev_bin ev_int (ev_var 1 rfl) (by walk_at "op")) (ev_var 1 rfl) (o_mul hk)) (by walk_at "op")) (ev_bin ev_int (ev_var 1 rfl) (by walk_at "op")) (by walk_at "op")) ev_int (by walk_at "op")) ev_int (by walk_at "op")) hΦ))
/-- a whole number, no bool -/
def S_whole : FSp := PureS fun M ds d => ∃ i : Int, ds = [.int i] ∧ d = .bl true
theorem ok_whole (F : FdOk K mg "_law_whole" ["_law_found"] s_law_whole) (n_isinstance : mg "isinstance" = none) (n_int : mg "int" = none) (n_bool : mg "bool" = none) : OkF P w K mg base "_law_whole" ["_law_found"] 1 S_whole := by
  refine fnO F sc_law_whole (fun own fr M ds Φ Ψ h => ?_) (fun f cdv A outer s H E hr b M ds Φ Ψ fr hfr h => ?_)
  · obtain ⟨d, ⟨ns, rfl, rfl⟩, _⟩ := h
    rfl
  · obtain ⟨d, ⟨i, rfl, rfl⟩, hΦ⟩ := h
    exact sws_cons (sw_ret (EW.to (EV.cast (ev_and (ev_cb rfl n_isinstance b_isinstance (evs_cons (ev_var 0 rfl) (evs_cons (ev_bltn (v := .ty "int") rfl n_int b_int rfl) evs_nil)) (by walk_at "call")) fun _ => ev_one (ev_not (ev_cb rfl n_isinstance b_isinstance (evs_cons (ev_var 0 rfl) (evs_cons (ev_bltn (v := .ty "bool") rfl n_bool b_bool rfl) evs_nil)) (by walk_at "call")))) (by rfl)) hΦ))
def S_fulls : FSp := fun _ fr M ds Φ _ => ∃ (rs : List D) (ks : List Int) (side : Int), ds = [.lst rs, .int side] ∧ Keyed side rs ks ∧ rs.length ≤ 1000 ∧ ∀ p, fr p → M p = none → Φ (um M p (.dI (fullsD ks))) (.loc (.ref p))
theorem ok_fulls (F : FdOk K mg "fulls" ["rows", "side"] s_fulls) : OkF P w K mg base "fulls" ["rows", "side"] 1 S_fulls := by
  refine fnO F sc_fulls (fun own fr M ds Φ Ψ h => ?_) (fun f cdv A outer s H E hr b M ds Φ Ψ fr hfr h => ?_)
  · obtain ⟨rs, ks, side, rfl, _⟩ := h
    rfl
  · obtain ⟨rs, ks, side, rfl, hk, hl, hΦ⟩ := h
    have hu := hu_of hr
    refine sws_cons (sw_set 2 (ew_dictI fun p hp1 hp2 => ?_) sc_fulls.nd)
    refine sws_cons (sw_forL (fun i M' δ' => M' = um M p (.dI (fullsD (ks.take i))) ∧ ∃ o, δ' = [some (.lst rs), some (.int side), some (.loc (.ref p)), o]) (passes_of rfl) rfl (ev_var 0 rfl) .l ⟨rfl, _, rfl⟩ (fun _ _ _ _ => .l) ?_ ?_)
    · rintro i d M' δ' hi ⟨rfl, o, rfl⟩
      obtain ⟨fs, k, rfl, hat, hki⟩ := hk.get hi
      refine gw_name 3 ?_ sc_fulls.nd
      have hlen : (fullsD (ks.take i)).length < 100000 := by
        have h1 := fulls_len (ks.take i)
        rw [List.length_take] at h1
        have h2 := hk.len
        omega
      refine sws_cons (sw_dput hu (ev_bin ((ev_dget2 hu (ev_var 2 rfl) (ev_ix (ev_var 3 rfl) (ev_var 1 rfl) (by walk_at "ix")) ev_int (by walk_at "key")).cast (fulls_get _ k)) ev_int (by walk_at "op")) (ev_var 2 rfl) (ev_ix (ev_var 3 rfl) (ev_var 1 rfl) (by walk_at "ix")) (by walk_at "m") (by walk_at "w") hlen ?_)
      refine sws_nil ⟨?_, _, rfl⟩
      rw [um_um, take_snoc hki, fulls_snoc]
    · rintro M' δ' ⟨rfl, o, rfl⟩
      refine sws_cons (sw_ret (EW.to (ev_var 2 rfl) ?_))
      have e : ks.take rs.length = ks := by rw [hk.len, List.take_length]
      rw [e]
      exact hΦ p ((hfr p).mpr hp2) hp1
def S_count_of : FSp := PureS fun _ ds d => ∃ (rs : List D) (ls rr : List Int), ds = [.lst rs] ∧ Keyed 0 rs ls ∧ Keyed 1 rs rr ∧ rs.length ≤ 1000 ∧ d = .int (cntOf ls rr : Nat)
theorem ok_count_of (F : FdOk K mg "count_of" ["rows"] s_count_of) (G_fulls : OkF P w K mg base "fulls" ["rows", "side"] 1 S_fulls)
    (n_max : mg "max" = none) (n_list : mg "list" = none) : OkF P w K mg base "count_of" ["rows"] 2 S_count_of := by
  refine fnO F sc_count_of (fun own fr M ds Φ Ψ h => ?_) (fun f cdv A outer s H E hr b M ds Φ Ψ fr hfr h => ?_)
  · obtain ⟨d, ⟨rs, ls, rr, rfl, _⟩, _⟩ := h
    rfl
  · obtain ⟨d, ⟨rs, ls, rr, rfl, h1, h2, hl, rfl⟩, hΦ⟩ := h
    obtain ⟨ns, en, m1, m2⟩ := cnt_max ls rr
    refine sws_cons (sw_ret (EW.less (ew_cb rfl n_max b_max (ews_cons (ew_bin (ew_bin (EW.to (ev_lst (evs_cons ev_int evs_nil)) (ew_listVals rfl rfl n_list (ew_callO G_fulls hr rfl (EWs.to (evs_cons (ev_var 0 rfl) (evs_cons ev_int evs_nil)) ?_))))))))))
    refine ⟨fun _ => False, fun _ z => z.elim, fun fr' hf => ⟨rs, ls, 0, rfl, h1, hl, fun p hp hm => ?_⟩⟩
    have l1 := fulls_len ls
    have l2 := fulls_len rr
    have k1 := h1.len
    have k2 := h2.len
    refine ⟨p, _, rfl, .i (.inl um_same), (o_cat .l .l (by simp; omega)).imp ?_⟩
    rintro M1 d1 ⟨rfl, rfl⟩
    refine ew_listVals rfl rfl n_list (ew_callO G_fulls hr rfl (EWs.to (evs_cons (ev_var 0 rfl) (evs_cons ev_int evs_nil)) ?_))
    refine ⟨fun _ => False, fun _ z => z.elim, fun fr'' hf' => ⟨rs, rr, 1, rfl, h2, hl, fun q hq hm' => ?_⟩⟩
    refine ⟨q, _, rfl, .i (.inl um_same), (o_cat .l .l (by simp; omega)).imp ?_⟩
    rintro M2 d2 ⟨rfl, rfl⟩
    refine ews_nil ?_
    rw [en]
    exact (c_max rfl m1 m2).imp fun M3 d3 ⟨e1, e2⟩ => by
      subst e1; subst e2
      exact ⟨M, (Sub.um hm).trans (Sub.um hm'), hΦ⟩
def S_is_good : FSp := PureS fun _ ds d => ∃ xs : List Row, ds = [.lst (encs xs)] ∧ xs.length ≤ 1000 ∧ d = .bl (goodB xs)
theorem key_ix {x : Row} {s : Nat} (hs : s < 2) : atI (enc3 x) (s : Int) = some (.int (endOf s x)) := by
  rcases (show s = 0 ∨ s = 1 by omega) with rfl | rfl <;> rfl
theorem ok_is_good (F : FdOk K mg "is_good" ["rows"] s_is_good) (G_count_of : OkF P w K mg base "count_of" ["rows"] 2 S_count_of)
    (n_range : mg "range" = none) (n_all : mg "all" = none) : OkF P w K mg base "is_good" ["rows"] 3 S_is_good := by
  refine fnO F sc_is_good (fun own fr M ds Φ Ψ h => ?_) (fun f cdv A outer s H E hr b M ds Φ Ψ fr hfr h => ?_)
  · obtain ⟨d, ⟨xs, rfl, _⟩, _⟩ := h
    rfl
  · obtain ⟨d, ⟨xs, rfl, hl, rfl⟩, hΦ⟩ := h
    have hu := hu_of hr
    have ND := sc_is_good.nd
    refine sws_cons (sw_forR (fun i M' δ' => Sub M M' ∧ (∀ s < i, sideOk s xs) ∧ ∃ o1 o2 o3, δ' = [some (.lst (encs xs)), o1, o2, o3]) (passes_of rfl) rfl rfl n_range ev_int (by decide) (by decide) ⟨.refl, fun _ h => absurd h (Nat.not_lt_zero _), _, _, _, rfl⟩ ?_ ?_)
    · rintro i M' δ' hi ⟨hsub, hso, o1, o2, o3, rfl⟩
      have hi2 : i < 2 := by omega
      refine gw_name 1 ?_ ND
      refine sws_cons (sw_set 2 (ew_dictT fun p hp1 hp2 => ?_) ND)
      refine sws_cons (sw_forL (fun j M2 δ2 => Sub M M2 ∧ M2 p = some (.dT ((xs.take j).map fun x => (keyOf i x, .bl true))) ∧ ((xs.take j).map (keyOf i)).Nodup ∧ ∃ o, δ2 = [some (.lst (encs xs)), some (.int (i : Nat)), some (.loc (.ref p)), o]) (passes_of rfl) rfl (ev_var 0 rfl) .l
        ⟨hsub.trans (Sub.um hp1), um_same, List.nodup_nil, _, rfl⟩ (fun _ _ _ _ => .l) ?_ ?_)
      · rintro j d M2 δ2 hj ⟨hsub2, hmp, hnd, o, rfl⟩
        obtain ⟨x, hx, rfl⟩ := encs_get hj
        refine gw_name 3 ?_ ND
        have hk := key_ix (x := x) hi2
        have elook := look_isSome (keyOf i) (D.bl true) (keyOf i x) (xs.take j)
        refine sws_cons (sw_if (TW.to (tv_din hu (ev_tup (evs_cons (ev_ix (ev_var 3 rfl) (ev_var 1 rfl) (by walk_at "ix")) (evs_cons (ev_ix (ev_var 3 rfl) ev_int (by walk_at "ix")) evs_nil))) (ev_var 2 rfl) (IsKey.t (ks := keyOf i x) hmp)) ⟨fun hc => ?_, fun hc => ?_⟩))
        · refine sws_cons (sw_ret (EW.less (EW.to ev_bl ⟨M, hsub2, ?_⟩)))
          have hmem := elook.mp hc
          have hno : ¬ sideOk i xs := fun hok => by
            have h1 : ((xs.take (j + 1)).map (keyOf i)).Nodup := List.Sublist.nodup ((List.take_sublist _ _).map _) hok
            rw [take_snoc hx, List.map_append, List.nodup_append] at h1
            exact h1.2.2 _ hmem _ (by simp) rfl
          have e : goodB xs = false := by
            unfold goodB
            rcases (show i = 0 ∨ i = 1 by omega) with rfl | rfl <;> simp [hno]
          rw [e] at hΦ
          exact hΦ
        · refine sws_nil ?_
          have hmem : keyOf i x ∉ (xs.take j).map (keyOf i) := fun h => by rw [elook.mpr h] at hc; cases hc
          refine sws_cons (sw_dputT (ks := keyOf i x) hu ev_bl (ev_var 2 rfl) (ev_tup (evs_cons (ev_ix (ev_var 3 rfl) (ev_var 1 rfl) (by walk_at "ix")) (evs_cons (ev_ix (ev_var 3 rfl) ev_int (by walk_at "ix")) evs_nil))) hmp (.inl ?_) ?_ ?_)
          · exact hp2
          · rw [List.length_map, List.length_take]; omega
          · refine sws_nil ⟨?_, ?_, ?_, _, rfl⟩
            · intro a c h
              have : a ≠ p := fun e => by
                have := hsub _ _ h
                rw [e, hp1] at this; cases this
              rw [um_ne this]; exact hsub2 _ _ h
            · rw [um_same]
              congr 2
              rw [take_snoc hx, List.map_append]
              have := putD_map (fun _ => D.bl true) (fun _ => D.bl true) (keyOf i x) ((xs.take j).map (keyOf i)) (fun _ _ _ => rfl)
              rw [if_neg hmem] at this
              simpa only [List.map_map, List.map_append, Function.comp_def, List.map_cons, List.map_nil] using this
            · rw [take_snoc hx, List.map_append, List.nodup_append]
              refine ⟨hnd, by simp, ?_⟩
              rintro a ha b hb rfl
              simp only [List.map_cons, List.map_nil, List.mem_singleton] at hb
              exact hmem (hb ▸ ha)
      · rintro M2 δ2 ⟨hsub2, hmp, hnd, o, rfl⟩
        rw [encs_len, List.take_length] at hnd
        refine sws_nil ⟨hsub2, fun s hs => ?_, _, _, _, rfl⟩
        by_cases h : s < i
        · exact hso s h
        · rw [show s = i by omega]; exact hnd
    · rintro M' δ' ⟨hsub, hso, o1, o2, o3, rfl⟩
      have h0 : sideOk 0 xs := hso 0 (by decide)
      have h1 : sideOk 1 xs := hso 1 (by decide)
      refine sws_cons (sw_ret (EW.less (EW.to (d := .bl (goodB xs)) (ev_cb rfl n_all b_all (evs_cons (ev_lcA (xs := xs) (enc := fun x => .tup (enc3 x)) [("row", 3)] [3] (fun _ => true) (fun x => .bl (decide (x.2.2 < (cntR xs : Int)))) (fun x => [.tup (enc3 x)]) rfl ND (ev_var 0 rfl) .l (by omega) (fun x hx _ _ _ _ _ => gs_name 3 ND) (fun x hx M2 hM => turn0 rfl fun _ _ _ _ _ =>
        (ev_cmp (ev_ix (ev_var 3 rfl) ev_int (by walk_at "ix")) (ev_callO G_count_of hr rfl (evs_cons (ev_var 0 rfl) evs_nil) ⟨_, _, _, rfl, keyed 0 (by decide) xs, keyed 1 (by decide) xs, by rw [encs_len]; exact hl, rfl⟩) (by walk_at "op")))) evs_nil) ?_) ⟨M, hsub, ?_⟩)))
      · rw [filter_all (fun _ => rfl)]
        have e : (xs.map fun x => D.bl (decide (x.2.2 < (cntR xs : Int)))) = (xs.map fun x => decide (x.2.2 < (cntR xs : Int))).map D.bl := by rw [List.map_map]; rfl
        have e2 : goodB xs = ((xs.map fun x => decide (x.2.2 < (cntR xs : Int))).all fun c => c) := by
          unfold goodB
          rw [decide_eq_true h0, decide_eq_true h1, List.all_map]
          rfl
        rw [e, e2]
        exact c_all rfl
      · exact hΦ

end
end K8
end

section
set_option maxRecDepth 100000
set_option maxHeartbeats 4000000
open PySem L2 D4
local macro_rules | `(tactic| walk_at "op") => `(tactic| first
  | exact o_add | exact o_sub | exact o_mul (Or.inr ⟨by decide, by decide⟩) | exact o_mul (Or.inl ⟨by decide, by decide⟩) | exact o_div ⟨by decide, by decide⟩ | exact o_mod (by decide) | exact o_lt | exact o_le | exact o_gt | exact o_ge
  | exact o_eqI | exact o_neI | exact o_eqS | exact o_neS | exact o_eqB | exact o_neB | exact o_isN | exact o_notN)
local macro_rules | `(tactic| walk_at "la") => `(tactic| first | exact LA.l | exact LA.c (by assumption) | exact LA.c um_same | exact LA.c (by walk_at "m"))
local macro_rules | `(tactic| walk_at "ix") => `(tactic| first | exact x_tup rfl | exact x_tup (by assumption) | exact x_scr (by assumption) | exact x_la (by walk_at "la") (by assumption) | exact x_la (by walk_at "la") rfl)
local macro_rules | `(tactic| walk_at "m") => `(tactic| first | assumption | exact um_same | exact um_old (by assumption) (by assumption))
local macro_rules | `(tactic| walk_at "w") => `(tactic| first | assumption | exact Nw.wr (by assumption) | exact Or.inl (by assumption))
local macro_rules | `(tactic| walk_at "dk") => `(tactic| first | exact Or.inl (by walk_at "m") | exact Or.inr ⟨_, _, by walk_at "m"⟩)
local macro_rules | `(tactic| walk_at "key") => `(tactic| first | exact IsKey.i (by walk_at "dk") | exact IsKey.t (by walk_at "m"))
local macro_rules | `(tactic| walk_at "ty") => `(tactic| first | exact TyD.int | exact TyD.bl | exact TyD.str | exact TyD.lst | exact TyD.tup | exact TyD.non | exact TyD.cl (by walk_at "m") | exact TyD.cd (by walk_at "m"))
local macro_rules | `(tactic| walk_at "call") => `(tactic| first
  | exact c_lenA (by walk_at "la") | exact c_len_scr | exact c_len_tup | exact c_len_dk (by walk_at "dk") | exact c_isi (c := true) (by walk_at "ty") | exact c_isi (c := false) (by walk_at "ty")
  | exact c_int_bl | exact c_all rfl | exact c_list_lst | exact c_tuple_lst | exact c_max2 rfl | exact c_min2 rfl)

namespace K8
open PySem L2 D4
section
variable {P : Program} {w : World} {K : Fg} {mg : Str → Option Value} {base : Heap}
def S_many : FSp := PureS fun _ ds d => ∃ xs : List Row, ds = [.lst (encs xs)] ∧ xs.length ≤ 1000 ∧ d = .int (cntR xs : Nat)
theorem ok_many (F : FdOk K mg "_law_many" ["_law_rows_here"] s_law_many) (n_range : mg "range" = none) (n_max : mg "max" = none) : OkF P w K mg base "_law_many" ["_law_rows_here"] 1 S_many := by
  refine fnO F sc_law_many (fun own fr M ds Φ Ψ h => ?_) (fun f cdv A outer s H E hr b M ds Φ Ψ fr hfr h => ?_)
  · obtain ⟨d, ⟨xs, rfl, _⟩, _⟩ := h
    rfl
  · obtain ⟨d, ⟨xs, rfl, hl, rfl⟩, hΦ⟩ := h
    have ND := sc_law_many.nd
    refine sws_cons (sw_set 1 (EW.to ev_int ?_) ND)
    refine sws_cons (sw_forR (fun i M' δ' => M' = M ∧ ∃ o2 o3 o4 o5, δ' = [some (.lst (encs xs)), some (.int (if i = 0 then 0 else if i = 1 then manyGo 0 (xs.map (endOf 0)) else manyGo (manyGo 0 (xs.map (endOf 0))) (xs.map (endOf 1)))), o2, o3, o4, o5]) (passes_of rfl) rfl rfl n_range ev_int (by decide) (by decide) ⟨rfl, _, _, _, _, rfl⟩ ?_ ?_)
    · rintro i M' δ' hi ⟨rfl, o2, o3, o4, o5, rfl⟩
      have hi2 : i < 2 := by omega
      refine gw_name 2 ?_ ND
      have key : ∀ x : Row, atI (enc3 x) (i : Int) = some (.int (endOf i x)) := fun x => key_ix hi2
      refine sws_cons (sw_set 3 (EW.to (ev_lcA (xs := xs) (enc := fun x => .tup (enc3 x)) [("_law_row", 4)] [4] (fun _ => true) (fun x => .int (endOf i x)) (fun x => [.tup (enc3 x)]) rfl ND (ev_var 0 rfl) .l (by omega) (fun x hx _ _ _ _ _ => gs_name 4 ND) (fun x hx M2 hM => turn0 rfl fun _ _ _ _ _ => ev_ix (ev_var 4 rfl) (ev_var 2 rfl) (x_tup (key x)))) ?_) ND)
      have e1 : (xs.filter fun _ => true).map (fun x => D.int (endOf i x)) = (xs.map (endOf i)).map D.int := by rw [filter_all (fun _ => rfl), List.map_map]; rfl
      rw [e1]
      generalize hacc : (if i = 0 then (0 : Int) else if i = 1 then manyGo 0 (xs.map (endOf 0)) else manyGo (manyGo 0 (xs.map (endOf 0))) (xs.map (endOf 1))) = acc
      refine sws_cons (sw_set 1 (EW.to (d := .int (manyGo acc (xs.map (endOf i)))) (ev_cb rfl n_max b_max (evs_cons (ev_bin (ev_lst (evs_cons (ev_var 1 rfl) evs_nil)) (ev_lcA (xs := xs.map (endOf i)) (enc := D.int) [("_law_end", 5)] [5] (fun _ => true) (fun k => .int (((xs.map (endOf i)).count k : Nat) : Int)) (fun k => [.int k]) rfl ND (ev_var 3 rfl) .l (by rw [List.length_map]; omega) (fun x hx _ _ _ _ _ => gs_name 5 ND) (fun x hx M2 hM => turn0 rfl fun _ _ _ _ _ => (ev_count (ev_var 3 rfl) (by walk_at "la") (ev_var 5 rfl)))) (o_cat .l .l ?_)) evs_nil) ?_) ?_) ND)
      · rw [filter_all (fun _ => rfl), List.length_map, List.length_map]; show 1 + _ ≤ _; omega
      · rw [filter_all (fun _ => rfl)]
        have e2 : [D.int acc] ++ (xs.map (endOf i)).map (fun k => D.int (((xs.map (endOf i)).count k : Nat) : Int)) = (acc :: (xs.map (endOf i)).map fun k => (((xs.map (endOf i)).count k : Nat) : Int)).map D.int := by
          simp only [List.map_cons, List.map_map, List.singleton_append, Function.comp_def]
        have hmax := max_go acc ((xs.map (endOf i)).map fun k => (((xs.map (endOf i)).count k : Nat) : Int))
        rw [e2]
        exact c_max rfl hmax.1 hmax.2
      · have e3 : manyGo acc (xs.map (endOf i)) = (if i + 1 = 0 then (0 : Int) else if i + 1 = 1 then manyGo 0 (xs.map (endOf 0)) else manyGo (manyGo 0 (xs.map (endOf 0))) (xs.map (endOf 1))) := by
          rcases (show i = 0 ∨ i = 1 by omega) with rfl | rfl
          · rw [if_pos rfl] at hacc; subst hacc; rfl
          · rw [if_neg (by decide), if_pos rfl] at hacc; subst hacc; rfl
        rw [e3]
        exact sws_nil ⟨rfl, _, _, _, _, rfl⟩
    · rintro M' δ' ⟨rfl, o2, o3, o4, o5, rfl⟩
      have e : (cntR xs : Int) = manyGo (manyGo 0 (xs.map (endOf 0))) (xs.map (endOf 1)) := (many_eq _ _).symm
      rw [e] at hΦ
      exact sws_cons (sw_ret (EW.to (ev_var 1 rfl) hΦ))
def S_due : FSp := PureS fun _ ds d => ∃ xs : List Row, ds = [.lst (encs xs)] ∧ xs.length ≤ 1000 ∧ d = .bl (dueB xs)
theorem ok_due (F : FdOk K mg "_law_due" ["_law_rows_here"] s_law_due) (G_many : OkF P w K mg base "_law_many" ["_law_rows_here"] 1 S_many) (n_range : mg "range" = none) (n_len : mg "len" = none) : OkF P w K mg base "_law_due" ["_law_rows_here"] 2 S_due := by
  refine fnO F sc_law_due (fun own fr M ds Φ Ψ h => ?_) (fun f cdv A outer s H E hr b M ds Φ Ψ fr hfr h => ?_)
  · obtain ⟨d, ⟨xs, rfl, _⟩, _⟩ := h
    rfl
  · obtain ⟨d, ⟨xs, rfl, hl, rfl⟩, hΦ⟩ := h
    have ND := sc_law_due.nd
    have hu := hr.units
    refine sws_cons (sw_forR (fun i M' δ' => M' = M ∧ (xs.take i).Pairwise (fun a b => clash a b = false) ∧ ∃ o1 o2 o3, δ' = [some (.lst (encs xs)), o1, o2, o3]) (passes_of rfl) rfl rfl n_range (ev_cb rfl n_len b_len (evs_cons (ev_var 0 rfl) evs_nil) (by walk_at "call")) (by omega) (by rw [encs_len]; omega) ⟨rfl, by simp, _, _, _, rfl⟩ ?_ ?_)
    · rintro i M' δ' hi ⟨rfl, hpw, o1, o2, o3, rfl⟩
      have hi2 : i < xs.length := by rw [encs_len] at hi; omega
      obtain ⟨x, hx⟩ : ∃ x, xs[i]? = some x := ⟨xs[i], by simp [hi2]⟩
      have hat : atI (encs xs) (i : Int) = some (.tup (enc3 x)) := atI_nat (by unfold encs; rw [List.getElem?_map, hx]; rfl)
      refine gw_name 1 ?_ ND
      have ecut : cutD (encs xs) none (some (i : Int)) = encs (xs.take i) := by rw [cutD_take]; unfold encs; rw [List.map_take]
      refine sws_cons (sw_forL (fun j M2 δ2 => M2 = M' ∧ (∀ y ∈ (xs.take i).take j, clash y x = false) ∧ ∃ o, δ2 = [some (.lst (encs xs)), some (.int (i : Nat)), o, o3]) (passes_of rfl) rfl ((ev_cut (ev_var 0 rfl) (by walk_at "la") .none (.some (ev_var 1 rfl))).cast (congrArg D.lst ecut)) .l ⟨rfl, by simp, _, rfl⟩ (fun _ _ _ _ => .l) ?_ ?_)
      · rintro j d M2 δ2 hj ⟨rfl, hno, o, rfl⟩
        obtain ⟨y, hy, rfl⟩ := encs_get hj
        refine gw_name 2 ?_ ND
        have ymem : y ∈ xs.take i := List.mem_of_getElem? hy
        refine sws_cons (sw_if (TW.to (c := clash y x) (tv_pw (tvw_and (tv_cmp (ev_ix (ev_var 2 rfl) ev_int (by walk_at "ix")) (ev_ix (ev_ix (ev_var 0 rfl) (ev_var 1 rfl) (by walk_at "ix")) ev_int (by walk_at "ix")) (by walk_at "op")) fun _ => (tvw_and1 (tv_pw (tvw_or (tv_cmp (ev_ix (ev_var 2 rfl) ev_int (by walk_at "ix")) (ev_ix (ev_ix (ev_var 0 rfl) (ev_var 1 rfl) (by walk_at "ix")) ev_int (by walk_at "ix")) (by walk_at "op")) fun _ => (tvw_or1 (tv_cmp (ev_ix (ev_var 2 rfl) ev_int (by walk_at "ix")) (ev_ix (ev_ix (ev_var 0 rfl) (ev_var 1 rfl) (by walk_at "ix")) ev_int (by walk_at "ix")) (by walk_at "op")))))))) ⟨fun hc => ?_, fun hc => ?_⟩))
        · have e : dueB xs = false := by
            have : ¬ xs.Pairwise (fun a b => clash a b = false) := fun hp => by
              have h1 : (xs.take (i + 1)).Pairwise (fun a b => clash a b = false) := List.Pairwise.sublist (List.take_sublist _ _) hp
              rw [take_snoc hx, List.pairwise_append] at h1
              have := h1.2.2 y ymem x (by simp)
              rw [this] at hc; cases hc
            unfold dueB
            rw [decide_eq_false this, Bool.false_and]
          rw [e] at hΦ
          exact sws_cons (sw_ret (EW.to ev_bl hΦ))
        · refine sws_nil (sws_nil ⟨rfl, ?_, _, rfl⟩)
          intro z hz
          rw [take_snoc hy, List.mem_append] at hz
          rcases hz with hz | hz
          · exact hno z hz
          · rw [List.mem_singleton.mp hz]; exact hc
      · rintro M2 δ2 ⟨rfl, hno, o, rfl⟩
        refine sws_nil ⟨rfl, ?_, _, _, _, rfl⟩
        rw [encs_len, List.take_length] at hno
        rw [take_snoc hx, List.pairwise_append]
        exact ⟨hpw, by simp, fun a ha b hb => by rw [List.mem_singleton.mp hb]; exact hno a ha⟩
    · rintro M' δ' ⟨rfl, hpw, o1, o2, o3, rfl⟩
      rw [Int.toNat_natCast, encs_len, List.take_length] at hpw
      have e : dueB xs = deq (.lst (((xs.filter fun x => decide ((cntR xs : Int) ≤ x.2.2))).map fun x => .tup (enc3 x))) (.lst []) := by
        rw [deq_lst, deqs_nil_iff]
        unfold dueB
        rw [decide_eq_true hpw, Bool.true_and]
        cases (xs.filter fun x => decide ((cntR xs : Int) ≤ x.2.2)) <;> rfl
      rw [e] at hΦ
      refine sws_cons (sw_ret (EW.to (ev_cmp (ev_lcA (xs := xs) (enc := fun x => .tup (enc3 x)) [("_law_row", 3)] [3] (fun x => decide ((cntR xs : Int) ≤ x.2.2)) (fun x => .tup (enc3 x)) (fun x => [.tup (enc3 x)]) rfl ND (ev_var 0 rfl) .l (by omega) (fun x hx _ _ _ _ _ => gs_name 3 ND) (fun x hx M2 hM => turn1 (fun _ _ _ _ _ => (tv_cmp (ev_ix (ev_var 3 rfl) ev_int (by walk_at "ix")) (ev_callO G_many hr rfl (evs_cons (ev_var 0 rfl) evs_nil) ⟨_, rfl, hl, rfl⟩) (by walk_at "op"))) fun _ _ _ _ _ _ => (ev_var 3 rfl))) (ev_lst evs_nil) (o_eqD hu .f .f (Okd.lst ?_) (Okd.lst (by simp)))) hΦ))
      intro d hd
      obtain ⟨x, _, rfl⟩ := List.mem_map.mp hd
      exact ⟨rfl, Nat.le_of_ble_eq_true rfl⟩

end
end K8
end

section
set_option maxRecDepth 100000
set_option maxHeartbeats 4000000
open PySem L2 D4
local macro_rules | `(tactic| walk_at "op") => `(tactic| first
  | exact o_add | exact o_sub | exact o_mul (Or.inr ⟨by decide, by decide⟩) | exact o_mul (Or.inl ⟨by decide, by decide⟩) | exact o_div ⟨by decide, by decide⟩ | exact o_mod (by decide) | exact o_lt | exact o_le | exact o_gt | exact o_ge
  | exact o_eqI | exact o_neI | exact o_eqS | exact o_neS | exact o_eqB | exact o_neB | exact o_isN | exact o_notN)
local macro_rules | `(tactic| walk_at "la") => `(tactic| first | exact LA.l | exact LA.c (by assumption) | exact LA.c um_same | exact LA.c (by walk_at "m"))
local macro_rules | `(tactic| walk_at "ix") => `(tactic| first | exact x_tup rfl | exact x_tup (by assumption) | exact x_scr (by assumption) | exact x_la (by walk_at "la") (by assumption) | exact x_la (by walk_at "la") rfl)
local macro_rules | `(tactic| walk_at "m") => `(tactic| first | assumption | exact um_same | exact um_old (by assumption) (by assumption))
local macro_rules | `(tactic| walk_at "w") => `(tactic| first | assumption | exact Nw.wr (by assumption) | exact Or.inl (by assumption))
local macro_rules | `(tactic| walk_at "dk") => `(tactic| first | exact Or.inl (by walk_at "m") | exact Or.inr ⟨_, _, by walk_at "m"⟩)
local macro_rules | `(tactic| walk_at "key") => `(tactic| first | exact IsKey.i (by walk_at "dk") | exact IsKey.t (by walk_at "m"))
local macro_rules | `(tactic| walk_at "ty") => `(tactic| first | exact TyD.int | exact TyD.bl | exact TyD.str | exact TyD.lst | exact TyD.tup | exact TyD.non | exact TyD.cl (by walk_at "m") | exact TyD.cd (by walk_at "m"))
local macro_rules | `(tactic| walk_at "call") => `(tactic| first
  | exact c_lenA (by walk_at "la") | exact c_len_scr | exact c_len_tup | exact c_len_dk (by walk_at "dk") | exact c_isi (c := true) (by walk_at "ty") | exact c_isi (c := false) (by walk_at "ty")
  | exact c_int_bl | exact c_all rfl | exact c_list_lst | exact c_tuple_lst | exact c_max2 rfl | exact c_min2 rfl)

namespace K8
open PySem L2 D4
section
variable {P : Program} {w : World} {K : Fg} {mg : Str → Option Value} {base : Heap}
def S_rows : FSp := fun _ _ M ds Φ _ => ∃ ns : List Int, ds = [.scr ns] ∧ ∀ xs : List Row, xs.length ≤ 30 → Φ M (.lst (encs xs))
theorem ok_rows (F : FdOk K mg "_law_rows" ["_law_script"] s_law_rows) (G_cell_at : OkF P w K mg base "_law_cell_at" ["_law_script", "_law_k"] 1 S_cell_at) (G_mixed : OkF P w K mg base "_law_mixed" ["_law_cell", "_law_k"] 1 S_mixed)
    (n_enumerate : mg "enumerate" = none) (n_range : mg "range" = none) (n_min : mg "min" = none) (n_len : mg "len" = none) : OkF P w K mg base "_law_rows" ["_law_script"] 2 S_rows := by
  refine fnO F sc_law_rows (fun own fr M ds Φ Ψ h => ?_) (fun f cdv A outer s H E hr b M ds Φ Ψ fr hfr h => ?_)
  · obtain ⟨ns, rfl, _⟩ := h
    rfl
  · obtain ⟨ns, rfl, hΦ⟩ := h
    have ND := sc_law_rows.nd
    refine sws_cons (sw_set 1 (ew_lstN (EWs.to evs_nil ⟨by decide, fun p hp1 hp2 => ?_⟩)) ND)
    obtain ⟨wide, hwm, hwide⟩ := at_ints (ns := [2, 3, 5, 8]) (i := cellAt ns 0 % 4) (by omega) (by show _ < (4 : Int); omega)
    obtain ⟨far, _, hfar⟩ := at_ints (ns := [0, 0, 0, (10 : Int) ^ (20 : Int).toNat]) (i := cellAt ns 0 / 4 % 4) (by omega) (by show _ < (4 : Int); omega)
    have hw0 : 0 < wide := by
      simp only [List.mem_cons, List.not_mem_nil, or_false] at hwm
      omega
    clear hwm
    refine sws_cons (sw_set 2 (EW.to (ev_ix (ev_lst (evs_cons ev_int (evs_cons ev_int (evs_cons ev_int (evs_cons ev_int evs_nil))))) (ev_bin (ev_callO G_cell_at hr rfl (evs_cons (ev_var 0 rfl) (evs_cons ev_int evs_nil)) ⟨ns, 0, rfl, rfl⟩) ev_int (by walk_at "op")) (x_lst hwide)) ?_) ND)
    refine sws_cons (sw_set 3 (EW.to (ev_ix (ev_lst (evs_cons ev_int (evs_cons ev_int (evs_cons ev_int (evs_cons (ev_bin ev_int ev_int (o_pow ⟨by decide, by decide, by decide⟩)) evs_nil))))) (ev_bin (ev_bin (ev_callO G_cell_at hr rfl (evs_cons (ev_var 0 rfl) (evs_cons ev_int evs_nil)) ⟨ns, 0, rfl, rfl⟩) ev_int (by walk_at "op")) ev_int (by walk_at "op")) (x_lst hfar)) ?_) ND)
    obtain ⟨cs, hcut, hlen, _⟩ := cutD_map D.int ns (some 2) (some 32)
    have hlen30 : cs.length ≤ 30 := by
      have h1 : (cutD (ns.map D.int) (some 2) (some 32)).length ≤ 30 := by
        unfold cutD
        rw [List.length_take]
        have h2 := HT.sIx_nat (ns.map D.int).length 0 2
        have h3 := HT.sIx_nat (ns.map D.int).length (ns.map D.int).length 32
        rw [show ((2 : Nat) : Int) = 2 from rfl] at h2
        rw [show ((32 : Nat) : Int) = 32 from rfl] at h3
        rw [h2, h3]
        omega
      rwa [hcut, List.length_map] at h1
    refine sws_cons (sw_for (passes_of rfl) rfl (iw_enum rfl n_enumerate ((ev_cutS (ev_var 0 rfl) (.some ev_int) (.some ev_int)).cast (congrArg D.lst hcut)) ⟨fun i M' δ' => ∃ xs : List Row, xs.length = i ∧ M' = um M p (.lst (encs xs)) ∧ ∃ o4 o5 o6 o7 o8 o9 o10 o11, δ' = [some (.scr ns), some (.loc (.ref p)), some (.int wide), some (.int far), o4, o5, o6, o7, o8, o9, o10, o11],
      ⟨[], rfl, rfl, _, _, _, _, _, _, _, _, rfl⟩, fun _ _ _ _ => trivial, ?_, ?_⟩))
    · rintro i d M' δ' hi ⟨xs, hxl, rfl, o4, o5, o6, o7, o8, o9, o10, o11, rfl⟩
      obtain ⟨c, hc, rfl⟩ := enumD_map D.int 0 cs i d hi
      have hi30 : i < 30 := by have := (List.getElem?_eq_some_iff.mp hc).1; omega
      refine gw_tup rfl (gws_cons (gw_name 4 (gws_cons (gw_name 5 (gws_nil ?_) ND)) ND))
      have ei : ((0 + i : Nat) : Int) = (i : Int) := by rw [Nat.zero_add]
      rw [ei]
      refine sws_cons (sw_set 6 (EW.to (ev_callO G_mixed hr rfl (evs_cons (ev_var 5 rfl) (evs_cons (ev_var 4 rfl) evs_nil)) ⟨_, _, rfl, by omega, by omega, rfl⟩) ?_) ND)
      generalize mixed c i = m
      refine sws_cons (sw_set 7 (EW.to (ev_bin (ev_bin (ev_var 6 rfl) (ev_var 2 rfl) (o_mod hw0)) (ev_bin (ev_var 3 rfl) (ev_bin (ev_bin (ev_var 6 rfl) ev_int (by walk_at "op")) ev_int (by walk_at "op")) (o_mul (Or.inr ⟨by omega, by omega⟩))) (by walk_at "op")) ?_) ND)
      refine sws_cons (sw_set 8 (EW.to (ev_bin (ev_bin (ev_bin (ev_var 6 rfl) ev_int (by walk_at "op")) (ev_var 2 rfl) (o_mod hw0)) (ev_bin (ev_var 3 rfl) (ev_bin (ev_bin (ev_var 6 rfl) ev_int (by walk_at "op")) ev_int (by walk_at "op")) (o_mul (Or.inr ⟨by omega, by omega⟩))) (by walk_at "op")) ?_) ND)
      generalize m % wide + far * (m / 64 % 2) = l
      generalize m / 8 % wide + far * (m / 128 % 2) = r
      refine sws_cons (sw_set 9 (EW.to (ev_lcA (xs := xs) (enc := fun x => .tup (enc3 x)) [("_law_row", 10)] [10] (fun x => decide (x.1 = l) || decide (x.2.1 = r)) (fun x => .int x.2.2) (fun x => [.tup (enc3 x)]) rfl ND (ev_var 1 rfl) (.c um_same) (by omega) (fun x hx _ _ _ _ _ => gs_name 10 ND) (fun x hx M2 hM => turn1 (fun _ _ _ _ _ => (tv_pw (tvw_or (tv_cmp (ev_ix (ev_var 10 rfl) ev_int (by walk_at "ix")) (ev_var 7 rfl) (by walk_at "op")) fun _ => (tvw_or1 (tv_cmp (ev_ix (ev_var 10 rfl) ev_int (by walk_at "ix")) (ev_var 8 rfl) (by walk_at "op")))))) fun _ _ _ _ _ _ => (ev_ix (ev_var 10 rfl) ev_int (by walk_at "ix")))) ?_) ND)
      have ets : ((xs.filter fun x => decide (x.1 = l) || decide (x.2.1 = r)).map fun x => D.int x.2.2) = ((xs.filter fun x => decide (x.1 = l) || decide (x.2.1 = r)).map fun x => x.2.2).map D.int := by rw [List.map_map]; rfl
      rw [ets]
      have htl : ((xs.filter fun x => decide (x.1 = l) || decide (x.2.1 = r)).map fun x => x.2.2).length ≤ xs.length := by rw [List.length_map]; exact List.length_filter_le _ _
      generalize ((xs.filter fun x => decide (x.1 = l) || decide (x.2.1 = r)).map fun x => x.2.2) = ts at htl
      obtain ⟨mn, hm1, hm2⟩ := free_num ts xs.length htl
      refine sws_cons (sw_expr (ew_append (ev_var 1 rfl) um_same (.inl hp2) (by rw [encs_len]; omega) (EW.to (d := .tup (enc3 (l, r, mn))) (ev_tup (evs_cons (ev_var 7 rfl) (evs_cons (ev_var 8 rfl) (evs_cons (ev_cb rfl n_min b_min (evs_cons (ev_lcR [("_law_hue", 11)] [11] (fun i => !decide ((i : Int) ∈ ts)) (fun i => .int (i : Nat)) (fun i => [.int (i : Nat)]) rfl ND rfl n_range (ev_bin (ev_cb rfl n_len b_len (evs_cons (ev_var 1 rfl) evs_nil) (c_lenA (.c um_same))) ev_int (by walk_at "op")) (by omega) (by rw [encs_len]; omega) (fun x hx _ _ _ _ _ => gs_name 11 ND) (fun x hx M2 hM => turn1 (fun _ _ _ _ _ => (tv_cmp (ev_var 11 rfl) (ev_var 9 rfl) (o_notinI .l))) fun _ _ _ _ _ _ => (ev_var 11 rfl))) evs_nil) ?_) evs_nil)))) ⟨um_same, ?_⟩)))
      · have e1 : ((encs xs).length : Int) + 1 = ((xs.length + 1 : Nat) : Int) := by rw [encs_len]; rfl
        rw [e1, Int.toNat_natCast]
        have e2 : (((List.range (xs.length + 1)).filter fun i : Nat => !decide ((i : Int) ∈ ts)).map fun i : Nat => D.int (i : Int)) = (((List.range (xs.length + 1)).filter fun i : Nat => !decide ((i : Int) ∈ ts)).map fun i : Nat => (i : Int)).map D.int := by rw [List.map_map]; rfl
        rw [e2]
        exact c_min rfl hm1 hm2
      · refine sws_nil ⟨xs ++ [(l, r, mn)], by rw [List.length_append, hxl]; rfl, ?_, _, _, _, _, _, _, _, _, rfl⟩
        rw [um_um]
        unfold encs
        rw [List.map_append]
        rfl
    · rintro M' δ' ⟨xs, hxl, rfl, o4, o5, o6, o7, o8, o9, o10, o11, rfl⟩
      rw [enumD_len, List.length_map] at hxl
      refine sws_cons (sw_retL (ev_var 1 rfl) um_same hp2 ?_)
      rw [dm_um hp1]
      exact hΦ xs (by omega)
def S_spoilt : FSp := fun _ _ M ds Φ _ => ∃ (xs : List Row) (c : Int), ds = [.lst (encs xs), .int c] ∧ xs.length ≤ 30 ∧ ∀ ys : List Row, ys.length ≤ 31 → Φ M (.lst (encs ys))
theorem okd_encs (xs : List Row) : Okd (.lst (encs xs)) := Okd.lst fun d hd => by
  obtain ⟨x, _, rfl⟩ := List.mem_map.mp hd
  exact ⟨rfl, Nat.le_of_ble_eq_true rfl⟩
theorem encs_app (xs ys : List Row) : encs xs ++ encs ys = encs (xs ++ ys) := by unfold encs; rw [List.map_append]
theorem ok_spoilt (F : FdOk K mg "_law_spoilt" ["_law_rows_here", "_law_cell"] s_law_spoilt) (n_len : mg "len" = none) : OkF P w K mg base "_law_spoilt" ["_law_rows_here", "_law_cell"] 1 S_spoilt := by
  refine fnO F sc_law_spoilt (fun own fr M ds Φ Ψ h => ?_) (fun f cdv A outer s H E hr b M ds Φ Ψ fr hfr h => ?_)
  · obtain ⟨xs, c, rfl, _⟩ := h
    rfl
  · obtain ⟨xs, c, rfl, hl, hΦ⟩ := h
    have ND := sc_law_spoilt.nd
    refine sws_cons (sw_if (TW.to (tv_pw (tvw_or (tv_cmp (ev_var 0 rfl) (ev_lst evs_nil) (o_eqD hr.units .f .f (okd_encs xs) (okd_encs []))) fun _ => (tvw_or1 (tv_cmp (ev_bin (ev_var 1 rfl) ev_int (by walk_at "op")) ev_int (by walk_at "op"))))) ⟨fun hc => ?_, fun hc => ?_⟩))
    · exact sws_cons (sw_ret (EW.to (ev_var 0 rfl) (hΦ xs (by omega))))
    refine sws_nil ?_
    have hne : xs ≠ [] := fun e => by
      subst e
      have : deq (.lst (encs [])) (.lst []) = true := rfl
      rw [this] at hc; cases hc
    have hpos : 0 < xs.length := List.length_pos_iff.mpr hne
    refine sws_cons (sw_set 2 (EW.to (ev_bin (ev_bin (ev_var 1 rfl) ev_int (by walk_at "op")) (ev_cb rfl n_len b_len (evs_cons (ev_var 0 rfl) evs_nil) (by walk_at "call")) (o_mod (by rw [encs_len]; omega))) ?_) ND)
    have hmod := Int.emod_lt_of_pos (c / 4) (b := ((encs xs).length : Int)) (by rw [encs_len]; omega)
    have hmod0 := Int.emod_nonneg (c / 4) (b := ((encs xs).length : Int)) (by rw [encs_len]; omega)
    obtain ⟨k, hk⟩ : ∃ k : Nat, c / 4 % ((encs xs).length : Int) = (k : Int) := ⟨_, (Int.toNat_of_nonneg hmod0).symm⟩
    rw [hk] at hmod ⊢
    clear hk hmod0
    have hkl : k < xs.length := by rw [encs_len] at hmod; omega
    obtain ⟨x, hx⟩ : ∃ x, xs[k]? = some x := ⟨xs[k], by simp [hkl]⟩
    have hat : atI (encs xs) (k : Int) = some (.tup (enc3 x)) := atI_nat (by unfold encs; rw [List.getElem?_map, hx]; rfl)
    refine sws_cons (sw_asg (EW.to (ev_ix (ev_var 0 rfl) (ev_var 2 rfl) (by walk_at "ix")) (gw_tup rfl (gws_cons (gw_name 3 (gws_cons (gw_name 4 (gws_cons (gw_name 5 (gws_nil ?_) ND)) ND)) ND)))))
    have ec1 : cutD (encs xs) none (some (k : Int)) = encs (xs.take k) := by rw [cutD_take]; unfold encs; rw [List.map_take]
    have ec2 : cutD (encs xs) (some ((k : Int) + 1)) none = encs (xs.drop (k + 1)) := by rw [show (k : Int) + 1 = ((k + 1 : Nat) : Int) from rfl, cutD_drop]; unfold encs; rw [List.map_drop]
    refine sws_cons (sw_if (TW.to (tv_cmp (ev_bin (ev_var 1 rfl) ev_int (by walk_at "op")) ev_int (by walk_at "op")) ⟨fun hc => ?_, fun hc => ?_⟩))
    · refine sws_cons (sw_ret (EW.to (ev_bin (ev_bin ((ev_cut (ev_var 0 rfl) (by walk_at "la") .none (.some (ev_var 2 rfl))).cast (congrArg D.lst ec1)) (ev_lst (evs_cons (ev_tup (evs_cons (ev_var 3 rfl) (evs_cons (ev_var 4 rfl) (evs_cons (ev_bin (ev_bin (ev_var 1 rfl) ev_int (by walk_at "op")) ev_int (by walk_at "op")) evs_nil)))) evs_nil)) (o_cat .l .l ?_)) ((ev_cut (ev_var 0 rfl) (by walk_at "la") (.some (ev_bin (ev_var 2 rfl) ev_int (by walk_at "op"))) .none).cast (congrArg D.lst ec2)) (o_cat .l .l ?_)) ?_))
      · rw [encs_len, List.length_take]; show _ + 1 ≤ _; omega
      · rw [List.length_append, encs_len, encs_len, List.length_take, List.length_drop]; show _ + 1 + _ ≤ _; omega
      · have := hΦ (xs.take k ++ [(x.1, x.2.1, c / 400 % 9)] ++ xs.drop (k + 1)) (by simp; omega)
        rw [← encs_app, ← encs_app] at this
        exact this
    refine sws_nil ?_
    refine sws_cons (sw_if (TW.to (tv_cmp (ev_bin (ev_var 1 rfl) ev_int (by walk_at "op")) ev_int (by walk_at "op")) ⟨fun hc => ?_, fun hc => ?_⟩))
    · refine sws_cons (sw_ret (EW.to (ev_bin ((ev_cut (ev_var 0 rfl) (by walk_at "la") .none (.some (ev_var 2 rfl))).cast (congrArg D.lst ec1)) ((ev_cut (ev_var 0 rfl) (by walk_at "la") (.some (ev_bin (ev_var 2 rfl) ev_int (by walk_at "op"))) .none).cast (congrArg D.lst ec2)) (o_cat .l .l ?_)) ?_))
      · rw [encs_len, encs_len, List.length_take, List.length_drop]; omega
      · have := hΦ (xs.take k ++ xs.drop (k + 1)) (by simp; omega)
        rw [← encs_app] at this
        exact this
    refine sws_nil ?_
    refine sws_cons (sw_ret (EW.to (ev_bin (ev_var 0 rfl) (ev_lst (evs_cons (ev_ix (ev_var 0 rfl) (ev_var 2 rfl) (by walk_at "ix")) evs_nil)) (o_cat .l .l ?_)) ?_))
    · rw [encs_len]; show _ + 1 ≤ _; omega
    · have := hΦ (xs ++ [x]) (by simp; omega)
      rw [← encs_app] at this
      exact this

end
end K8
end

section
set_option maxRecDepth 100000
set_option maxHeartbeats 4000000
open PySem L2 D4
local macro_rules | `(tactic| walk_at "op") => `(tactic| first
  | exact o_add | exact o_sub | exact o_mul (Or.inr ⟨by decide, by decide⟩) | exact o_mul (Or.inl ⟨by decide, by decide⟩) | exact o_div ⟨by decide, by decide⟩ | exact o_mod (by decide) | exact o_lt | exact o_le | exact o_gt | exact o_ge
  | exact o_eqI | exact o_neI | exact o_eqS | exact o_neS | exact o_eqB | exact o_neB | exact o_isN | exact o_notN)
local macro_rules | `(tactic| walk_at "la") => `(tactic| first | exact LA.l | exact LA.c (by assumption) | exact LA.c um_same | exact LA.c (by walk_at "m"))
local macro_rules | `(tactic| walk_at "ix") => `(tactic| first | exact x_tup rfl | exact x_tup (by assumption) | exact x_scr (by assumption) | exact x_la (by walk_at "la") (by assumption) | exact x_la (by walk_at "la") rfl)
local macro_rules | `(tactic| walk_at "m") => `(tactic| first | assumption | exact um_same | exact um_old (by assumption) (by assumption))
local macro_rules | `(tactic| walk_at "w") => `(tactic| first | assumption | exact Nw.wr (by assumption) | exact Or.inl (by assumption))
local macro_rules | `(tactic| walk_at "dk") => `(tactic| first | exact Or.inl (by walk_at "m") | exact Or.inr ⟨_, _, by walk_at "m"⟩)
local macro_rules | `(tactic| walk_at "key") => `(tactic| first | exact IsKey.i (by walk_at "dk") | exact IsKey.t (by walk_at "m"))
local macro_rules | `(tactic| walk_at "ty") => `(tactic| first | exact TyD.int | exact TyD.bl | exact TyD.str | exact TyD.lst | exact TyD.tup | exact TyD.non | exact TyD.cl (by walk_at "m") | exact TyD.cd (by walk_at "m"))
local macro_rules | `(tactic| walk_at "call") => `(tactic| first
  | exact c_lenA (by walk_at "la") | exact c_len_scr | exact c_len_tup | exact c_len_dk (by walk_at "dk") | exact c_isi (c := true) (by walk_at "ty") | exact c_isi (c := false) (by walk_at "ty")
  | exact c_int_bl | exact c_all rfl | exact c_list_lst | exact c_tuple_lst | exact c_max2 rfl | exact c_min2 rfl)

namespace K8
open PySem L2 D4
section
variable {P : Program} {w : World} {K : Fg} {mg : Str → Option Value} {base : Heap}
def P_law : Mp → List D → D → Prop := fun _ ds d => ∃ ns : List Int, ds = [.scr ns] ∧ d = .bl true
def S_law : FSp := PureS P_law
theorem ok_law {f : Addr} {fd : FuncData} (F : Fun K "law" "law" s_law f fd) (G_cell_at : OkF P w K mg base "_law_cell_at" ["_law_script", "_law_k"] 1 S_cell_at) (G_mixed : OkF P w K mg base "_law_mixed" ["_law_cell", "_law_k"] 1 S_mixed)
    (G_rows : OkF P w K mg base "_law_rows" ["_law_script"] 2 S_rows) (G_spoilt : OkF P w K mg base "_law_spoilt" ["_law_rows_here", "_law_cell"] 1 S_spoilt) (G_whole : OkF P w K mg base "_law_whole" ["_law_found"] 1 S_whole)
    (G_count_of : OkF P w K mg base "count_of" ["rows"] 2 S_count_of) (G_many : OkF P w K mg base "_law_many" ["_law_rows_here"] 1 S_many) (G_is_good : OkF P w K mg base "is_good" ["rows"] 3 S_is_good) (G_due : OkF P w K mg base "_law_due" ["_law_rows_here"] 2 S_due)
    (n_range : mg "range" = none) (n_len : mg "len" = none) (n_list : mg "list" = none) (n_isinstance : mg "isinstance" = none) (n_bool : mg "bool" = none) : FnOk P w K mg base (L2.CX P w) 4 f fd ["_law_script"] (spD K S_law) := by
  refine fnD F sc_law (fun own fr M ds Φ Ψ h => ?_) (fun cdv A outer s H E hr b M ds Φ Ψ fr hfr h => ?_)
  · obtain ⟨d, ⟨ns, rfl, _⟩, _⟩ := h
    rfl
  · obtain ⟨d, ⟨ns, rfl, rfl⟩, hΦ⟩ := h
    have ND := sc_law.nd
    refine sws_cons (sw_set 1 (ew_callO G_spoilt hr rfl (ews_cons (ew_callO G_rows hr rfl (EWs.to (evs_cons (ev_var 0 rfl) evs_nil) (CallS.of fun fr hf => ⟨ns, rfl, fun xs hxl => ?_⟩))))) ND)
    refine ews_cons (EW.to (ev_callO G_mixed hr rfl (evs_cons (ev_callO G_cell_at hr rfl (evs_cons (ev_var 0 rfl) (evs_cons ev_int evs_nil)) ⟨ns, 1, rfl, rfl⟩) (evs_cons ev_int evs_nil)) ⟨_, 3, rfl, by decide, by decide, rfl⟩) (ews_nil ?_))
    refine CallS.of fun fr hf => ⟨xs, _, rfl, hxl, fun ys hyl => ?_⟩
    clear hxl xs
    refine sws_cons (sw_set 2 (EW.to (ev_ct rfl n_list b_list (evs_cons (ev_var 1 rfl) evs_nil) (by walk_at "call")) ?_) ND)
    have e_len := encs_len
    refine sws_cons (sw_forR (fun i M' δ' => M' = M ∧ ∃ (ys : List Row) (o3 o4 o5 : Option D), ys.length ≤ 31 ∧ δ' = [some (.scr ns), some (.lst (encs ys)), some (.lst (encs ys)), o3, o4, o5]) (passes_of rfl) rfl rfl n_range ev_int (by decide) (by decide) ⟨rfl, ys, _, _, _, hyl, rfl⟩ ?_ ?_)
    · rintro i M' δ' hi ⟨rfl, ys, o3, o4, o5, hyl, rfl⟩
      refine gw_name 3 ?_ ND
      have c1 : ∃ (rs : List D) (ls rr : List Int), [D.lst (encs ys)] = [.lst rs] ∧ Keyed 0 rs ls ∧ Keyed 1 rs rr ∧ rs.length ≤ 1000 ∧ D.int (cntR ys : Nat) = .int (cntOf ls rr : Nat) := ⟨_, _, _, rfl, keyed 0 (by decide) ys, keyed 1 (by decide) ys, by rw [e_len]; omega, rfl⟩
      have c2 : ∃ (rs : List D) (ls rr : List Int), [D.lst (ys.map fun x => .tup (enc2 x))] = [.lst rs] ∧ Keyed 0 rs ls ∧ Keyed 1 rs rr ∧ rs.length ≤ 1000 ∧ D.int (cntR ys : Nat) = .int (cntOf ls rr : Nat) := ⟨_, _, _, rfl, keyed2 0 (by decide) ys, keyed2 1 (by decide) ys, by rw [List.length_map]; omega, rfl⟩
      have c3 : ∃ xs : List Row, [D.lst (encs ys)] = [.lst (encs xs)] ∧ xs.length ≤ 1000 ∧ D.int (cntR ys : Nat) = .int (cntR xs : Nat) := ⟨ys, rfl, by omega, rfl⟩
      refine sws_cons (sw_if (TW.to (tv_pw (tvw_or (tv_not (tv_val (ev_callO G_whole hr rfl (evs_cons (ev_callO G_count_of hr rfl (evs_cons (ev_var 2 rfl) evs_nil) c1) evs_nil) ⟨_, rfl, rfl⟩))) fun _ => (tvw_or1 (tv_cmp (ev_callO G_count_of hr rfl (evs_cons (ev_var 2 rfl) evs_nil) c1) (ev_callO G_many hr rfl (evs_cons (ev_var 1 rfl) evs_nil) c3) (by walk_at "op"))))) ⟨fun hc => ?_, fun _ => ?_⟩))
      · simp at hc
      refine sws_nil (sws_cons (sw_if (TW.to (tv_cmp (ev_callO G_count_of hr rfl (evs_cons (EV.cast (ev_lcA (xs := ys) (enc := fun x => .tup (enc3 x)) [("_law_row", 5)] [5] (fun _ => true) (fun x => .tup (cutD (enc3 x) none (some 2))) (fun x => [.tup (enc3 x)]) rfl ND (ev_var 1 rfl) .l (by omega) (fun x hx _ _ _ _ _ => gs_name 5 ND) (fun x hx M2 hM => turn0 rfl fun _ _ _ _ _ => (ev_cutT (ev_var 5 rfl) .none (.some ev_int) (fun h => absurd h.2 (by show ¬ (2 = 3); decide))))) (by rw [filter_all (fun _ => rfl)]; rfl)) evs_nil) c2) (ev_callO G_many hr rfl (evs_cons (ev_var 1 rfl) evs_nil) c3) (by walk_at "op")) ⟨fun hc => ?_, fun _ => ?_⟩)))
      · simp at hc
      refine sws_nil (sws_cons (sw_set 4 (EW.to (ev_callO G_is_good hr rfl (evs_cons (ev_var 2 rfl) evs_nil) ⟨ys, rfl, by omega, rfl⟩) ?_) ND))
      refine sws_cons (sw_if (TW.to (tv_pw (tvw_or (tv_not (tv_val (ev_cb rfl n_isinstance b_isinstance (evs_cons (ev_var 4 rfl) (evs_cons (ev_bltn (v := .ty "bool") rfl n_bool b_bool rfl) evs_nil)) (by walk_at "call")))) fun _ => (tvw_or (tv_cmp (ev_var 4 rfl) (ev_callO G_due hr rfl (evs_cons (ev_var 1 rfl) evs_nil) ⟨ys, rfl, by omega, rfl⟩) (by walk_at "op")) fun _ => (tvw_or1 (tv_cmp (ev_var 2 rfl) (ev_var 1 rfl) (o_neD hr.units .f .f (okd_encs ys) (okd_encs ys))))))) ⟨fun hc => ?_, fun _ => ?_⟩))
      · rw [good_due, deq_refl (okd_encs ys).1] at hc
        simp at hc
      obtain ⟨zs, hz, hzl, _⟩ := cutD_map (fun x => D.tup (enc3 x)) ys none (some (((encs ys).length : Int) / 2 + 1))
      refine sws_nil (sws_cons (sw_set 1 (EW.to (EV.cast (ev_cut (ev_var 1 rfl) (by walk_at "la") .none (.some (ev_bin (ev_bin (ev_cb rfl n_len b_len (evs_cons (ev_var 1 rfl) evs_nil) (by walk_at "call")) ev_int (by walk_at "op")) ev_int (by walk_at "op")))) (congrArg D.lst hz)) ?_) ND))
      refine sws_cons (sw_set 2 (EW.to (ev_ct rfl n_list b_list (evs_cons (ev_var 1 rfl) evs_nil) (by walk_at "call")) ?_) ND)
      exact sws_nil ⟨rfl, zs, _, _, _, by omega, rfl⟩
    · rintro M' δ' ⟨rfl, ys, o3, o4, o5, hyl, rfl⟩
      refine sws_cons (sw_ret (EW.to (EV.cast (ev_and (ev_cmp (ev_callO G_is_good hr rfl (evs_cons (ev_lst evs_nil) evs_nil) ⟨[], rfl, by decide, rfl⟩) ev_bl o_isB) fun _ => (ev_one (ev_cmp (ev_callO G_count_of hr rfl (evs_cons (ev_lst evs_nil) evs_nil) ⟨[], [], [], rfl, keyed 0 (by decide) [], keyed 1 (by decide) [], by decide, rfl⟩) ev_int (by walk_at "op")))) (by rfl)) hΦ))

end
end K8
end

section
set_option maxRecDepth 100000
namespace K8
open PySem L2 D4
theorem P_law_ok (ns : List Int) (_ : ns.length ≤ 63) : P_law (fun _ => none) [.scr ns] (.bl true) := ⟨ns, rfl, rfl⟩
theorem all_mk {l : PySem.W.OpenLaw} {w : World} {K : PySem.W.Frag} {h : Heap} {mg : Str → Option Value} {fa : Addr} (X : K.In h) (G : h.Ns mainGlobals mg) (hfa : mg "law" = some (.ref fa))
    {f0 f1 f2 f3 f4 f5 f6 f7 f8 f9 f10 : Addr} {od0 an0 od1 an1 od2 an2 od3 an3 od4 an4 od5 an5 od6 an6 od7 an7 od8 an8 od9 an9 od10 an10 : Option Addr} {sl0 sl1 sl2 sl3 sl4 sl5 sl6 sl7 sl8 sl9 sl10 : Array (Option Value)} {oc0 kV0 dc0 pm0 cd0 ct0 oc1 kV1 dc1 pm1 cd1 ct1 oc2 kV2 dc2 pm2 cd2 ct2 oc3 kV3 dc3 pm3 cd3 ct3 oc4 kV4 dc4 pm4 cd4 ct4 oc5 kV5 dc5 pm5 cd5 ct5 oc6 kV6 dc6 pm6 cd6 ct6 oc7 kV7 dc7 pm7 cd7 ct7 oc8 kV8 dc8 pm8 cd8 ct8 oc9 kV9 dc9 pm9 cd9 ct9 oc10 kV10 dc10 pm10 cd10 ct10 : Value}
    (a0 : PySem.W.nsIn K mainGlobals "fulls" = some (some (.ref f0))) (l0 : K.lookup f0 = some ⟨oc0, od0, .func (PySem.W.fnOf "fulls" "fulls" (defArgs s_fulls) (defBody s_fulls) (defScope s_fulls) .none kV0 dc0 pm0 an0 cd0 ct0), sl0⟩) (c0 : PySem.W.codeIn K cd0 "fulls" = true) (k0 : PySem.W.keepIn K (.ref f0) = true)
    (a1 : PySem.W.nsIn K mainGlobals "count_of" = some (some (.ref f1))) (l1 : K.lookup f1 = some ⟨oc1, od1, .func (PySem.W.fnOf "count_of" "count_of" (defArgs s_count_of) (defBody s_count_of) (defScope s_count_of) .none kV1 dc1 pm1 an1 cd1 ct1), sl1⟩) (c1 : PySem.W.codeIn K cd1 "count_of" = true) (k1 : PySem.W.keepIn K (.ref f1) = true)
    (a2 : PySem.W.nsIn K mainGlobals "is_good" = some (some (.ref f2))) (l2 : K.lookup f2 = some ⟨oc2, od2, .func (PySem.W.fnOf "is_good" "is_good" (defArgs s_is_good) (defBody s_is_good) (defScope s_is_good) .none kV2 dc2 pm2 an2 cd2 ct2), sl2⟩) (c2 : PySem.W.codeIn K cd2 "is_good" = true) (k2 : PySem.W.keepIn K (.ref f2) = true)
    (a3 : PySem.W.nsIn K mainGlobals "_law_cell_at" = some (some (.ref f3))) (l3 : K.lookup f3 = some ⟨oc3, od3, .func (PySem.W.fnOf "_law_cell_at" "_law_cell_at" (defArgs s_law_cell_at) (defBody s_law_cell_at) (defScope s_law_cell_at) .none kV3 dc3 pm3 an3 cd3 ct3), sl3⟩) (c3 : PySem.W.codeIn K cd3 "_law_cell_at" = true) (k3 : PySem.W.keepIn K (.ref f3) = true)
    (a4 : PySem.W.nsIn K mainGlobals "_law_mixed" = some (some (.ref f4))) (l4 : K.lookup f4 = some ⟨oc4, od4, .func (PySem.W.fnOf "_law_mixed" "_law_mixed" (defArgs s_law_mixed) (defBody s_law_mixed) (defScope s_law_mixed) .none kV4 dc4 pm4 an4 cd4 ct4), sl4⟩) (c4 : PySem.W.codeIn K cd4 "_law_mixed" = true) (k4 : PySem.W.keepIn K (.ref f4) = true)
    (a5 : PySem.W.nsIn K mainGlobals "_law_whole" = some (some (.ref f5))) (l5 : K.lookup f5 = some ⟨oc5, od5, .func (PySem.W.fnOf "_law_whole" "_law_whole" (defArgs s_law_whole) (defBody s_law_whole) (defScope s_law_whole) .none kV5 dc5 pm5 an5 cd5 ct5), sl5⟩) (c5 : PySem.W.codeIn K cd5 "_law_whole" = true) (k5 : PySem.W.keepIn K (.ref f5) = true)
    (a6 : PySem.W.nsIn K mainGlobals "_law_rows" = some (some (.ref f6))) (l6 : K.lookup f6 = some ⟨oc6, od6, .func (PySem.W.fnOf "_law_rows" "_law_rows" (defArgs s_law_rows) (defBody s_law_rows) (defScope s_law_rows) .none kV6 dc6 pm6 an6 cd6 ct6), sl6⟩) (c6 : PySem.W.codeIn K cd6 "_law_rows" = true) (k6 : PySem.W.keepIn K (.ref f6) = true)
    (a7 : PySem.W.nsIn K mainGlobals "_law_spoilt" = some (some (.ref f7))) (l7 : K.lookup f7 = some ⟨oc7, od7, .func (PySem.W.fnOf "_law_spoilt" "_law_spoilt" (defArgs s_law_spoilt) (defBody s_law_spoilt) (defScope s_law_spoilt) .none kV7 dc7 pm7 an7 cd7 ct7), sl7⟩) (c7 : PySem.W.codeIn K cd7 "_law_spoilt" = true) (k7 : PySem.W.keepIn K (.ref f7) = true)
    (a8 : PySem.W.nsIn K mainGlobals "_law_many" = some (some (.ref f8))) (l8 : K.lookup f8 = some ⟨oc8, od8, .func (PySem.W.fnOf "_law_many" "_law_many" (defArgs s_law_many) (defBody s_law_many) (defScope s_law_many) .none kV8 dc8 pm8 an8 cd8 ct8), sl8⟩) (c8 : PySem.W.codeIn K cd8 "_law_many" = true) (k8 : PySem.W.keepIn K (.ref f8) = true)
    (a9 : PySem.W.nsIn K mainGlobals "_law_due" = some (some (.ref f9))) (l9 : K.lookup f9 = some ⟨oc9, od9, .func (PySem.W.fnOf "_law_due" "_law_due" (defArgs s_law_due) (defBody s_law_due) (defScope s_law_due) .none kV9 dc9 pm9 an9 cd9 ct9), sl9⟩) (c9 : PySem.W.codeIn K cd9 "_law_due" = true) (k9 : PySem.W.keepIn K (.ref f9) = true)
    (a10 : PySem.W.nsIn K mainGlobals "law" = some (some (.ref f10))) (l10 : K.lookup f10 = some ⟨oc10, od10, .func (PySem.W.fnOf "law" "law" (defArgs s_law) (defBody s_law) (defScope s_law) .none kV10 dc10 pm10 an10 cd10 ct10), sl10⟩) (c10 : PySem.W.codeIn K cd10 "law" = true) (k10 : PySem.W.keepIn K (.ref f10) = true)
    (z0 : PySem.W.nsIn K mainGlobals "len" = some none)
    (z1 : PySem.W.nsIn K mainGlobals "isinstance" = some none)
    (z2 : PySem.W.nsIn K mainGlobals "int" = some none)
    (z3 : PySem.W.nsIn K mainGlobals "bool" = some none)
    (z4 : PySem.W.nsIn K mainGlobals "max" = some none)
    (z5 : PySem.W.nsIn K mainGlobals "min" = some none)
    (z6 : PySem.W.nsIn K mainGlobals "list" = some none)
    (z7 : PySem.W.nsIn K mainGlobals "range" = some none)
    (z8 : PySem.W.nsIn K mainGlobals "all" = some none)
    (z9 : PySem.W.nsIn K mainGlobals "enumerate" = some none)
    : ∃ fd : FuncData, (∀ (s : Shared) (v : Value), BindsTo s fd ⟨[v], []⟩ [("_law_script", v)]) ∧ ∀ base : Heap, K.In base → base.Ns mainGlobals mg → FnOk l.prog w K mg base (L2.CX l.prog w) 4 fa fd ["_law_script"] (spD K S_law) := by
  have e := hfa.symm.trans (PySem.W.mg_of X G a10)
  cases e
  have F_fulls : FdOk K mg "fulls" ["rows", "side"] s_fulls := ⟨_, _, fun_mk l0 c0 k0, PySem.W.mg_of X G a0, (fun_mk (st := s_fulls) l0 c0 k0).binds (ps := ["rows", "side"]) fun _ _ _ _ _ _ us hl => match us, hl with | [_, _], _ => rfl⟩
  have F_count_of : FdOk K mg "count_of" ["rows"] s_count_of := ⟨_, _, fun_mk l1 c1 k1, PySem.W.mg_of X G a1, (fun_mk (st := s_count_of) l1 c1 k1).binds (ps := ["rows"]) fun _ _ _ _ _ _ us hl => match us, hl with | [_], _ => rfl⟩
  have F_is_good : FdOk K mg "is_good" ["rows"] s_is_good := ⟨_, _, fun_mk l2 c2 k2, PySem.W.mg_of X G a2, (fun_mk (st := s_is_good) l2 c2 k2).binds (ps := ["rows"]) fun _ _ _ _ _ _ us hl => match us, hl with | [_], _ => rfl⟩
  have F_law_cell_at : FdOk K mg "_law_cell_at" ["_law_script", "_law_k"] s_law_cell_at := ⟨_, _, fun_mk l3 c3 k3, PySem.W.mg_of X G a3, (fun_mk (st := s_law_cell_at) l3 c3 k3).binds (ps := ["_law_script", "_law_k"]) fun _ _ _ _ _ _ us hl => match us, hl with | [_, _], _ => rfl⟩
  have F_law_mixed : FdOk K mg "_law_mixed" ["_law_cell", "_law_k"] s_law_mixed := ⟨_, _, fun_mk l4 c4 k4, PySem.W.mg_of X G a4, (fun_mk (st := s_law_mixed) l4 c4 k4).binds (ps := ["_law_cell", "_law_k"]) fun _ _ _ _ _ _ us hl => match us, hl with | [_, _], _ => rfl⟩
  have F_law_whole : FdOk K mg "_law_whole" ["_law_found"] s_law_whole := ⟨_, _, fun_mk l5 c5 k5, PySem.W.mg_of X G a5, (fun_mk (st := s_law_whole) l5 c5 k5).binds (ps := ["_law_found"]) fun _ _ _ _ _ _ us hl => match us, hl with | [_], _ => rfl⟩
  have F_law_rows : FdOk K mg "_law_rows" ["_law_script"] s_law_rows := ⟨_, _, fun_mk l6 c6 k6, PySem.W.mg_of X G a6, (fun_mk (st := s_law_rows) l6 c6 k6).binds (ps := ["_law_script"]) fun _ _ _ _ _ _ us hl => match us, hl with | [_], _ => rfl⟩
  have F_law_spoilt : FdOk K mg "_law_spoilt" ["_law_rows_here", "_law_cell"] s_law_spoilt := ⟨_, _, fun_mk l7 c7 k7, PySem.W.mg_of X G a7, (fun_mk (st := s_law_spoilt) l7 c7 k7).binds (ps := ["_law_rows_here", "_law_cell"]) fun _ _ _ _ _ _ us hl => match us, hl with | [_, _], _ => rfl⟩
  have F_law_many : FdOk K mg "_law_many" ["_law_rows_here"] s_law_many := ⟨_, _, fun_mk l8 c8 k8, PySem.W.mg_of X G a8, (fun_mk (st := s_law_many) l8 c8 k8).binds (ps := ["_law_rows_here"]) fun _ _ _ _ _ _ us hl => match us, hl with | [_], _ => rfl⟩
  have F_law_due : FdOk K mg "_law_due" ["_law_rows_here"] s_law_due := ⟨_, _, fun_mk l9 c9 k9, PySem.W.mg_of X G a9, (fun_mk (st := s_law_due) l9 c9 k9).binds (ps := ["_law_rows_here"]) fun _ _ _ _ _ _ us hl => match us, hl with | [_], _ => rfl⟩
  have F_law := fun_mk (st := s_law) l10 c10 k10
  have n_len := PySem.W.mg_none_of X G z0
  have n_isinstance := PySem.W.mg_none_of X G z1
  have n_int := PySem.W.mg_none_of X G z2
  have n_bool := PySem.W.mg_none_of X G z3
  have n_max := PySem.W.mg_none_of X G z4
  have n_min := PySem.W.mg_none_of X G z5
  have n_list := PySem.W.mg_none_of X G z6
  have n_range := PySem.W.mg_none_of X G z7
  have n_all := PySem.W.mg_none_of X G z8
  have n_enumerate := PySem.W.mg_none_of X G z9
  refine ⟨PySem.W.fnOf "law" "law" (defArgs s_law) (defBody s_law) (defScope s_law) .none kV10 dc10 pm10 an10 cd10 ct10, fun s v => .of_eq rfl, fun base _ _ => ?_⟩
  have G_cell_at := ok_cell_at (P := l.prog) (w := w) (base := base) F_law_cell_at n_len
  have G_mixed := ok_mixed (P := l.prog) (w := w) (base := base) F_law_mixed
  have G_whole := ok_whole (P := l.prog) (w := w) (base := base) F_law_whole n_isinstance n_int n_bool
  have G_fulls := ok_fulls (P := l.prog) (w := w) (base := base) F_fulls
  have G_count_of := ok_count_of (P := l.prog) (w := w) (base := base) F_count_of G_fulls n_max n_list
  have G_is_good := ok_is_good (P := l.prog) (w := w) (base := base) F_is_good G_count_of n_range n_all
  have G_rows := ok_rows (P := l.prog) (w := w) (base := base) F_law_rows G_cell_at G_mixed n_enumerate n_range n_min n_len
  have G_spoilt := ok_spoilt (P := l.prog) (w := w) (base := base) F_law_spoilt n_len
  have G_many := ok_many (P := l.prog) (w := w) (base := base) F_law_many n_range n_max
  have G_due := ok_due (P := l.prog) (w := w) (base := base) F_law_due G_many n_range n_len
  exact ok_law F_law G_cell_at G_mixed G_rows G_spoilt G_whole G_count_of G_many G_is_good G_due n_range n_len n_list n_isinstance n_bool
end K8
open PySem PySem.W PyProof.Rows
set_option maxRecDepth 100000 in
set_option maxHeartbeats 0 in
theorem PySem.Challenge.cw_pairhues_k08_rows_looked_at_holds : PySem.Challenge.rw_pairhues_k08_rows_looked_at.Holds := by
  w_on; o_law; k_head; (case hw => w_witness2)
  k_fill
  refine D4.law_end (l := PySem.Challenge.rw_pairhues_k08_rows_looked_at) (k := 4) (P := K8.P_law) (x := "_law_script") rfl rfl ⟨rfl, by decide, by decide⟩ K8.P_law_ok (fun w h Y => PySem.W.kIn_of Y) ?F
  case F =>
    intro w mg fa h KX G hmg
    refine' K8.all_mk KX G hmg ?a0 ?l0 ?c0 ?k0 ?a1 ?l1 ?c1 ?k1 ?a2 ?l2 ?c2 ?k2 ?a3 ?l3 ?c3 ?k3 ?a4 ?l4 ?c4 ?k4 ?a5 ?l5 ?c5 ?k5 ?a6 ?l6 ?c6 ?k6 ?a7 ?l7 ?c7 ?k7 ?a8 ?l8 ?c8 ?k8 ?a9 ?l9 ?c9 ?k9 ?a10 ?l10 ?c10 ?k10 ?z0 ?z1 ?z2 ?z3 ?z4 ?z5 ?z6 ?z7 ?z8 ?z9
    (case a0 => k_is); (case l0 => k_is); (case c0 => k_is); (case k0 => k_is); (case a1 => k_is); (case l1 => k_is)
    (case c1 => k_is); (case k1 => k_is); (case a2 => k_is); (case l2 => k_is); (case c2 => k_is); (case k2 => k_is)
    (case a3 => k_is); (case l3 => k_is); (case c3 => k_is); (case k3 => k_is); (case a4 => k_is); (case l4 => k_is)
    (case c4 => k_is); (case k4 => k_is); (case a5 => k_is); (case l5 => k_is); (case c5 => k_is); (case k5 => k_is)
    (case a6 => k_is); (case l6 => k_is); (case c6 => k_is); (case k6 => k_is); (case a7 => k_is); (case l7 => k_is)
    (case c7 => k_is); (case k7 => k_is); (case a8 => k_is); (case l8 => k_is); (case c8 => k_is); (case k8 => k_is)
    (case a9 => k_is); (case l9 => k_is); (case c9 => k_is); (case k9 => k_is); (case a10 => k_is); (case l10 => k_is)
    (case c10 => k_is); (case k10 => k_is); (case z0 => k_is); (case z1 => k_is); (case z2 => k_is); (case z3 => k_is)
    (case z4 => k_is); (case z5 => k_is); (case z6 => k_is); (case z7 => k_is); (case z8 => k_is); (case z9 => k_is)
end
